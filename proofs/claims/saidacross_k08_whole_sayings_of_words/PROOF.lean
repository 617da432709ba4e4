import PyProof.Rows.All
import Wide.All
import OpenK.AllK
import Wide.FinOn
import KE.KStateDown
import KE.GoesNew
import HandS.ForMost
import HandS.Exc
import HandS.TryOnly
import HandS.TryMany
import HandS.ExcOwn
import HandS.ExcBuiltin
import HandS.Small
import HandS.WordsExc
import HandS.IsInst
import HandS.StrMore
import HandS.TupAny
import HandS.Zip
import HandS.Defaults
import HandS.Head0
import HandS.Head1
import HandS.Head2
import HandS.HeadEnd
import HandS.HeadHook1
import HandS.HeadHook2
import HandS.Walk
import KE.GoesMore
import HandS.Iter
import PyProof.CollectStr
import HandS.Conv
import HandS.Style
import HandS.Wide
import HandS.Rev
import HandS.RevRange
import HandS.SortInts
import HandS.ExcIs
import HandS.ExcField
import HandS.Rindex
import HandS.HeadHook4
import PyProof.StrLawsFrom
import PyProof.Rows.RegReprOcc
import PyProof.Rows.StrLast
import PyProof.Rows.Walk
import PySem.Challenge.RW_saidacross_k08_whole_sayings_of_words
set_option Elab.async false
set_option linter.all false
set_option maxRecDepth 100000
set_option maxHeartbeats 4000000
namespace S
open PySem PySem.Spec PyProof.Rows L2
abbrev St := L2.St

/-! ### rules of more than one kind -/
section
variable {X : Cx}
/-- a text so many times -/
def repS (z : Str) (n : Nat) : Str := ⟨((List.replicate n z.cps.toList).flatten).toArray⟩
theorem foldl_app : ∀ (l : List (Array Nat)) (a : Array Nat), l.foldl (· ++ ·) a = (a.toList ++ (l.map Array.toList).flatten).toArray
  | [], a => by simp
  | b :: r, a => by
    rw [List.foldl_cons, foldl_app r]
    simp
theorem repS_fold (z : Str) (n : Nat) : (⟨(List.replicate n z.cps).foldl (· ++ ·) #[]⟩ : Str) = repS z n := by
  unfold repS
  rw [foldl_app]
  simp
theorem repS_one (z : Str) : repS z 1 = z := by
  obtain ⟨c⟩ := z
  simp [repS]
theorem repS_zero (z : Str) : repS z 0 = Str.empty := by
  simp [repS]
  rfl
theorem repS_empty (z : Str) (h : z.length = 0) (n : Nat) : repS z n = z := by
  obtain ⟨c⟩ := z
  have e : c.toList = [] := by
    have h1 : c.size = 0 := h
    exact List.eq_nil_of_length_eq_zero (by simpa using h1)
  have e2 : c = #[] := by simpa using congrArg List.toArray e
  subst e2
  simp [repS]
theorem repS_length (z : Str) (n : Nat) : (repS z n).length = n * z.length := by
  show ((List.replicate n z.cps.toList).flatten).toArray.size = _
  rw [List.size_toArray, List.length_flatten]
  simp
  rfl
def rMulSI : R2 := fun x y H Q => ∃ z i, x = .str z ∧ y = .int i ∧ i < 2 ^ 62 ∧ -(2 ^ 62) ≤ i ∧ z.length * i.toNat ≤ sizeLine ∧ Q (.str (repS z i.toNat)) H
theorem op_mulSI : OpR X (binaryOp .Mult) rMulSI := by
  intro pins s σ H x y v u Q I rx ry h
  obtain ⟨z, i, rfl, rfl, h1, h2, h3, q⟩ := h
  obtain ⟨t, rfl⟩ := rx
  obtain ⟨t', rfl⟩ := ry
  have h63 : (decide (i < -(2 ^ 63 : Int)) || decide (i ≥ 2 ^ 63)) = false := by
    rw [decide_eq_false (by omega), decide_eq_false (by omega)]; rfl
  have hsz : (sizeLine : Nat) < 2 ^ 62 := by rw [sizeLine_eq]; decide
  refine PySem.P.mul_str h63 (fun hn hz => ?_) (fun hn hz => ?_) ?_
  · intro hg
    have hpos : 0 < i := by omega
    have e : (i.toNat : Int) = i := by omega
    have h4 : (z.length : Int) * i ≤ sizeLine := by
      rw [← e]; exact_mod_cast h3
    have h5 : (2 ^ 63 - 1) / i < (z.length : Int) := hg
    have h6 : (2 ^ 63 - 1 : Int) < z.length * i := by
      have := Int.lt_mul_of_ediv_lt hpos h5
      rw [Int.mul_comm] at this
      first
        | exact this
        | (rw [Int.mul_comm]; exact this)
    omega
  · exact decide_eq_false (by omega)
  · by_cases hn : i < 1
    · rw [if_pos hn]
      have e : i.toNat = 0 := by omega
      rw [e, repS_zero] at q
      exact ⟨by decide, .str Str.empty, H, I.tok _, ⟨_, rfl⟩, q⟩
    · rw [if_neg hn]
      by_cases hz : (i == 1 || z.length == 0) = true
      · rw [if_pos hz]
        have e : repS z i.toNat = z := by
          rcases Bool.or_eq_true_iff.mp hz with h | h
          · have h' : i = 1 := eq_of_beq h
            rw [h']; exact repS_one z
          · exact repS_empty z (eq_of_beq h) _
        rw [e] at q
        exact ⟨.str z, H, I, ⟨_, rfl⟩, q⟩
      · rw [if_neg hz, repS_fold]
        exact ⟨by rw [repS_length, Nat.mul_comm]; omega, .str _, H, I.tok _, ⟨_, rfl⟩, q⟩
def rMulU : R2 := fun x y H Q => rI CMul (fun i j => .int (i * j)) x y H Q ∨ rMulSI x y H Q ∨ rRep x y H Q
theorem op_mulU : OpR X (binaryOp .Mult) rMulU := op_mul.or (op_mulSI.or op_rep)
def rLtS (f : List Nat → List Nat → Bool) : R2 := fun x y H Q => ∃ i j, x = .str i ∧ y = .str j ∧ Q (.bl (f i.cps.toList j.cps.toList)) H
def rCmU (p : Int → Int → Bool) (f : List Nat → List Nat → Bool) : R2 := fun x y H Q => rI0 (fun i j => .bl (p i j)) x y H Q ∨ rLtS f x y H Q
theorem op_ltU : OpR X (compareOp .Lt) (rCmU (fun i j => decide (i < j)) fun a b => decide (a < b)) := op_lt.or (r' := rLtS fun a b => decide (a < b)) op_lt_str
theorem op_leU : OpR X (compareOp .LtE) (rCmU (fun i j => decide (i ≤ j)) fun a b => !decide (b < a)) := op_le.or (r' := rLtS fun a b => !decide (b < a)) op_le_str
theorem op_gtU : OpR X (compareOp .Gt) (rCmU (fun i j => decide (j < i)) fun a b => decide (b < a)) := op_gt.or (r' := rLtS fun a b => decide (b < a)) op_gt_str
theorem op_geU : OpR X (compareOp .GtE) (rCmU (fun i j => decide (j ≤ i)) fun a b => !decide (a < b)) := op_ge.or (r' := rLtS fun a b => !decide (a < b)) op_ge_str
def rAddU (K : PySem.W.Frag) : R2 := fun x y H Q => rI0 (fun i j => .int (i + j)) x y H Q ∨ (∃ i j, x = .str i ∧ y = .str j ∧ i.length + j.length ≤ sizeLine ∧ Q (.str (i ++ j)) H) ∨ rCat x y H Q ∨ rCatA K x y H Q
theorem op_addU : OpR X (binaryOp .Add) (rAddU X.K) := op_add.or (op_add_str.or (op_cat.or op_catA))
def rEqU (K : PySem.W.Frag) : R2 := fun x y H Q => rEq x y H Q ∨ rEqD K x y H Q
theorem op_eqU (hu : X.A.units + 64 < cLine) : OpR X (compareOp .Eq) (rEqU X.K) := op_eq.or (op_eqD hu)
def rNeU (K : PySem.W.Frag) : R2 := fun x y H Q => rNe x y H Q ∨ rNeD K x y H Q
theorem op_neU (hu : X.A.units + 64 < cLine) : OpR X (compareOp .NotEq) (rNeU X.K) := op_ne.or (op_neD hu)
def rInC : R2 := fun x y H Q => ∃ (c : Nat) (z : Str), x = .str ⟨#[c]⟩ ∧ y = .str z ∧ Q (.bl (decide (c ∈ z.cps.toList))) H
def rNotInC : R2 := fun x y H Q => ∃ (c : Nat) (z : Str), x = .str ⟨#[c]⟩ ∧ y = .str z ∧ Q (.bl (!decide (c ∈ z.cps.toList))) H
def rInSS : R2 := fun x y H Q => ∃ i j, x = .str i ∧ y = .str j ∧ Q (.bl (!(Builtin.Str.occurrences j i 0 j.length 1).isEmpty)) H
def rNotInSS : R2 := fun x y H Q => ∃ i j, x = .str i ∧ y = .str j ∧ Q (.bl (!(!(Builtin.Str.occurrences j i 0 j.length 1).isEmpty))) H
def rInU (K : PySem.W.Frag) : R2 := fun x y H Q => rInC x y H Q ∨ rIn K false x y H Q ∨ rInSS x y H Q
def rNotInU (K : PySem.W.Frag) : R2 := fun x y H Q => rNotInC x y H Q ∨ rIn K true x y H Q ∨ rNotInSS x y H Q
theorem op_inU : OpR X (compareOp .In) (rInU X.K) := OpR.or (r := rInC) op_in_sign (op_in_seq.or (r' := rInSS) op_in_str)
theorem op_notInU : OpR X (compareOp .NotIn) (rNotInU X.K) := OpR.or (r := rNotInC) op_notIn_sign (op_notIn_seq.or (r' := rNotInSS) op_notIn_str)
def rSlU (K : PySem.W.Frag) : V → Option Int → Option Int → Hp → VK → Prop := fun x lo hi H Q => rSlL K x lo hi H Q ∨ rSlS x lo hi H Q ∨ rSlA K x lo hi H Q
theorem sl_U : SlR X (rSlU X.K) := sl_list.or (sl_str.or sl_tupA)
def rLenU (K : PySem.W.Frag) : List V → Hp → VK → Prop := fun xs H Q => (∃ z, xs = [.str z] ∧ z.length ≤ sizeLine ∧ Q (.int z.length) H) ∨ (∃ p ys, xs = [.ref p] ∧ (SqL K H p ys ∨ SqT K H p ys) ∧ Q (.int ys.length) H) ∨ (∃ a kvs, xs = [V.ref a] ∧ H a = some (.dK kvs) ∧ Q (.int kvs.length) H)
theorem call_lenU : CallR X (.builtin "len") (rLenU X.K) := call_len_str.or (call_len_seq.or call_lenD)
def rListU (K : PySem.W.Frag) : List V → Hp → VK → Prop := fun xs H Q => (∃ p ys, xs = [.ref p] ∧ (SqL K H p ys ∨ SqT K H p ys) ∧ ∀ l, H l = none → Q (.ref l) (upd H l (.lst ys)))
theorem call_listU : CallR X (.type "list") (rListU X.K) := call_list_of
def rTupleU (K : PySem.W.Frag) : List V → Hp → VK → Prop := fun xs H Q => ∃ p ys, xs = [.ref p] ∧ ((SqL K H p ys ∧ ∀ l, H l = none → Q (.ref l) (upd H l (.tup ys))) ∨ (SqT K H p ys ∧ Q (.ref p) H))
theorem call_tupleU : CallR X (.type "tuple") (rTupleU X.K) := call_tuple_of

def rInt1 : List V → Hp → VK → Prop := fun xs H Q => (∃ i, xs = [.int i] ∧ Q (.int i) H) ∨ ∃ k, xs = [.bl k] ∧ Q (.int (if k then 1 else 0)) H
theorem call_intU : CallR X (.type "int") rInt1 := call_int1
def rAbs1 : List V → Hp → VK → Prop := fun xs H Q => ∃ i, xs = [.int i] ∧ Q (.int (if i < 0 then -i else i)) H
theorem call_absU : CallR X (.builtin "abs") rAbs1 := call_abs
def rMax2 : List V → Hp → VK → Prop := fun xs H Q => ∃ i j, xs = [.int i, .int j] ∧ Q (.int (if j > i then j else i)) H
theorem call_max2U (hc : X.calm = true) : CallR X (.builtin "max") rMax2 := call_max2 hc
def rMin2 : List V → Hp → VK → Prop := fun xs H Q => ∃ i j, xs = [.int i, .int j] ∧ Q (.int (if j < i then j else i)) H
theorem call_min2U (hc : X.calm = true) : CallR X (.builtin "min") rMin2 := call_min2 hc
def rIsN : R2 := fun x y H Q => y = .non ∧ Q (.bl (decide (x = .non))) H
theorem op_isNU : OpR X (compareOp .Is) rIsN := op_isN
def rNotN : R2 := fun x y H Q => y = .non ∧ Q (.bl (!decide (x = .non))) H
theorem op_notNU : OpR X (compareOp .IsNot) rNotN := op_notN

/-! ### names of the module -/
theorem pe_gstr {x z : Str} {pos : Pos} (hg : Gl X x) (h : ∃ t, X.mg x = some (.str z t)) (hd : (x == ("__debug__" : Str)) = false := by decide) : PE X (.Name x pos) (tC (.str z)) := by
  obtain ⟨t, e⟩ := h
  exact pe_glob hg e ⟨t, rfl⟩ hd
theorem pe_gint {x : Str} {i : Int} {pos : Pos} (hg : Gl X x) (h : ∃ t, X.mg x = some (.int i t)) (hd : (x == ("__debug__" : Str)) = false := by decide) : PE X (.Name x pos) (tC (.int i)) := by
  obtain ⟨t, e⟩ := h
  exact pe_glob hg e ⟨t, rfl⟩ hd
theorem pe_gref {x : Str} {a : Addr} {pos : Pos} (hg : Gl X x) (h : X.mg x = some (.ref a)) (hd : (x == ("__debug__" : Str)) = false := by decide) : PE X (.Name x pos) (tC (.ref a)) := pe_glob hg h rfl hd

/-! ### an own exception class, called with nothing -/
theorem pmk_own0 {C : Addr} {bmB : List Value} {B newId initId : String} {x : Str} {p pos : Pos} (F : ExcBaseFacts B newId initId bmB) (q : PySem.W.excIn X.K C bmB newId = true) (gC : X.mg x = some (.ref C))
    (kC : PySem.W.keepIn X.K (.ref C) = true) (r : Raises X (.ref C)) (hg : Gl X x) (hdb : (x == ("__debug__" : Str)) = false := by decide) : PMk X (.Call (.Name x p) [] [] pos) (fun _ H Q => Q (.ref C) none H) := by
  intro pins s σ H Q I h
  refine wpAny_Call_Name_kw (ld_glob I hg gC ?_ hdb)
  refine PySem.W.callWith_K0 I.kIn kC ?_
  show wpAny _ _ (call (.ref C) []) _ _ _
  obtain ⟨bm, N, nm, qn, bs, hdct, sn, sub, ab, col, dd, k0, k1, k2, k3, k5, mN, hC, hN, hni, T⟩ := exc_obj I.kIn q
  refine wpAny_call_exc_subT F T hC hN hni (fun h' e hm => ?_) (Nat.zero_le _)
  exact mk_of I hm r h (I.hok.gone hm.new)
end

/-! ### a def that keeps its promise, found by its name -/
/-- the def x of the module keeps sp, by at most level k -/
def Ok (P : Program) (w : World) (K : PySem.W.Frag) (mg : Str → Option Value) (base : Heap) (k : Nat) (x : Str) (ps : List Str) (sp : Sp) : Prop :=
  ∃ fd, FnOk P w K mg base (L2.CX P w) k (He.ga K x) fd ps sp ∧ Binds K fd ps [] ∧ PySem.W.keepIn K (.ref (He.ga K x)) = true ∧ mg x = some (.ref (He.ga K x))
section
variable {P : Program} {w : World} {K : PySem.W.Frag} {mg : Str → Option Value} {base : Heap}
/-- THE RULE for a def: its body as a term of rules, and the reading of that term -/
theorem okX {x qual : Str} {st : Stmt} {f : Addr} {fd : FuncData} {N ps : List Str} {k : Nat} {sp : Sp} (F : FunD K x qual (defArgs st) (defBody st) (defScope st) [] [] f fd) (S : FnScope N ps (defScope st)) (len : ∀ vs H Q E, sp vs H Q E → vs.length = ps.length)
    (hbody : ∀ (cdv : Value) (A : Around) (outer : List Env) (s : Shared) (H : Hp) (vs : List V) (Q : VK) (E : XK), Room k (A.deeper (envOfC qual (defScope st) s.heap.objs.size f cdv)) → sp vs H Q E →
      ∃ t, PSs (cxOf (L2.CX P w) P w K mg base N qual (defScope st) f cdv A outer s H E) (defBody st) t ∧ t { nx := fun _ H' => Q .non H', rt := Q } (start N vs) H) : FnOk P w K mg base (L2.CX P w) (k + 1) f fd ps sp := F.ok S len hbody
section
variable {X : Cx} {k : Nat} {x : Str} {ps : List Str} {sp : Sp} {p pos : Pos} {e : Expr} {es : List Expr} {t : TA} {W : WX}
theorem pe_callD (F : Ok X.prog X.w X.K X.mg X.base k x ps sp) (hr : Room k X.A) (hg : Gl X x) (tk : Takes X W) (ha : PA X (e :: es) t) (hdb : (x == ("__debug__" : Str)) = false := by decide)
    (he : starEach (e :: es) X.env = (false, eval e X.env) :: starEach es X.env := by rfl) (hpl : (backTo pos (starEach es X.env)).any (·.1) = false := by rfl) : PE X (.Call (.Name x p) (e :: es) [] pos) (tCallS sp (WE W) t) := by
  obtain ⟨fd, F, b, kp, hm⟩ := F
  exact pe_callS F hr hg hm kp b (fun σ => passAt tk σ) ha hdb he hpl
theorem pe_callC (F : Ok X.prog X.w X.K X.mg X.base k x ps sp) (hr : Room k X.A) (hg : Gl X x) (ha : PA X (e :: es) t) (hdb : (x == ("__debug__" : Str)) = false := by decide)
    (he : starEach (e :: es) X.env = (false, eval e X.env) :: starEach es X.env := by rfl) (hpl : (backTo pos (starEach es X.env)).any (·.1) = false := by rfl) : PE X (.Call (.Name x p) (e :: es) [] pos) (tCallS sp (fun _ => E0) t) := by
  obtain ⟨fd, F, b, kp, hm⟩ := F
  refine ⟨fun pins s σ H Q I h => ?_⟩
  refine (pe_call F hr hg hm kp b .nil passL ha hdb he hpl).run pins s σ H Q I ?_
  have e : tCall sp [] E0 t = tCallS sp (fun _ => E0) t := by
    funext σ H Q
    show (t σ H fun vs H1 => sp (vs ++ []) H1 Q E0) = (t σ H fun vs H1 => sp vs H1 Q E0)
    simp only [List.append_nil]
  rw [e]
  exact h
theorem pe_callC0 (F : Ok X.prog X.w X.K X.mg X.base k x ps sp) (hr : Room k X.A) (hg : Gl X x) (hdb : (x == ("__debug__" : Str)) = false := by decide) : PE X (.Call (.Name x p) [] [] pos) (tCallS sp (fun _ => E0) tNil) := by
  obtain ⟨fd, F, b, kp, hm⟩ := F
  exact pe_call0 F hr hg hm kp b .nil passL hdb
theorem pe_callD0 (F : Ok X.prog X.w X.K X.mg X.base k x ps sp) (hr : Room k X.A) (hg : Gl X x) (_tk : Takes X W) (hdb : (x == ("__debug__" : Str)) = false := by decide) : PE X (.Call (.Name x p) [] [] pos) (tCallS sp (fun _ => E0) tNil) := pe_callC0 F hr hg hdb
end
end
end S

namespace S
open PySem PySem.Spec PyProof.Rows L2

/-! ### readings, a step at a time -/
section
variable {K : PySem.W.Frag} {D : Ends} {σ : St} {H H' : Hp} {Q : VK} {t u : TS} {te ta tb tc : TE} {tt tu : TT} {g : TG} {tl : TA} {v x y : V} {i j : Int} {a p : Addr} {xs ys : List V} {z z' : Str} {r : R2}
theorem w_seq (h : t { D with nx := u D } σ H) : tSeq t u D σ H := h
theorem w_next (h : D.nx σ H) : tNext D σ H := h
theorem w_asg (h : te σ H fun x H1 => g x σ H1 D.nx) : tAsg te g D σ H := h
theorem w_gname {n : Nat} {R : St → Hp → Prop} (h : R (σ.set n (some v)) H) : gName n v σ H R := h
theorem w_drop (h : te σ H fun _ H1 => D.nx σ H1) : tDrop te D σ H := h
theorem w_ret (h : te σ H D.rt) : tRet te D σ H := h
theorem w_retN (h : D.rt .non H) : tRetN D σ H := h
theorem w_ifs (h : tt σ H fun b H1 => if b = true then t D σ H1 else u D σ H1) : tIfS tt t u D σ H := h
theorem w_brk (h : D.bk σ H) : tBreak D σ H := h
theorem w_cont (h : D.ct σ H) : tCont D σ H := h
theorem w_nx {n : St → Hp → Prop} {rt : VK} {bk ct : St → Hp → Prop} (h : n σ H) : (Ends.mk n rt bk ct).nx σ H := h
theorem w_rt {n : St → Hp → Prop} {rt : VK} {bk ct : St → Hp → Prop} (h : rt v H) : (Ends.mk n rt bk ct).rt v H := h
theorem w_bk {n : St → Hp → Prop} {rt : VK} {bk ct : St → Hp → Prop} (h : bk σ H) : (Ends.mk n rt bk ct).bk σ H := h
theorem w_ct {n : St → Hp → Prop} {rt : VK} {bk ct : St → Hp → Prop} (h : ct σ H) : (Ends.mk n rt bk ct).ct σ H := h
theorem w_var {n : Nat} (e : σ[n]? = some (some v)) (h : Q v H) : tVar n σ H Q := ⟨v, e, h⟩
theorem w_c (h : Q v H) : tC v σ H Q := h
theorem w_op (h : ta σ H fun x H1 => tb σ H1 fun y H2 => r x y H2 Q) : tOp r ta tb σ H Q := h
theorem w_un {f : V → Hp → VK → Prop} (h : ta σ H fun x H1 => f x H1 Q) : tUn f ta σ H Q := h
theorem w_test {R : Bool → Hp → Prop} (h : te σ H fun x H' => ∃ k, x = .bl k ∧ R k H') : tTest te σ H R := h
theorem w_tB {R : Bool → Hp → Prop} (h : te σ H fun x H' => ∃ k, x = .bl k ∧ R k H') : tB te σ H R := h
theorem w_exb {k : Bool} {R : Bool → Prop} (h : R k) : ∃ k', V.bl k = V.bl k' ∧ R k' := ⟨k, rfl, h⟩
theorem w_and {R : Bool → Hp → Prop} (h : tt σ H fun c H1 => if c = true then tu σ H1 R else R false H1) : tAnd tt tu σ H R := h
theorem w_or {R : Bool → Hp → Prop} (h : tt σ H fun c H1 => if c = true then R true H1 else tu σ H1 R) : tOr tt tu σ H R := h
theorem w_not {R : Bool → Hp → Prop} (h : tt σ H fun c H1 => R (!c) H1) : tNot tt σ H R := h
theorem w_andV (h : ta σ H fun x H1 => ∃ c, x = .bl c ∧ if c = true then tb σ H1 Q else Q (.bl false) H1) : tAndV ta tb σ H Q := h
theorem w_orV (h : ta σ H fun x H1 => ∃ c, x = .bl c ∧ if c = true then Q (.bl true) H1 else tb σ H1 Q) : tOrV ta tb σ H Q := h
theorem w_notV (h : ta σ H fun x H1 => ∃ c, x = .bl c ∧ Q (.bl (!c)) H1) : tNotV ta σ H Q := h
theorem w_tIf (h : tt σ H fun c H1 => if c = true then ta σ H1 Q else tb σ H1 Q) : tIf tt ta tb σ H Q := h
theorem w_cb {f : List V → Hp → VK → Prop} (h : tl σ H fun vs H1 => f vs H1 Q) : tCB f tl σ H Q := h
theorem w_cons {tr : TA} {R : List V → Hp → Prop} (h : te σ H fun x H1 => tr σ H1 fun xs H2 => R (x :: xs) H2) : tCons te tr σ H R := h
theorem w_nil {R : List V → Hp → Prop} (h : R [] H) : tNil σ H R := h
theorem w_call {sp : Sp} {E : St → XK} (h : tl σ H fun vs H1 => sp vs H1 Q (E σ)) : tCallS sp E tl σ H Q := h
theorem w_yes {R : Bool → Hp → Prop} (h : R true H) : tYes σ H R := h
theorem w_for {wi : TI} (h : wi σ H fun J H1 => ∃ W : Nat → Nat → St → Hp → Prop, (∃ m, W 0 m σ H1) ∧ ∀ i m σ H, W i m σ H →
  (J.stop i H ∧ D.nx σ H) ∨ (J.go i H ∧ ∃ N : St → Hp → Prop, (∀ σ' H', N σ' H' → ∃ m', m' < m ∧ W (i + 1) m' σ' H') ∧ ∀ x H', J.yld i H x H' → g x σ H' fun σ2 H2 => t { D with nx := N, ct := N, bk := D.nx } σ2 H2)) : tFor wi g t D σ H := h
theorem w_bm {T : String} {f : V → List V → Hp → VK → Prop} (h : te σ H fun x H1 => tyV K T x H1 ∧ tl σ H1 fun xs H2 => f x xs H2 Q) : tBM K T f te tl σ H Q := h
theorem w_bm0 {T : String} {f : V → List V → Hp → VK → Prop} (h : te σ H fun x H1 => tyV K T x H1 ∧ f x [] H1 Q) : tBM0 K T f te σ H Q := h
theorem w_tyL (e : H p = some (.lst xs)) {A : Prop} (h : A) : tyV K "list" (.ref p) H ∧ A := ⟨.inl ⟨rfl, xs, SqL.of e⟩, h⟩
theorem w_m1 {f : V → List V → Hp → VK → Prop} (h : ta σ H fun x H1 => (∃ a, x = .str a) ∧ tb σ H1 fun y H2 => f x [y] H2 Q) : tM1 f ta tb σ H Q := h
theorem w_m0 {f : V → List V → Hp → VK → Prop} (h : ta σ H fun x H1 => (∃ a, x = .str a) ∧ f x [] H1 Q) : tM0 f ta σ H Q := h
theorem w_tyS {A : Prop} (h : A) : (∃ a, V.str z = .str a) ∧ A := ⟨⟨z, rfl⟩, h⟩
theorem w_sl {f : V → Option Int → Option Int → Hp → VK → Prop} {tl th : TO} (h : te σ H fun x H1 => tl σ H1 fun l H2 => th σ H2 fun u H3 => f x l u H3 Q) : tSl f te tl th σ H Q := h
theorem w_noPart {R : Option Int → Hp → Prop} (h : R none H) : tNoPart σ H R := h
theorem w_part {R : Option Int → Hp → Prop} (h : te σ H fun x H1 => ∃ i, x = .int i ∧ R (some i) H1) : tPart te σ H R := h
theorem w_exi {R : Int → Prop} (h : R i) : ∃ k, V.int i = V.int k ∧ R k := ⟨i, rfl, h⟩
/-! operators -/
theorem w_add (h : Q (.int (i + j)) H) : rAddU K (.int i) (.int j) H Q := .inl ⟨i, j, rfl, rfl, h⟩
theorem w_addS (hl : z.length + z'.length ≤ sizeLine) (h : Q (.str (z ++ z')) H) : rAddU K (.str z) (.str z') H Q := .inr (.inl ⟨z, z', rfl, rfl, hl, h⟩)
theorem w_addL {q : Addr} (h1 : H p = some (.lst xs)) (h2 : H q = some (.lst ys)) (hl : xs.length + ys.length ≤ sizeLine) (h : ∀ l, H l = none → Q (.ref l) (upd H l (.lst (xs ++ ys)))) : rAddU K (.ref p) (.ref q) H Q :=
  .inr (.inr (.inl ⟨p, q, xs, ys, rfl, rfl, h1, h2, hl, h⟩))
theorem w_sub {f : Int → Int → V} (h : Q (f i j) H) : rI0 f (.int i) (.int j) H Q := ⟨i, j, rfl, rfl, h⟩
theorem w_rI {c : Int → Int → Prop} {f : Int → Int → V} (hc : c i j) (h : Q (f i j) H) : rI c f (.int i) (.int j) H Q := ⟨i, j, rfl, rfl, hc, h⟩
theorem w_rU {f : Int → V} (h : Q (f i) H) : rU f (.int i) H Q := ⟨i, rfl, h⟩
theorem w_mul (hc : CMul i j) (h : Q (.int (i * j)) H) : rMulU (.int i) (.int j) H Q := .inl ⟨i, j, rfl, rfl, hc, h⟩
theorem w_mulS (h1 : i < 2 ^ 62) (h2 : -(2 ^ 62) ≤ i) (h3 : z.length * i.toNat ≤ sizeLine) (h : Q (.str (repS z i.toNat)) H) : rMulU (.str z) (.int i) H Q := .inr (.inl ⟨z, i, rfl, rfl, h1, h2, h3, h⟩)
theorem w_eq (hs : scal x y = true) (h : Q (.bl (decide (x = y))) H) : rEqU K x y H Q := .inl ⟨hs, h⟩
theorem w_ne (hs : scal x y = true) (h : Q (.bl (!decide (x = y))) H) : rNeU K x y H Q := .inl ⟨hs, h⟩
theorem w_eqI (h : Q (.bl (decide (i = j))) H) : rEqU K (.int i) (.int j) H Q := w_eq rfl (by rw [show decide (V.int i = V.int j) = decide (i = j) from decide_eq_decide.mpr ⟨fun e => V.int.inj e, fun e => by rw [e]⟩]; exact h)
theorem w_neI (h : Q (.bl (!decide (i = j))) H) : rNeU K (.int i) (.int j) H Q := w_ne rfl (by rw [show decide (V.int i = V.int j) = decide (i = j) from decide_eq_decide.mpr ⟨fun e => V.int.inj e, fun e => by rw [e]⟩]; exact h)
theorem w_eqS (h : Q (.bl (decide (z = z'))) H) : rEqU K (.str z) (.str z') H Q := w_eq rfl (by rw [show decide (V.str z = V.str z') = decide (z = z') from decide_eq_decide.mpr ⟨fun e => V.str.inj e, fun e => by rw [e]⟩]; exact h)
theorem w_neS (h : Q (.bl (!decide (z = z'))) H) : rNeU K (.str z) (.str z') H Q := w_ne rfl (by rw [show decide (V.str z = V.str z') = decide (z = z') from decide_eq_decide.mpr ⟨fun e => V.str.inj e, fun e => by rw [e]⟩]; exact h)
theorem w_eqB {b c : Bool} (h : Q (.bl (decide (b = c))) H) : rEqU K (.bl b) (.bl c) H Q := w_eq rfl (by rw [show decide (V.bl b = V.bl c) = decide (b = c) from decide_eq_decide.mpr ⟨fun e => V.bl.inj e, fun e => by rw [e]⟩]; exact h)
theorem w_neB {b c : Bool} (h : Q (.bl (!decide (b = c))) H) : rNeU K (.bl b) (.bl c) H Q := w_ne rfl (by rw [show decide (V.bl b = V.bl c) = decide (b = c) from decide_eq_decide.mpr ⟨fun e => V.bl.inj e, fun e => by rw [e]⟩]; exact h)
theorem w_eqD {d e : PyData} (h1 : Dp K H x d) (h2 : Dp K H y e) (s1 : SeqAt.shaped d = true) (s2 : SeqAt.shaped e = true) (h : Q (.bl (PyData.eqv d e)) H) : rEqU K x y H Q := .inr ⟨d, e, h1, h2, s1, s2, h⟩
theorem w_neD {d e : PyData} (h1 : Dp K H x d) (h2 : Dp K H y e) (s1 : SeqAt.shaped d = true) (s2 : SeqAt.shaped e = true) (h : Q (.bl (!PyData.eqv d e)) H) : rNeU K x y H Q := .inr ⟨d, e, h1, h2, s1, s2, h⟩
theorem w_cmp {f : Int → Int → Bool} {f' : List Nat → List Nat → Bool} (h : Q (.bl (f i j)) H) : rCmU f f' (.int i) (.int j) H Q := .inl ⟨i, j, rfl, rfl, h⟩
theorem w_cmpS {f : Int → Int → Bool} {f' : List Nat → List Nat → Bool} (h : Q (.bl (f' z.cps.toList z'.cps.toList)) H) : rCmU f f' (.str z) (.str z') H Q := .inr ⟨z, z', rfl, rfl, h⟩
theorem w_inC {c : Nat} (h : Q (.bl (decide (c ∈ z.cps.toList))) H) : rInU K (.str ⟨#[c]⟩) (.str z) H Q := .inl ⟨c, z, rfl, rfl, h⟩
theorem w_notInC {c : Nat} (h : Q (.bl (!decide (c ∈ z.cps.toList))) H) : rNotInU K (.str ⟨#[c]⟩) (.str z) H Q := .inl ⟨c, z, rfl, rfl, h⟩
theorem w_isN (h : Q (.bl (decide (x = .non))) H) : rIsN x .non H Q := ⟨rfl, h⟩
theorem w_notN (h : Q (.bl (!decide (x = .non))) H) : rNotN x .non H Q := ⟨rfl, h⟩
/-! items, slices, len -/
theorem w_ixL (h1 : SqL K H p xs) (h2 : atI xs i = some v) (h : Q v H) : rIx K (.ref p) (.int i) H Q := .inl ⟨p, xs, i, v, rfl, rfl, h1, h2, h⟩
theorem w_ixT (h1 : SqT K H p xs) (h2 : atI xs i = some v) (h : Q v H) : rIx K (.ref p) (.int i) H Q := .inr (.inl ⟨p, xs, i, v, rfl, rfl, h1, h2, h⟩)
theorem w_ixS {c : Nat} (h1 : z.length ≤ sizeLine) (h2 : atI z.cps.toList i = some c) (h : Q (.str ⟨#[c]⟩) H) : rIx K (.str z) (.int i) H Q := .inr (.inr ⟨z, i, c, rfl, rfl, h1, h2, h⟩)
theorem w_lenS (h1 : z.length ≤ sizeLine) (h : Q (.int z.length) H) : rLenU K [.str z] H Q := .inl ⟨z, rfl, h1, h⟩
theorem w_lenL (h1 : SqL K H p xs) (h : Q (.int xs.length) H) : rLenU K [.ref p] H Q := .inr (.inl ⟨p, xs, rfl, .inl h1, h⟩)
theorem w_lenT (h1 : SqT K H p xs) (h : Q (.int xs.length) H) : rLenU K [.ref p] H Q := .inr (.inl ⟨p, xs, rfl, .inr h1, h⟩)
theorem w_slL {lo hi : Option Int} (h1 : SqL K H p xs) (h : ∀ q, H q = none → Q (.ref q) (upd H q (.lst (cutV xs lo hi)))) : rSlU K (.ref p) lo hi H Q := .inl ⟨p, xs, rfl, h1, h⟩
theorem w_slS {lo hi : Option Int} (h1 : z.length ≤ sizeLine) (h : Q (.str (cutS z lo hi)) H) : rSlU K (.str z) lo hi H Q := .inr (.inl ⟨z, rfl, h1, h⟩)
theorem w_int (h : Q (.int i) H) : rInt1 [.int i] H Q := .inl ⟨i, rfl, h⟩
theorem w_intB {b : Bool} (h : Q (.int (if b then 1 else 0)) H) : rInt1 [.bl b] H Q := .inr ⟨b, rfl, h⟩
theorem w_abs (h : Q (.int (if i < 0 then -i else i)) H) : rAbs1 [.int i] H Q := ⟨i, rfl, h⟩
theorem w_max (h : Q (.int (if j > i then j else i)) H) : rMax2 [.int i, .int j] H Q := ⟨i, j, rfl, h⟩
theorem w_min (h : Q (.int (if j < i then j else i)) H) : rMin2 [.int i, .int j] H Q := ⟨i, j, rfl, h⟩
theorem w_isi {n : String} {tv : Value} {b : Bool} (ty : TyX K H x tv) (e : PySem.W.kitOne K tv (.type n) = some b) (h : Q (.bl b) H) : rIsi K [x, .ty n] H Q := ⟨x, .ty n, tv, _, b, rfl, .ty n, ty, e, h⟩
theorem w_append (h1 : H p = some (.lst xs)) (hl : xs.length < sizeLine) (h : Q .non (upd H p (.lst (xs ++ [v])))) : rAppend (.ref p) [v] H Q := ⟨p, xs, v, rfl, rfl, h1, hl, h⟩
theorem w_setL {k : Nat} {R : Hp → Prop} (h1 : H p = some (.lst xs)) (hj : ixN xs.length i = some k) (h : R (upd H p (.lst (xs.set k v)))) : rSetL (.ref p) (.int i) v H R := ⟨p, xs, i, k, rfl, rfl, h1, hj, h⟩
theorem w_gsub {to ti : TE} {f : TSet} {R : St → Hp → Prop} (h : to σ H fun o H1 => ti σ H1 fun i H2 => f o i v H2 fun H3 => R σ H3) : gSub to ti f v σ H R := h
/-! new things -/
def NewT (xs : List V) (H : Hp) (Q : VK) : Prop := xs.length ≤ sizeLine ∧ ∀ p, H p = none → Q (.ref p) (upd H p (.tup xs))
def NewL (xs : List V) (H : Hp) (Q : VK) : Prop := xs.length ≤ sizeLine ∧ ∀ p, H p = none → Q (.ref p) (upd H p (.lst xs))
theorem w_tup (h : tl σ H fun xs H1 => NewT xs H1 Q) : tTup tl σ H Q := h
theorem w_lst (h : tl σ H fun xs H1 => NewL xs H1 Q) : tLst tl σ H Q := h
theorem Same.upd {H : Hp} {p : Addr} {o : HO} (h : H p = none) : Same H (upd H p o) := fun b u e => by
  rw [upd_ne (ne_of_none e h)]; exact e
theorem Same.app (s : Same H H') {o : HO} (h : H p = some o) : H' p = some o := s p o h
theorem w_newT (hl : xs.length ≤ sizeLine) (h : ∀ p H', H p = none → Same H H' → H' p = some (.tup xs) → Q (.ref p) H') : NewT xs H Q := ⟨hl, fun p hp => h p _ hp (Same.upd hp) upd_same⟩
theorem w_newL (hl : xs.length ≤ sizeLine) (h : ∀ p H', H p = none → Same H H' → H' p = some (.lst xs) → Q (.ref p) H') : NewL xs H Q := ⟨hl, fun p hp => h p _ hp (Same.upd hp) upd_same⟩
theorem w_newL' (hl : xs.length ≤ sizeLine) (h : ∀ p, H p = none → Q (.ref p) (upd H p (.lst xs))) : NewL xs H Q := ⟨hl, h⟩
/-! tests that are decided -/
theorem w_iteT {A B : Prop} {b : Bool} (e : b = true) (h : A) : if b = true then A else B := by rw [if_pos e]; exact h
theorem w_iteF {A B : Prop} {b : Bool} (e : b = false) (h : B) : if b = true then A else B := by rw [e]; exact iteF h
theorem w_ite {A B : Prop} {b : Bool} (h1 : b = true → A) (h2 : b = false → B) : if b = true then A else B := by
  cases b with
  | true => exact iteT (h1 rfl)
  | false => exact iteF (h2 rfl)
theorem w_iteN' {A B : Prop} {b : Bool} (h1 : b = false → A) (h2 : b = true → B) : if (!b) = true then A else B := by
  cases b with
  | true => exact iteF (h2 rfl)
  | false => exact iteT (h1 rfl)
theorem w_iteNT {A B : Prop} (h : B) : if (!true) = true then A else B := iteF h
theorem w_iteNF {A B : Prop} (h : A) : if (!false) = true then A else B := iteT h
theorem w_iteD {A B p : Prop} [Decidable p] (h1 : p → A) (h2 : ¬ p → B) : if decide p = true then A else B := by
  by_cases h : p
  · rw [decide_eq_true h]; exact iteT (h1 h)
  · rw [decide_eq_false h]; exact iteF (h2 h)
theorem w_iteN {A B p : Prop} [Decidable p] (h1 : ¬ p → A) (h2 : p → B) : if (!decide p) = true then A else B := by
  by_cases h : p
  · rw [decide_eq_true h]; exact iteF (h2 h)
  · rw [decide_eq_false h]; exact iteT (h1 h)
end

/-! ### ways joined behind a statement -/
/-- t, then u, with a word J between them -/
def tRaise (W : WX) (f : St → Hp → XK → Prop) : TS := fun _ σ H => f σ H fun cls d H' => W cls d σ H'
theorem ps_raiseU {X : Cx} {W : WX} {e : Expr} {t : St → Hp → XK → Prop} {pos : Pos} (hc : X.calm = true) (tk : Takes X W) (he : PMk X e t) : PS X (.Raise (some e) none pos) (tRaise W t) := ps_raise hc tk he
def tMk0 (c : Value) : St → Hp → XK → Prop := fun _ H Q => Q c none H
def tCut (t u : TS) : TS := fun D σ H => ∃ J : St → Hp → Prop, t { D with nx := J } σ H ∧ ∀ σ' H', J σ' H' → u D σ' H'
theorem pss_cut {X : Cx} {st : Stmt} {rest : List Stmt} {t u : TS} (h1 : PS X st t) (h2 : PSs X rest u) : PSs X (st :: rest) (tCut t u) := by
  refine ⟨fun pins s σ H D I h => ?_⟩
  obtain ⟨J, h, k⟩ := h
  refine wpAny_execs_cons (thn (h1.run pins s σ H { D with nx := J } I h) fun f s1 q => ?_)
  cases f with
  | next =>
    obtain ⟨σ', H', I', q⟩ := q
    exact h2.run pins s1 σ' H' D I' (k σ' H' q)
  | ret v => exact q
  | brk => exact q
  | cont => exact q
theorem w_raise {W : WX} {f : St → Hp → XK → Prop} {D : Ends} {σ : St} {H : Hp} (h : f σ H fun cls d H' => W cls d σ H') : tRaise W f D σ H := h
theorem w_mk0 {c : Value} {H : Hp} {σ : St} {E : XK} (h : E c none H) : tMk0 c σ H E := h
theorem w_cut0 {t u : TS} {D : Ends} {σ : St} {H : Hp} (h : t { D with nx := u D } σ H) : tCut t u D σ H := ⟨u D, h, fun _ _ z => z⟩
theorem w_cutJ {t u : TS} {D : Ends} {σ : St} {H : Hp} (J : St → Hp → Prop) (h : t { D with nx := J } σ H) (k : ∀ σ' H', J σ' H' → u D σ' H') : tCut t u D σ H := ⟨J, h, k⟩

/-! ### no exception leaves the law -/
theorem FnOk.to0 {P : Program} {w : World} {K : PySem.W.Frag} {mg : Str → Option Value} {base : Heap} {k : Nat} {f : Addr} {fd : FuncData} {ps : List Str} {sp : Sp} (F : FnOk P w K mg base (L2.CX P w) k f fd ps sp) :
    FnOk P w K mg base CX0 k f fd ps (fun vs H Q _ => sp vs H Q E0) :=
  ⟨fun vs H Q _ h => F.len vs H Q E0 h, fun A outer s H args us vs Q _ hr he hb hv hs => codeAny_mono (F.run A outer s H args us vs Q E0 hr he hb hv hs) fun r s' hq => by
    cases r with
    | error e =>
      obtain ⟨_, _, _, _, _, _, _, _, _, _, _, _, z⟩ := hq
      exact z.elim
    | ok fl =>
      cases fl with
      | ret u => exact hq
      | next => exact hq
      | brk => exact hq
      | cont => exact hq⟩
end S

namespace S
open PySem PySem.Spec PyProof.Rows L2

/-! ### loops by the part that is done -/
section
variable {α : Type} {as : List α} {J : It} {G : Hp → Prop} {Y : α → Hp → V → Hp → Prop} {K : PySem.W.Frag} {D : Ends} {σ : St} {H : Hp} {g : TG} {tb : TS} {tt : TT} {te : TE} {a : Addr}
def WalkP (J : It) (as : List α) (G : Hp → Prop) (Y : α → Hp → V → Hp → Prop) : Prop := Walk J as.length G (fun i H x H' => ∃ z, as[i]? = some z ∧ Y z H x H')
theorem take_split {i : Nat} {z : α} (h : as[i]? = some z) : as = as.take i ++ z :: as.drop (i + 1) ∧ as.take (i + 1) = as.take i ++ [z] := by
  obtain ⟨hi, e⟩ := List.getElem?_eq_some_iff.mp h
  refine ⟨?_, ?_⟩
  · rw [← e]
    simp
  · rw [List.take_add_one, h]
    rfl
/-- what a for asks for: the loop's word -/
def ForW (J : It) (g : TG) (tb : TS) (D : Ends) (σ : St) (H1 : Hp) : Prop := ∃ W : Nat → Nat → St → Hp → Prop, (∃ m, W 0 m σ H1) ∧ ∀ i m σ H, W i m σ H →
  (J.stop i H ∧ D.nx σ H) ∨ (J.go i H ∧ ∃ N : St → Hp → Prop, (∀ σ' H', N σ' H' → ∃ m', m' < m ∧ W (i + 1) m' σ' H') ∧ ∀ x H', J.yld i H x H' → g x σ H' fun σ2 H2 => tb { D with nx := N, ct := N, bk := D.nx } σ2 H2)
def LcW (J : It) (g : TG) (tt : TT) (te : TE) (vs : List Nat) (σ : St) (H1 : Hp) (Q : VK) : Prop := ∀ D, H1 D = none → ∃ W : Nat → Nat → Hp → Prop, (∃ m, W 0 m (upd H1 D (.lst []))) ∧ ∀ i m H, W i m H →
  (J.stop i H ∧ Q (.ref D) H) ∨ (J.go i H ∧ ∃ Nx : Hp → Prop, (∀ H', Nx H' → ∃ m', m' < m ∧ W (i + 1) m' H') ∧ ∀ x H', J.yld i H x H' → g x (wipe σ vs) H' fun σ2 H2 => wipe σ2 vs = wipe σ vs ∧ tt σ2 H2 fun b H3 =>
    if b = true then te σ2 H3 fun y H4 => ∃ acc, H4 D = some (.lst acc) ∧ acc.length < sizeLine ∧ Nx (upd H4 D (.lst (acc ++ [y]))) else Nx H3)
theorem w_forW {wi : TI} (h : wi σ H fun J H1 => ForW J g tb D σ H1) : tFor wi g tb D σ H := h
theorem w_lcW {wi : TI} {vs : List Nat} {Q : VK} (h : wi σ H fun J H1 => LcW J g tt te vs σ H1 Q) : tLc wi g tt te vs σ H Q := h
theorem for_pre (wk : WalkP J as G Y) (Pv : List α → St → Hp → Prop) (h0 : Pv [] σ H) (hG : ∀ d r σ H, as = d ++ r → Pv d σ H → G H)
    (hs : ∀ d z r x σ H H', as = d ++ z :: r → Pv d σ H → Y z H x H' → g x σ H' fun σ2 H2 => tb { D with nx := Pv (d ++ [z]), ct := Pv (d ++ [z]), bk := D.nx } σ2 H2) (hd : ∀ σ H, Pv as σ H → D.nx σ H) : ForW J g tb D σ H := by
  refine for_it wk (fun i σ H => Pv (as.take i) σ H) h0 (fun i σ H hi p => hG _ (as.drop i) σ H (List.take_append_drop i as).symm p) (fun i x σ H H' hi p y => ?_) fun σ H p => hd σ H (by rw [List.take_length] at p; exact p)
  obtain ⟨z, hz, y⟩ := y
  obtain ⟨e1, e2⟩ := take_split hz
  have q := hs _ z _ x σ H H' e1 p y
  rw [e2]
  exact q
theorem lc_pre {vs : List Nat} {Q : VK} (wk : WalkP J as G Y) (Pv : Addr → List α → Hp → Prop) (h0 : ∀ D, H D = none → Pv D [] (upd H D (.lst []))) (hG : ∀ D d r H, as = d ++ r → Pv D d H → G H)
    (hs : ∀ D d z r x H0 H', H D = none → as = d ++ z :: r → Pv D d H0 → Y z H0 x H' → g x (wipe σ vs) H' fun σ2 H2 => wipe σ2 vs = wipe σ vs ∧ tt σ2 H2 fun b H3 =>
      if b = true then te σ2 H3 fun y H4 => ∃ acc, H4 D = some (.lst acc) ∧ acc.length < sizeLine ∧ Pv D (d ++ [z]) (upd H4 D (.lst (acc ++ [y]))) else Pv D (d ++ [z]) H3) (hd : ∀ D H1, H D = none → Pv D as H1 → Q (.ref D) H1) : LcW J g tt te vs σ H Q := by
  intro D hD
  refine lc_it wk (fun i H => Pv D (as.take i) H) (h0 D hD) (fun i H hi p => hG D _ (as.drop i) H (List.take_append_drop i as).symm p) (fun i x H0 H' hi p y => ?_) fun H1 p => hd D H1 hD (by rw [List.take_length] at p; exact p)
  obtain ⟨z, hz, y⟩ := y
  obtain ⟨e1, e2⟩ := take_split hz
  have q := hs D _ z _ x H0 H' hD e1 p y
  rw [e2]
  exact q
/-! what is walked -/
theorem wp_list {f : α → V} : WalkP (Itl K a) as (fun H => SqL K H a (as.map f)) (fun z H x H' => H' = H ∧ x = f z) := by
  have w := walk_list (K := K) (a := a) (xs := as.map f)
  rw [List.length_map] at w
  refine w.mono (fun H h => h) fun i H x H' hi h y => ?_
  obtain ⟨e, y⟩ := y
  rw [List.getElem?_map] at y
  cases q : as[i]? with
  | none => rw [q] at y; cases y
  | some z => rw [q] at y; exact ⟨z, rfl, e, (Option.some.inj y).symm⟩
theorem wp_tup {f : α → V} : WalkP (Itt K a) as (fun H => SqT K H a (as.map f)) (fun z H x H' => H' = H ∧ x = f z) := by
  have w := walk_tup (K := K) (a := a) (xs := as.map f)
  rw [List.length_map] at w
  refine w.mono (fun H h => h) fun i H x H' hi h y => ?_
  obtain ⟨e, y⟩ := y
  rw [List.getElem?_map] at y
  cases q : as[i]? with
  | none => rw [q] at y; cases y
  | some z => rw [q] at y; exact ⟨z, rfl, e, (Option.some.inj y).symm⟩
theorem wp_listV {xs : List V} : WalkP (Itl K a) xs (fun H => SqL K H a xs) (fun z H x H' => H' = H ∧ x = z) := by
  have w := wp_list (K := K) (a := a) (as := xs) (f := id)
  rw [List.map_id] at w
  exact w
theorem wp_tupV {xs : List V} : WalkP (Itt K a) xs (fun H => SqT K H a xs) (fun z H x H' => H' = H ∧ x = z) := by
  have w := wp_tup (K := K) (a := a) (as := xs) (f := id)
  rw [List.map_id] at w
  exact w
theorem wp_str {z : Str} : WalkP (Its z) z.cps.toList (fun _ => True) (fun c H x H' => H' = H ∧ x = .str ⟨#[c]⟩) := by
  have w := walk_str (z := z)
  show Walk (Its z) z.cps.toList.length _ _
  rw [Array.length_toList]
  refine w.mono (fun H h => h) fun i H x H' hi h y => ?_
  obtain ⟨e, c, hc, ex⟩ := y
  exact ⟨c, by rw [← hc]; simp, e, ex⟩
theorem wp_range {lo : Int} {n : Nat} : WalkP (Itr lo n) (List.range n) (fun _ => True) (fun k H x H' => H' = H ∧ x = .int (lo + (k : Nat))) := by
  have w := walk_range (lo := lo) (n := n)
  show Walk (Itr lo n) (List.range n).length _ _
  rw [List.length_range]
  refine w.mono (fun H h => h) fun i H x H' hi h y => ?_
  exact ⟨i, by rw [List.getElem?_range hi], y.1, y.2⟩
/-- a loop over range(lo, lo + n), by the number of the turn -/
theorem for_rng {lo : Int} {n : Nat} (Pv : Nat → St → Hp → Prop) (h0 : Pv 0 σ H)
    (hs : ∀ i σ H, i < n → Pv i σ H → g (.int (lo + (i : Nat))) σ H fun σ2 H2 => tb { D with nx := Pv (i + 1), ct := Pv (i + 1), bk := D.nx } σ2 H2) (hd : ∀ σ H, Pv n σ H → D.nx σ H) : ForW (Itr lo n) g tb D σ H := for_range Pv h0 hs hd
theorem lc_rng {lo : Int} {n : Nat} {vs : List Nat} {Q : VK} (Pv : Addr → Nat → Hp → Prop) (h0 : ∀ D, H D = none → Pv D 0 (upd H D (.lst [])))
    (hs : ∀ D i H0, H D = none → i < n → Pv D i H0 → g (.int (lo + (i : Nat))) (wipe σ vs) H0 fun σ2 H2 => wipe σ2 vs = wipe σ vs ∧ tt σ2 H2 fun b H3 =>
      if b = true then te σ2 H3 fun y H4 => ∃ acc, H4 D = some (.lst acc) ∧ acc.length < sizeLine ∧ Pv D (i + 1) (upd H4 D (.lst (acc ++ [y]))) else Pv D (i + 1) H3) (hd : ∀ D H1, H D = none → Pv D n H1 → Q (.ref D) H1) : LcW (Itr lo n) g tt te vs σ H Q := by
  intro D hD
  exact lc_range (fun i H => Pv D i H) (h0 D hD) (fun i H0 hi p => hs D i H0 hD hi p) fun H1 p => hd D H1 hD p
theorem w_iStr {R : It → Hp → Prop} {te : TE} (h : te σ H fun v H1 => ∃ x, v = .str x ∧ R (Its x) H1) : iStr te σ H R := h
theorem w_iList {R : It → Hp → Prop} {te : TE} (h : te σ H fun v H1 => ∃ b, v = .ref b ∧ (∃ xs, SqL K H1 b xs) ∧ R (Itl K b) H1) : iList K te σ H R := h
theorem w_iTup {R : It → Hp → Prop} {te : TE} (h : te σ H fun v H1 => ∃ b, v = .ref b ∧ (∃ xs, SqT K H1 b xs) ∧ R (Itt K b) H1) : iTup K te σ H R := h
theorem w_exs {z : Str} {R : Str → Prop} (h : R z) : ∃ x, V.str z = .str x ∧ R x := ⟨z, rfl, h⟩
theorem w_itl {xs : List V} {R : Addr → Prop} (h1 : SqL K H a xs) (h : R a) : ∃ b, V.ref a = .ref b ∧ (∃ xs, SqL K H b xs) ∧ R b := ⟨a, rfl, ⟨xs, h1⟩, h⟩
theorem w_itt {xs : List V} {R : Addr → Prop} (h1 : SqT K H a xs) (h : R a) : ∃ b, V.ref a = .ref b ∧ (∃ xs, SqT K H b xs) ∧ R b := ⟨a, rfl, ⟨xs, h1⟩, h⟩
theorem w_iRng1 {R : It → Hp → Prop} {tl : TA} (h : tl σ H fun vs H1 => ∃ j : Int, vs = [.int j] ∧ -(2 ^ 62) ≤ j ∧ j < 2 ^ 62 ∧ R (Itr 0 j.toNat) H1) : iRng1 tl σ H R := h
theorem w_iRng2 {R : It → Hp → Prop} {tl : TA} (h : tl σ H fun vs H1 => ∃ i j : Int, vs = [.int i, .int j] ∧ (-(2 ^ 62) ≤ i ∧ i < 2 ^ 62 ∧ -(2 ^ 62) ≤ j ∧ j < 2 ^ 62) ∧ R (Itr i (j - i).toNat) H1) : iRng2 tl σ H R := h
theorem w_rng1 {j : Int} {R : Int → Prop} (h1 : -(2 ^ 62) ≤ j) (h2 : j < 2 ^ 62) (h : R j) : ∃ k : Int, [V.int j] = [.int k] ∧ -(2 ^ 62) ≤ k ∧ k < 2 ^ 62 ∧ R k := ⟨j, rfl, h1, h2, h⟩
theorem w_rng2 {i j : Int} {R : Int → Int → Prop} (h1 : -(2 ^ 62) ≤ i ∧ i < 2 ^ 62 ∧ -(2 ^ 62) ≤ j ∧ j < 2 ^ 62) (h : R i j) : ∃ k l : Int, [V.int i, V.int j] = [.int k, .int l] ∧ (-(2 ^ 62) ≤ k ∧ k < 2 ^ 62 ∧ -(2 ^ 62) ≤ l ∧ l < 2 ^ 62) ∧ R k l := ⟨i, j, rfl, h1, h⟩
end

/-! ### the heap but one place -/
def del (H : Hp) (p : Addr) : Hp := fun b => if b = p then none else H b
section
variable {H H' : Hp} {p q : Addr} {o : HO}
theorem del_same : del H p p = none := if_pos rfl
theorem del_ne (h : q ≠ p) : del H p q = H q := if_neg h
theorem del_upd : del (upd H p o) p = del H p := by
  funext b
  unfold del upd
  split <;> rfl
theorem Same.del : Same (del H p) H := fun b u e => by
  unfold S.del at e
  split at e
  · cases e
  · exact e
theorem Same.dels (s : Same H H') : Same (S.del H p) (S.del H' p) := fun b u e => by
  unfold S.del at e ⊢
  split at e
  · cases e
  · rename_i h
    rw [if_neg h]
    exact s b u e
/-- what stood before p was made is not p -/
theorem Same.to_del (s : Same H H') (h : H p = none) : Same H (S.del H' p) := fun b u e => by
  rw [del_ne (ne_of_none e h)]
  exact s b u e
theorem Same.into (s : Same H (S.del H' p)) : Same H H' := s.trans Same.del
theorem del_new (hp : H' p ≠ none) (hn : H' q = none) : S.del (upd H' q o) p = upd (S.del H' p) q o := by
  have n : q ≠ p := fun e => hp (e ▸ hn)
  funext b
  by_cases h : b = p
  · rw [h, del_same, upd_ne (Ne.symm n), del_same]
  · rw [del_ne h]
    by_cases h2 : b = q
    · rw [h2, upd_same, upd_same]
    · rw [upd_ne h2, upd_ne h2, del_ne h]
theorem seqT {K : PySem.W.Frag} {a : Addr} {xs : List V} (e : Same H H') (h : SqT K H a xs) : SqT K H' a xs := by
  rcases h with (h | ⟨o, h⟩) | h
  · exact .inl (.inl (e _ _ h))
  · exact .inl (.inr ⟨o, e _ _ h⟩)
  · exact .inr h
end

/-! ### data -/
mutual
theorem Dp.same {K : PySem.W.Frag} {H H' : Hp} (s : Same H H') : ∀ {d : PyData} {v : V}, Dp K H v d → Dp K H' v d
  | _, _, .non => .non
  | _, _, .bl b => .bl b
  | _, _, .int i => .int i
  | _, _, .str x => .str x
  | _, _, .lst h r => .lst (Same.seq s h) (DpAll.same s r)
  | _, _, .tup h r => .tup (seqT s h) (DpAll.same s r)
theorem DpAll.same {K : PySem.W.Frag} {H H' : Hp} (s : Same H H') : ∀ {ds : List PyData} {vs : List V}, DpAll K H vs ds → DpAll K H' vs ds
  | _, _, .nil => .nil
  | _, _, .cons h r => .cons (Dp.same s h) (DpAll.same s r)
end
end S

namespace S
open PySem PySem.Spec PyProof.Rows L2

/-! ### the drawing hand as one thing: a list of cells and four numbers, which ones left open -/
def HandO (c a : Addr) : HO := .ext fun h => ∃ (its : List Value) (n : Nat) (i s t k : Int), Vals [.ref c, .int i, .int s, .int t, .int k] its ∧ h.get? a = some { cls := .type "list", data := .seq its.toArray n } ∧ 0 ≤ i
/-- a hand stands at a -/
def Hand (H : Hp) (a : Addr) : Prop := ∃ (c : Addr) (ns : List Int), H a = some (HandO c a) ∧ H c = some (.lst (ns.map V.int))
theorem Hand.same {H H' : Hp} {a : Addr} (s : Same H H') (h : Hand H a) : Hand H' a := by
  obtain ⟨c, ns, h1, h2⟩ := h
  exact ⟨c, ns, s _ _ h1, s _ _ h2⟩

section
variable {P : Program} {w : World} {H H' : Hp} {h h' : Heap} {a c : Addr} {o o' : HO} {fs : List Addr}
/-- the same place told otherwise: no place that others lean on -/
def Loose : HO → Prop
  | .lst _ => True
  | .ext _ => True
  | _ => False
theorem hok_retell (ok : HOk P w H h) (e : H a = some o) (l : Loose o) (l' : Loose o') (n : ObjOk P w (upd H a o') h a o') : HOk P w (upd H a o') h := fun b u q => by
  by_cases hb : b = a
  · subst hb
    rw [upd_same] at q
    cases q
    exact n
  · rw [upd_ne hb] at q
    refine (ok b u q).stay (fun _ _ _ z => z) (fun d z => ?_) fun d xs z => ?_
    · have nd : d ≠ a := fun y => by
        rw [y, e] at z
        cases z
        exact l
      rw [upd_ne nd]; exact z
    · have nd : d ≠ a := fun y => by
        rw [y, e] at z
        cases z
        exact l
      rw [upd_ne nd]; exact z
/-- the change of a call, told from the other telling -/
theorem un_retell (un : Un fs [] (upd H a o') H' h h') (e : H a = some o) (l : Loose o) : Un fs [] H H' h h' where
  keep := fun b u q n => un.keep b u q (by rw [upd_ne (fun z => by rw [z, e] at n; cases n)]; exact n)
  slot := fun b u q n => un.slot b u q (by rw [upd_ne (fun z => by rw [z, e] at n; cases n)]; exact n)
  free := fun b u q n => un.free b u q (by rw [upd_ne (fun z => by rw [z, e] at n; cases n)]; exact n)
  there := un.there
  tups := fun b xs q => un.tups b xs (by rw [upd_ne (fun z => by rw [z, e] at q; cases q; exact l)]; exact q)
  frzs := fun b u v q => un.frzs b u v (by rw [upd_ne (fun z => by rw [z, e] at q; cases q; exact l)]; exact q)
  tbls := fun b ps q => un.tbls b ps (by rw [upd_ne (fun z => by rw [z, e] at q; cases q; exact l)]; exact q)
/-- the end's heap told otherwise -/
theorem un_after (un : Un fs [] H H' h h') (e : H' a = some o) (l : Loose o) : Un fs [] H (upd H' a o') h h' where
  keep := un.keep
  slot := un.slot
  free := fun b u q n z => by
    have f := un.free b u q n z
    rw [upd_ne (fun y => by rw [y, e] at f; cases f)]
    exact f
  there := un.there
  tups := fun b xs q => by
    have f := un.tups b xs q
    rw [upd_ne (fun y => by rw [y, e] at f; cases f; exact l)]
    exact f
  frzs := fun b u v q => by
    have f := un.frzs b u v q
    rw [upd_ne (fun y => by rw [y, e] at f; cases f; exact l)]
    exact f
  tbls := fun b ps q => by
    obtain ⟨m, f⟩ := un.tbls b ps q
    refine ⟨m, ?_⟩
    rw [upd_ne (fun y => by rw [y, e] at f; cases f; exact l)]
    exact f
end

/-- the promise of _law_draw over the list itself -/
def spDraw0 (C : Int → Prop) : Sp := fun vs H Q _ => ∃ (a c : Addr) (ns : List Int) (i s t k m : Int), vs = [.ref a, .int m] ∧ H a = some (.lst [.ref c, .int i, .int s, .int t, .int k]) ∧ H c = some (.lst (ns.map V.int)) ∧ a ≠ c ∧ 0 ≤ i ∧ C m ∧
  ∀ d i' s' t' k' : Int, 0 ≤ d → d < m → 0 ≤ i' → Q (.int d) (upd H a (.lst [.ref c, .int i', .int s', .int t', .int k']))
/-- the promise of _law_draw: a number below m, and nothing changes -/
def spDraw (C : Int → Prop) : Sp := fun vs H Q _ => ∃ (a : Addr) (m : Int), vs = [.ref a, .int m] ∧ Hand H a ∧ C m ∧ ∀ d : Int, 0 ≤ d → d < m → Q (.int d) H
def CDraw (m : Int) : Prop := 0 < m ∧ m < 1073741824
section
variable {P : Program} {w : World} {K : PySem.W.Frag} {mg : Str → Option Value} {base : Heap} {k : Nat} {f : Addr} {fd : FuncData} {ps : List Str}
theorem draw_conv {C : Int → Prop} (hps : ps.length = 2) (F : FnOk P w K mg base (L2.CX P w) k f fd ps (spDraw0 C)) : FnOk P w K mg base (L2.CX P w) k f fd ps (spDraw C) := by
  refine ⟨fun vs H Q E h => ?_, fun A outer s H args us vs Q E hr he hb hv hs => ?_⟩
  · obtain ⟨a, m, rfl, _⟩ := h
    rw [hps]; rfl
  · obtain ⟨a, m, rfl, ⟨c, ns, ha, hc⟩, hm, k⟩ := hs
    have hac : a ≠ c := fun e => by rw [e, hc] at ha; cases ha
    obtain ⟨its, n, i, s0, t, kk, rv, hg, hi⟩ : ∃ (its : List Value) (n : Nat) (i s0 t k : Int), Vals [.ref c, .int i, .int s0, .int t, .int k] its ∧ s.heap.get? a = some { cls := .type "list", data := .seq its.toArray n } ∧ 0 ≤ i := (he.hok a _ ha).1
    have n1 : ObjOk P w (upd H a (.lst [.ref c, .int i, .int s0, .int t, .int kk])) s.heap a (.lst [.ref c, .int i, .int s0, .int t, .int kk]) := ⟨by show 5 ≤ sizeLine; decide, its, n, rv, hg⟩
    have ok1 : HOk P w (upd H a (.lst [.ref c, .int i, .int s0, .int t, .int kk])) s.heap := hok_retell he.hok ha True.intro True.intro n1
    have he1 : Env0 P w K mg base A outer s (upd H a (.lst [.ref c, .int i, .int s0, .int t, .int kk])) := ⟨he.frames, he.mod, fun b o q => ⟨(he.bs b o q).1, by
        have z := (he.bs b o q).2
        rw [upd_ne (fun y => by rw [y, ha] at z; cases z)]; exact z⟩, he.bsz, he.funs, fun b q => by
        have z := he.frf b q
        rw [upd_ne (fun y => by rw [y, ha] at z; cases z)]; exact z, ok1, he.bare⟩
    refine codeAny_mono (F.run A outer s _ args us _ (fun v H2 => ∃ i' s' t' k' : Int, 0 ≤ i' ∧ H2 = upd (upd H a (.lst [.ref c, .int i, .int s0, .int t, .int kk])) a (.lst [.ref c, .int i', .int s', .int t', .int k']) ∧ Q v H) E0 hr he1 hb hv ?_) fun r s2 hq => ?_
    · refine ⟨a, c, ns, i, s0, t, kk, m, rfl, upd_same, by rw [upd_ne (Ne.symm hac)]; exact hc, hac, hi, hm, fun d i' s2 t' k' h1 h2 h3 => ⟨i', s2, t', k', h3, rfl, k d h1 h2⟩⟩
    · cases r with
      | error e =>
        obtain ⟨_, _, _, _, _, _, _, _, _, _, _, _, z⟩ := hq
        exact z.elim
      | ok fl =>
        cases fl with
        | ret u =>
          obtain ⟨v, H2, os, bare, un, hok2, rv2, i', s3, t', k', h3, e2, q⟩ := hq
          have e3 : H2 a = some (.lst [.ref c, .int i', .int s3, .int t', .int k']) := by rw [e2, upd_same]
          have e4 : upd H2 a (HandO c a) = H := by
            rw [e2, upd_upd, upd_upd]
            funext b
            by_cases hb : b = a
            · rw [hb, upd_same, ha]
            · rw [upd_ne hb]
          have n2 : ObjOk P w (upd H2 a (HandO c a)) s2.heap a (HandO c a) := by
            obtain ⟨_, its2, n3, rv3, hg3⟩ := (show ObjOk P w H2 s2.heap a (.lst [.ref c, .int i', .int s3, .int t', .int k']) from hok2 a _ e3)
            refine ⟨⟨its2, n3, i', s3, t', k', rv3, hg3, h3⟩, ⟨_, hg3⟩, fun g1 g2 hp kp => ?_⟩
            obtain ⟨i1, n4, x1, x2, x3, x4, y1, y2, y3⟩ := hp
            exact ⟨i1, n4, x1, x2, x3, x4, y1, kp _ y2, y3⟩
          have ok3 : HOk P w (upd H2 a (HandO c a)) s2.heap := hok_retell hok2 e3 True.intro True.intro n2
          have un3 := un_after (o' := HandO c a) (un_retell un ha True.intro) e3 True.intro
          rw [e4] at ok3 un3
          exact ⟨v, H, os, bare, un3, ok3, rv2, q⟩
        | next => exact hq
        | brk => exact hq
        | cont => exact hq

/-- the promise of _law_hand over the list itself -/
def spHand0 (K : PySem.W.Frag) : Sp := fun vs H Q _ => ∃ (a : Addr) (ns : List Int), vs = [.ref a] ∧ SqL K H a (ns.map V.int) ∧ ns.length ≤ 63 ∧
  ∀ (p c : Addr) (ms : List Int) (i s t k : Int) (H' : Hp), H p = none → Same H H' → H' p = some (.lst [.ref c, .int i, .int s, .int t, .int k]) → H' c = some (.lst (ms.map V.int)) → 0 ≤ i → Q (.ref p) H'
def spHand (K : PySem.W.Frag) : Sp := fun vs H Q _ => ∃ (a : Addr) (ns : List Int), vs = [.ref a] ∧ SqL K H a (ns.map V.int) ∧ ns.length ≤ 63 ∧
  ∀ (p : Addr) (H' : Hp), H p = none → Same H H' → Hand H' p → Q (.ref p) H'
theorem hand_conv (hps : ps.length = 1) (F : FnOk P w K mg base (L2.CX P w) k f fd ps (spHand0 K)) : FnOk P w K mg base (L2.CX P w) k f fd ps (spHand K) := by
  refine ⟨fun vs H Q E h => ?_, fun A outer s H args us vs Q E hr he hb hv hs => ?_⟩
  · obtain ⟨a, ns, rfl, _⟩ := h
    rw [hps]; rfl
  · obtain ⟨a, ns, rfl, hS, hl, kk⟩ := hs
    refine codeAny_mono (F.run A outer s H args us _ (fun v H' => ∃ (p c : Addr) (ms : List Int) (i s t k : Int), v = .ref p ∧ H p = none ∧ Same H H' ∧ H' p = some (.lst [.ref c, .int i, .int s, .int t, .int k]) ∧ H' c = some (.lst (ms.map V.int)) ∧ 0 ≤ i) E0 hr he hb hv
      ⟨a, ns, rfl, hS, hl, fun p c ms i s t k H' h1 h2 h3 h4 h5 => ⟨p, c, ms, i, s, t, k, rfl, h1, h2, h3, h4, h5⟩⟩) fun r s2 hq => ?_
    cases r with
    | error e =>
      obtain ⟨_, _, _, _, _, _, _, _, _, _, _, _, z⟩ := hq
      exact z.elim
    | ok fl =>
      cases fl with
      | ret u =>
        obtain ⟨v, H2, os, bare, un, hok2, rv2, p, c, ms, i', s3, t', k', rfl, h1, h2, e3, h4, h5⟩ := hq
        have hpc : p ≠ c := fun e => by
          rw [e, h4] at e3
          have := HO.lst.inj (Option.some.inj e3)
          cases ms with
          | nil => cases this
          | cons x r =>
            have z := (List.cons.inj this).1
            cases z
        have n2 : ObjOk P w (upd H2 p (HandO c p)) s2.heap p (HandO c p) := by
          obtain ⟨_, its2, n3, rv3, hg3⟩ := (show ObjOk P w H2 s2.heap p (.lst [.ref c, .int i', .int s3, .int t', .int k']) from hok2 p _ e3)
          refine ⟨⟨its2, n3, i', s3, t', k', rv3, hg3, h5⟩, ⟨_, hg3⟩, fun g1 g2 hp kp => ?_⟩
          obtain ⟨i1, n4, x1, x2, x3, x4, y1, y2, y3⟩ := hp
          exact ⟨i1, n4, x1, x2, x3, x4, y1, kp _ y2, y3⟩
        have ok3 : HOk P w (upd H2 p (HandO c p)) s2.heap := hok_retell hok2 e3 True.intro True.intro n2
        have un3 := un_after (o' := HandO c p) un e3 True.intro
        refine ⟨.ref p, _, os, bare, un3, ok3, rv2, kk p _ h1 (fun b u q => ?_) ⟨c, ms, upd_same, by rw [upd_ne (Ne.symm hpc)]; exact h4⟩⟩
        rw [upd_ne (ne_of_none q h1)]
        exact h2 b u q
      | next => exact hq
      | brk => exact hq
      | cont => exact hq
end
end S

namespace S
open PySem PySem.Spec PyProof.Rows L2

theorem pg_tupK {X : Cx} {es : List Expr} {k} {pos : Pos} {t : TGs} {n : Nat} (K : PySem.W.Frag) (hK : X.K = K) (hc : X.calm = true) (hn : (assignEach es X.env).length = n) (hst : (assignEach es X.env).findIdx? (·.1) = none) (h : PGs X es t) : PG X (.Tuple es k pos) (gTup K n t) := hK ▸ pg_tup hc h hn hst
theorem opK {X : Cx} {K : PySem.W.Frag} {o} (r : PySem.W.Frag → R2) (hK : X.K = K) (h : OpR X o (r X.K)) : OpR X o (r K) := hK ▸ h
theorem slK {X : Cx} {K : PySem.W.Frag} (r : PySem.W.Frag → V → Option Int → Option Int → Hp → VK → Prop) (hK : X.K = K) (h : L2.SlR X (r X.K)) : L2.SlR X (r K) := hK ▸ h
theorem ixK {X : Cx} {K : PySem.W.Frag} (r : PySem.W.Frag → R2) (hK : X.K = K) (h : IxR X (r X.K)) : IxR X (r K) := hK ▸ h
theorem callK {X : Cx} {K : PySem.W.Frag} {f} (r : PySem.W.Frag → List V → Hp → VK → Prop) (hK : X.K = K) (h : CallR X f (r X.K)) : CallR X f (r K) := hK ▸ h
theorem pg_tupU {X : Cx} {es : List Expr} {k} {pos : Pos} {t : TGs} {n : Nat} (hc : X.calm = true) (hn : (assignEach es X.env).length = n) (hst : (assignEach es X.env).findIdx? (·.1) = none) (h : PGs X es t) : PG X (.Tuple es k pos) (gTup X.K n t) := pg_tup hc h hn hst
theorem pgs_consU {X : Cx} {e : Expr} {es : List Expr} {t : TG} {u : TGs} (hs : (assignEach (e :: es) X.env).map (·.2) = assign e X.env :: (assignEach es X.env).map (·.2)) (h1 : PG X e t) (h2 : PGs X es u) : PGs X (e :: es) (gCons t u) := pgs_cons h1 h2 hs
theorem pg_nameU {X : Cx} {pos : Pos} {x : Str} (i : Nat) (hN : X.N.Nodup) (hi : X.N[i]? = some x) (hx : Loc X.env.scope x) (hf : X.fn x = true ∨ X.env.scope.names.lookup x = some .local) : PG X (.Name x pos) (gName i) := pg_name hN hi hx hf

/-! ### data that may be compared -/
def Sh (n : Nat) (d : PyData) : Prop := d.canLay0 = true ∧ d.depth ≤ n
theorem Sh.shaped {n : Nat} {d : PyData} (h : Sh n d) (hn : n ≤ 64) : SeqAt.shaped d = true := by
  unfold SeqAt.shaped
  rw [h.1, Bool.true_and]
  exact decide_eq_true (Nat.le_trans h.2 hn)
theorem Sh.mono {n m : Nat} {d : PyData} (h : Sh n d) (e : n ≤ m) : Sh m d := ⟨h.1, Nat.le_trans h.2 e⟩
theorem Sh.int {n : Nat} {i : Int} : Sh n (.int i) := ⟨rfl, Nat.zero_le _⟩
theorem Sh.bool {n : Nat} {b : Bool} : Sh n (.bool b) := ⟨rfl, Nat.zero_le _⟩
theorem Sh.none {n : Nat} : Sh n .none := ⟨rfl, Nat.zero_le _⟩
theorem Sh.str {n : Nat} {z : Str} (h : ∀ c ∈ z.cps.toList, c < 128) : Sh n (.str z) := by
  refine ⟨?_, Nat.zero_le _⟩
  show PyData.strOk z = true
  unfold PyData.strOk
  rw [Array.all_eq_true']
  intro c hc
  have := h c (by simpa using hc)
  simp only [decide_eq_true_eq]
  omega
theorem Sh.all {n : Nat} : ∀ {ds : List PyData}, (∀ d ∈ ds, Sh n d) → PyData.canLayAll0 ds = true ∧ PyData.depthAll ds ≤ n
  | [], _ => ⟨rfl, Nat.zero_le _⟩
  | d :: r, h => by
    have h1 := h d (by simp)
    have h2 := Sh.all (ds := r) fun x hx => h x (by simp [hx])
    refine ⟨?_, ?_⟩
    · show (d.canLay0 && PyData.canLayAll0 r) = true
      rw [h1.1, h2.1]
      rfl
    · show max d.depth (PyData.depthAll r) ≤ n
      exact Nat.max_le.mpr ⟨h1.2, h2.2⟩
theorem Sh.list {n : Nat} {ds : List PyData} (h : ∀ d ∈ ds, Sh n d) : Sh (n + 1) (.list ds) := ⟨(Sh.all h).1, Nat.succ_le_succ (Sh.all h).2⟩
theorem Sh.tuple {n : Nat} {ds : List PyData} (h : ∀ d ∈ ds, Sh n d) : Sh (n + 1) (.tuple ds) := ⟨(Sh.all h).1, Nat.succ_le_succ (Sh.all h).2⟩
theorem Sh.all_inv {n : Nat} : ∀ {ds : List PyData}, PyData.canLayAll0 ds = true → PyData.depthAll ds ≤ n → ∀ d ∈ ds, Sh n d
  | [], _, _ => fun d hd => by cases hd
  | a :: r, h1, h2 => fun d hd => by
    obtain ⟨q1, q2⟩ := Bool.and_eq_true_iff.mp (show (a.canLay0 && PyData.canLayAll0 r) = true from h1)
    obtain ⟨q3, q4⟩ := Nat.max_le.mp (show max a.depth (PyData.depthAll r) ≤ n from h2)
    rcases List.mem_cons.mp hd with rfl | hd
    · exact ⟨q1, q3⟩
    · exact Sh.all_inv q2 q4 d hd
theorem Sh.list_inv {n : Nat} {ds : List PyData} (h : Sh (n + 1) (.list ds)) : ∀ d ∈ ds, Sh n d := by
  obtain ⟨h1, h2⟩ := h
  have h1 : PyData.canLayAll0 ds = true := h1
  have h2 : PyData.depthAll ds + 1 ≤ n + 1 := h2
  exact Sh.all_inv h1 (by omega)
theorem eqv_same {n : Nat} {d : PyData} (h : Sh n d) : PyData.eqv d d = true := SeqAt.eqv_refl d h.1

section
variable {K : PySem.W.Frag} {H H' : Hp} {v : V} {vs : List V} {ds es : List PyData} {p : Addr} {xs : List V}
theorem DpAll.append : ∀ {vs ws : List V} {ds es : List PyData}, DpAll K H vs ds → DpAll K H ws es → DpAll K H (vs ++ ws) (ds ++ es)
  | _, _, _, _, .nil, h => h
  | _, _, _, _, .cons a r, h => .cons a (DpAll.append r h)
theorem DpAll.length : ∀ {vs : List V} {ds : List PyData}, DpAll K H vs ds → vs.length = ds.length
  | _, _, .nil => rfl
  | _, _, .cons _ r => congrArg (· + 1) (DpAll.length r)
theorem DpAll.split : ∀ {a b : List V} {ds : List PyData}, DpAll K H (a ++ b) ds → ∃ d e, ds = d ++ e ∧ DpAll K H a d ∧ DpAll K H b e
  | [], b, ds, h => ⟨[], ds, rfl, .nil, h⟩
  | x :: a, b, _, .cons h r => by
    obtain ⟨d, e, rfl, h1, h2⟩ := DpAll.split (a := a) r
    exact ⟨_ :: d, e, rfl, .cons h h1, h2⟩
theorem DpAll.get : ∀ {vs : List V} {ds : List PyData} {i : Nat} {d : PyData}, DpAll K H vs ds → ds[i]? = some d → ∃ v, vs[i]? = some v ∧ Dp K H v d
  | _, _, _, _, .nil, e => by cases e
  | _, _, 0, _, .cons h _, e => ⟨_, rfl, by rw [← Option.some.inj e]; exact h⟩
  | _, _, i + 1, _, .cons _ r, e => DpAll.get (i := i) r e
theorem DpAll.takes : ∀ {vs : List V} {ds : List PyData} (n : Nat), DpAll K H vs ds → DpAll K H (vs.take n) (ds.take n)
  | _, _, 0, _ => .nil
  | _, _, n + 1, .nil => .nil
  | _, _, n + 1, .cons a r => .cons a (DpAll.takes n r)
theorem DpAll.drops : ∀ {vs : List V} {ds : List PyData} (n : Nat), DpAll K H vs ds → DpAll K H (vs.drop n) (ds.drop n)
  | _, _, 0, h => h
  | _, _, n + 1, .nil => .nil
  | _, _, n + 1, .cons a r => DpAll.drops n r
theorem Dp.intE {i j : Int} (h : i = j) : Dp K H (.int i) (.int j) := by
  rw [h]; exact .int _
theorem Dp.int_inv {i : Int} (h : Dp K H v (.int i)) : v = .int i := by cases h; rfl
theorem Dp.str_inv {z : Str} (h : Dp K H v (.str z)) : v = .str z := by cases h; rfl
theorem Dp.bool_inv {b : Bool} (h : Dp K H v (.bool b)) : v = .bl b := by cases h; rfl
theorem Dp.none_inv (h : Dp K H v .none) : v = .non := by cases h; rfl
theorem Dp.tup_inv (h : Dp K H v (.tuple ds)) : ∃ p xs, v = .ref p ∧ SqT K H p xs ∧ DpAll K H xs ds := by
  cases h with
  | tup h1 h2 => exact ⟨_, _, rfl, h1, h2⟩
theorem Dp.lst_inv (h : Dp K H v (.list ds)) : ∃ p xs, v = .ref p ∧ SqL K H p xs ∧ DpAll K H xs ds := by
  cases h with
  | lst h1 h2 => exact ⟨_, _, rfl, h1, h2⟩
theorem DpAll.ints : ∀ {vs : List V} {ns : List Int}, DpAll K H vs (ns.map PyData.int) → vs = ns.map V.int
  | _, [], .nil => rfl
  | _, n :: ns, .cons h r => by
    rw [Dp.int_inv h, DpAll.ints r]
    rfl
theorem DpAll.of_ints : ∀ {ns : List Int}, DpAll K H (ns.map V.int) (ns.map PyData.int)
  | [] => .nil
  | n :: ns => .cons (.int n) DpAll.of_ints
theorem DpAll.strs : ∀ {vs : List V} {zs : List Str}, DpAll K H vs (zs.map PyData.str) → vs = zs.map V.str
  | _, [], .nil => rfl
  | _, n :: ns, .cons h r => by
    rw [Dp.str_inv h, DpAll.strs r]
    rfl
theorem DpAll.of_strs : ∀ {ns : List Str}, DpAll K H (ns.map V.str) (ns.map PyData.str)
  | [] => .nil
  | n :: ns => .cons (.str n) DpAll.of_strs
theorem tyT (h : SqT K H p xs) : TyX K H (.ref p) (.type "tuple") := by
  rcases h with (h | ⟨o, h⟩) | ⟨o, its, n, h, c, _⟩
  · exact .base (.tup h)
  · exact .fTuple h
  · exact .kTuple h c
theorem tyL (h : SqL K H p xs) : TyX K H (.ref p) (.type "list") := by
  rcases h with (h | ⟨o, h⟩) | ⟨o, its, n, h, c, _⟩
  · exact .base (.lst h)
  · exact .base (.frz h)
  · exact .kList h c
/-- the type's name of a datum -/
def tyn : PyData → String
  | .none => "NoneType" | .bool _ => "bool" | .int _ => "int" | .str _ => "str" | .list _ => "list" | .tuple _ => "tuple" | .dict _ => "dict"
theorem _root_.L2.Dp.ty {d : PyData} (h : Dp K H v d) : TyX K H v (.type (tyn d)) := by
  cases h with
  | non => exact .base .non
  | bl b => exact .base (.bl b)
  | int i => exact .base (.int i)
  | str z => exact .base (.str z)
  | lst h1 _ => exact tyL h1
  | tup h1 _ => exact tyT h1
/-- isinstance(x, T) of a datum -/
theorem w_isiD {Q : VK} {d : PyData} {n : String} {b : Bool} (hd : Dp K H v d) (e : kitB (tyn d) n = some b) (h : Q (.bl b) H) : rIsi K [v, .ty n] H Q := w_isi hd.ty (kit_ty e) h
theorem w_isiT {Q : VK} {t n : String} {b : Bool} (ty : TyX K H v (.type t)) (e : kitB t n = some b) (h : Q (.bl b) H) : rIsi K [v, .ty n] H Q := w_isi ty (kit_ty e) h
/-! targets -/
variable {σ : St} {R : St → Hp → Prop}
theorem w_gtup {n : Nat} {t : TGs} (h1 : SqT K H p xs) (hl : xs.length = n) (h : t xs σ H R) : gTup K n t (.ref p) σ H R := ⟨p, xs, rfl, h1, hl, h⟩
theorem w_gcons {t : TG} {u : TGs} (h : t v σ H fun σ' H' => u vs σ' H' R) : gCons t u (v :: vs) σ H R := ⟨v, vs, rfl, h⟩
theorem w_gnil (h : R σ H) : gNil [] σ H R := ⟨rfl, h⟩
theorem w_wipe {σ2 : St} {l : List Nat} {A : Prop} (e : wipe σ2 l = wipe σ l) (h : A) : wipe σ2 l = wipe σ l ∧ A := ⟨e, h⟩
end
/-- signs of a text that is one sign -/
theorem one_len (c : Nat) : (⟨#[c]⟩ : Str).length = 1 := rfl
theorem str_ext {a b : Str} (h : a.cps.toList = b.cps.toList) : a = b := by
  obtain ⟨a⟩ := a
  obtain ⟨b⟩ := b
  have : a = b := by simpa using congrArg List.toArray h
  rw [this]
theorem app_list (a b : Str) : (a ++ b).cps.toList = a.cps.toList ++ b.cps.toList := by
  show (a.cps ++ b.cps).toList = _
  simp
theorem len_list (a : Str) : a.length = a.cps.toList.length := by
  show a.cps.size = _
  simp

/-! ### slices -/
section
variable {α β : Type}
def cutG (xs : List α) (lo hi : Option Int) : List α := (xs.drop (HT.sIx xs.length 0 lo)).take (HT.sIx xs.length xs.length hi - HT.sIx xs.length 0 lo)
theorem cutG_V (xs : List V) (lo hi : Option Int) : cutV xs lo hi = cutG xs lo hi := rfl
theorem cutG_S (z : Str) (lo hi : Option Int) : (cutS z lo hi).cps.toList = cutG z.cps.toList lo hi := by
  unfold cutS cutG
  rw [len_list]
theorem cutG_map (f : α → β) (xs : List α) (lo hi : Option Int) : cutG (xs.map f) lo hi = (cutG xs lo hi).map f := by
  unfold cutG
  rw [List.length_map, List.map_take, List.map_drop]
theorem cutG_to (xs : List α) (n : Nat) : cutG xs none (some (n : Int)) = xs.take n := by
  unfold cutG
  rw [HT.sIx_none, HT.sIx_nat, List.drop_zero, Nat.sub_zero, List.take_eq_take_iff]
  omega
theorem cutG_from (xs : List α) (n : Nat) : cutG xs (some (n : Int)) none = xs.drop n := by
  unfold cutG
  rw [HT.sIx_none, HT.sIx_nat, ← List.length_drop, List.take_length]
  by_cases h : n ≤ xs.length
  · rw [Nat.min_eq_left h]
  · rw [Nat.min_eq_right (by omega), List.drop_length, List.drop_eq_nil_of_le (by omega)]
theorem cutG_nn (xs : List α) (a b : Nat) (h : b ≤ xs.length) : cutG xs (some (a : Int)) (some (b : Int)) = (xs.drop a).take (b - a) := by
  unfold cutG
  rw [HT.sIx_nat, HT.sIx_nat, Nat.min_eq_left h]
  by_cases h2 : a ≤ xs.length
  · rw [Nat.min_eq_left h2]
  · rw [Nat.min_eq_right (by omega), List.drop_length, List.drop_eq_nil_of_le (by omega), List.take_nil, List.take_nil]
theorem cutG_init (xs : List α) : cutG xs none (some (-1)) = xs.dropLast := by
  unfold cutG
  have e : HT.sIx xs.length xs.length (some (-1)) = xs.length - 1 := by
    have e1 : HT.sIx xs.length xs.length (some (-1)) = ((-1 : Int) + (xs.length : Int)).toNat := rfl
    rw [e1]
    omega
  rw [HT.sIx_none, e, List.drop_zero, Nat.sub_zero, List.dropLast_eq_take]
theorem cutG_last (xs : List α) : cutG xs (some (-1)) none = xs.drop (xs.length - 1) := by
  unfold cutG
  have e : HT.sIx xs.length 0 (some (-1)) = xs.length - 1 := by
    have e1 : HT.sIx xs.length 0 (some (-1)) = ((-1 : Int) + (xs.length : Int)).toNat := rfl
    rw [e1]
    omega
  rw [HT.sIx_none, e, ← List.length_drop, List.take_length]
end
end S

namespace S
open PySem PySem.Spec PyProof.Rows L2
section
variable {K : PySem.W.Frag} {H : Hp} {J : It} {g : TG} {tt : TT} {te : TE} {vs : List Nat} {σ : St} {Q : VK} {G : Hp → Prop}
theorem w_slLs {H : Hp} {p : Addr} {xs : List V} {lo hi : Option Int} (h1 : SqL K H p xs) (h : ∀ q H', H q = none → Same H H' → H' q = some (.lst (cutV xs lo hi)) → Q (.ref q) H') : rSlU K (.ref p) lo hi H Q := w_slL h1 fun q hq => h q _ hq (Same.upd hq) upd_same
theorem w_addLs {H : Hp} {p q : Addr} {xs ys : List V} (h1 : H p = some (.lst xs)) (h2 : H q = some (.lst ys)) (hl : xs.length + ys.length ≤ sizeLine) (h : ∀ l H', H l = none → Same H H' → H' l = some (.lst (xs ++ ys)) → Q (.ref l) H') : rAddU K (.ref p) (.ref q) H Q := w_addL h1 h2 hl fun q hq => h q _ hq (Same.upd hq) upd_same
theorem w_tupL {H : Hp} {p : Addr} {xs : List V} (h1 : SqL K H p xs) (h : ∀ l H', H l = none → Same H H' → H' l = some (.tup xs) → Q (.ref l) H') : rTupleU K [.ref p] H Q := ⟨p, xs, rfl, .inl ⟨h1, fun l hl => h l _ hl (Same.upd hl) upd_same⟩⟩
theorem w_tupT {H : Hp} {p : Addr} {xs : List V} (h1 : SqT K H p xs) (h : Q (.ref p) H) : rTupleU K [.ref p] H Q := ⟨p, xs, rfl, .inr ⟨h1, h⟩⟩
theorem ixN_zero (n : Nat) : ixN (n + 1) 0 = some 0 := by
  unfold ixN
  rw [if_pos (by omega)]
  rw [if_pos (by omega)]
  rfl
theorem sz1 {c : Nat} : (⟨#[c]⟩ : Str).length ≤ sizeLine := show 1 ≤ sizeLine by decide
theorem szN {n : Nat} (h : n ≤ 100000) : n ≤ sizeLine := Nat.le_trans h (by decide)
theorem DpAll.at {H : Hp} : ∀ {d r : List V} {x : V} {ds : List PyData}, DpAll K H (d ++ x :: r) ds → ∃ e, ds[d.length]? = some e ∧ Dp K H x e ∧ ds.take (d.length + 1) = ds.take d.length ++ [e] := by
  intro d r x ds h
  obtain ⟨a, b, rfl, h1, h2⟩ := DpAll.split h
  cases h2 with
  | cons h3 h4 =>
    have hl := DpAll.length h1
    rename_i e es
    have e1 : (a ++ e :: es)[d.length]? = some e := by rw [List.getElem?_append_right (by omega), hl, Nat.sub_self]; rfl
    refine ⟨_, e1, h3, ?_⟩
    rw [List.take_add_one, e1]
    rfl
theorem _root_.L2.Dp.t2 {v : V} {d e : PyData} (h : Dp K H v (.tuple [d, e])) : ∃ p x y, v = .ref p ∧ SqT K H p [x, y] ∧ Dp K H x d ∧ Dp K H y e := by
  obtain ⟨p, xs, rfl, q, a⟩ := Dp.tup_inv h
  cases a with
  | cons a1 a => cases a with
    | cons a2 a => cases a; exact ⟨p, _, _, rfl, q, a1, a2⟩
theorem _root_.L2.Dp.t3 {v : V} {d e f : PyData} (h : Dp K H v (.tuple [d, e, f])) : ∃ p x y z, v = .ref p ∧ SqT K H p [x, y, z] ∧ Dp K H x d ∧ Dp K H y e ∧ Dp K H z f := by
  obtain ⟨p, xs, rfl, q, a⟩ := Dp.tup_inv h
  cases a with
  | cons a1 a => cases a with
    | cons a2 a => cases a with
      | cons a3 a => cases a; exact ⟨p, _, _, _, rfl, q, a1, a2, a3⟩
theorem put_into {H H0 H4 : Hp} {D : Addr} {acc : List V} {ds : List PyData} {y : V} {e : PyData} (h0 : H0 D = some (.lst acc)) (s : Same H (del H0 D)) (dp : DpAll K (del H0 D) acc ds) (s4 : Same H0 H4) (dy : Dp K (del H4 D) y e) :
    H4 D = some (.lst acc) ∧ Same H (del (upd H4 D (.lst (acc ++ [y]))) D) ∧ DpAll K (del (upd H4 D (.lst (acc ++ [y]))) D) (acc ++ [y]) (ds ++ [e]) := by
  rw [del_upd]
  exact ⟨s4 _ _ h0, s.trans (Same.dels s4), DpAll.append (DpAll.same (Same.dels s4) dp) (.cons dy .nil)⟩
/-- a comprehension over told data: each one's answer, or none -/
theorem lc_fm {xs : List V} {ds : List PyData} (F : PyData → Option PyData) (wk : WalkP J xs G (fun z H x H' => H' = H ∧ x = z)) (hG : ∀ H', Same H H' → G H') (dx : DpAll K H xs ds) (hl : xs.length < sizeLine)
    (hs : ∀ (D : Addr) (x : V) (d : PyData) (H0 : Hp) (acc : List V) (Put : VK) (Skip : Hp → Prop), H D = none → H0 D = some (.lst acc) → Same H (del H0 D) → d ∈ ds → Dp K (del H0 D) x d → (∀ e, F d = some e → ∀ y H4, Same H0 H4 → Dp K (del H4 D) y e → Put y H4) → (F d = none → ∀ H3, Same H0 H3 → Skip H3) →
      g x (wipe σ vs) H0 fun σ2 H2 => wipe σ2 vs = wipe σ vs ∧ tt σ2 H2 fun b H3 => if b = true then te σ2 H3 Put else Skip H3)
    (hd : ∀ D ys H1, H D = none → Same H (del H1 D) → H1 D = some (.lst ys) → DpAll K (del H1 D) ys (ds.filterMap F) → Q (.ref D) H1) : LcW J g tt te vs σ H Q := by
  have hlen := DpAll.length dx
  refine lc_pre wk (fun D d H' => ∃ acc, H' D = some (.lst acc) ∧ acc.length ≤ d.length ∧ Same H (del H' D) ∧ DpAll K (del H' D) acc ((ds.take d.length).filterMap F)) (fun D hD => ⟨[], upd_same, Nat.le_refl _, ?_, .nil⟩) (fun D d r H' e p => ?_) (fun D d z r x H0 H' hD e p y => ?_) fun D H1 hD p => ?_
  · rw [del_upd]
    exact Same.to_del (fun _ _ e => e) hD
  · obtain ⟨acc, _, _, s, _⟩ := p
    exact hG _ (Same.into s)
  · obtain ⟨acc, h0, hle, s, dp⟩ := p
    obtain ⟨rfl, rfl⟩ := y
    obtain ⟨el, e1, dz, e2⟩ := DpAll.at (e ▸ dx)
    have hlt : d.length < xs.length := by rw [e, List.length_append]; exact Nat.lt_add_of_pos_right (Nat.succ_pos _)
    refine hs D x el H' acc _ _ hD h0 s (List.mem_of_getElem? e1) (Dp.same s dz) (fun f hf y H4 s4 dy => ?_) (fun hf H3 s3 => ?_)
    · obtain ⟨p1, p2, p3⟩ := put_into h0 s dp s4 dy
      refine ⟨acc, p1, Nat.lt_of_le_of_lt hle (Nat.lt_trans hlt hl), acc ++ [y], upd_same, by rw [List.length_append, List.length_append]; exact Nat.succ_le_succ hle, p2, ?_⟩
      rw [List.length_append]
      show DpAll _ _ _ ((ds.take (d.length + 1)).filterMap F)
      rw [e2, List.filterMap_append]
      show DpAll _ _ _ (_ ++ List.filterMap F [el])
      rw [List.filterMap_cons, hf]
      exact p3
    · refine ⟨acc, s3 _ _ h0, by rw [List.length_append]; exact Nat.le_succ_of_le hle, s.trans (Same.dels s3), ?_⟩
      rw [List.length_append]
      show DpAll _ _ _ ((ds.take (d.length + 1)).filterMap F)
      rw [e2, List.filterMap_append]
      show DpAll _ _ _ (_ ++ List.filterMap F [el])
      rw [List.filterMap_cons, hf]
      show DpAll _ _ _ (_ ++ [])
      rw [List.append_nil]
      exact DpAll.same (Same.dels s3) dp
  · obtain ⟨acc, h0, _, s, dp⟩ := p
    rw [hlen, List.take_length] at dp
    exact hd D acc H1 hD s h0 dp
/-- a comprehension over told data without a test -/
theorem lc_dp {xs : List V} {ds : List PyData} (F : PyData → PyData) (wk : WalkP J xs G (fun z H x H' => H' = H ∧ x = z)) (hG : ∀ H', Same H H' → G H') (dx : DpAll K H xs ds) (hl : xs.length < sizeLine)
    (hs : ∀ (D : Addr) (x : V) (d : PyData) (H0 : Hp) (acc : List V) (Put : VK) (Skip : Hp → Prop), H D = none → H0 D = some (.lst acc) → Same H (del H0 D) → d ∈ ds → Dp K (del H0 D) x d → (∀ y H4, Same H0 H4 → Dp K (del H4 D) y (F d) → Put y H4) →
      g x (wipe σ vs) H0 fun σ2 H2 => wipe σ2 vs = wipe σ vs ∧ tt σ2 H2 fun b H3 => if b = true then te σ2 H3 Put else Skip H3)
    (hd : ∀ D ys H1, H D = none → Same H (del H1 D) → H1 D = some (.lst ys) → DpAll K (del H1 D) ys (ds.map F) → Q (.ref D) H1) : LcW J g tt te vs σ H Q := by
  refine lc_fm (fun d => some (F d)) wk hG dx hl (fun D x d H0 acc Put Skip hD h0 s hm dx put _ => hs D x d H0 acc Put Skip hD h0 s hm dx (put _ rfl)) fun D ys H1 hD s h d => hd D ys H1 hD s h ?_
  rw [← List.filterMap_eq_map]
  exact d
/-- a comprehension over a range -/
theorem lcr_dp {lo : Int} {n : Nat} (F : Nat → PyData) (hl : n < sizeLine)
    (hs : ∀ (D : Addr) (i : Nat) (H0 : Hp) (acc : List V) (Put : VK) (Skip : Hp → Prop), H D = none → i < n → H0 D = some (.lst acc) → Same H (del H0 D) → (∀ y H4, Same H0 H4 → Dp K (del H4 D) y (F i) → Put y H4) →
      g (.int (lo + (i : Nat))) (wipe σ vs) H0 fun σ2 H2 => wipe σ2 vs = wipe σ vs ∧ tt σ2 H2 fun b H3 => if b = true then te σ2 H3 Put else Skip H3)
    (hd : ∀ D ys H1, H D = none → Same H (del H1 D) → H1 D = some (.lst ys) → DpAll K (del H1 D) ys ((List.range n).map F) → Q (.ref D) H1) : LcW (Itr lo n) g tt te vs σ H Q := by
  refine lc_rng (fun D i H' => ∃ acc, H' D = some (.lst acc) ∧ acc.length ≤ i ∧ Same H (del H' D) ∧ DpAll K (del H' D) acc ((List.range i).map F)) (fun D hD => ⟨[], upd_same, Nat.le_refl _, ?_, .nil⟩) (fun D i H0 hD hi p => ?_) fun D H1 hD p => ?_
  · rw [del_upd]
    exact Same.to_del (fun _ _ e => e) hD
  · obtain ⟨acc, h0, hle, s, dp⟩ := p
    refine hs D i H0 acc _ _ hD hi h0 s fun y H4 s4 dy => ?_
    obtain ⟨p1, p2, p3⟩ := put_into h0 s dp s4 dy
    refine ⟨acc, p1, Nat.lt_of_le_of_lt hle (Nat.lt_trans hi hl), acc ++ [y], upd_same, by rw [List.length_append]; exact Nat.succ_le_succ hle, p2, ?_⟩
    rw [List.range_succ, List.map_append]
    exact p3
  · obtain ⟨acc, h0, _, s, dp⟩ := p
    exact hd D acc H1 hD s h0 dp
end
end S

namespace S
open PySem PySem.Spec PyProof.Rows L2
/-! ### walking two texts side by side -/
def ItP (xs ys : Nat → Option V) (n : Nat) : It :=
  ⟨fun i _ => i < n, fun i H v H' => ∃ T x y, v = .ref T ∧ H T = none ∧ H' = upd H T (.tup [x, y]) ∧ xs i = some x ∧ ys i = some y, fun i _ => i = n⟩
theorem walk_P {xs ys : Nat → Option V} {n : Nat} : Walk (ItP xs ys n) n (fun _ => True) (YPair xs ys) :=
  ⟨fun i _ hi _ => hi, fun _ _ => rfl, fun i H v H' _ _ y => y⟩
/-- an iterator of new pairs, as the hand wants it -/
theorem turn_pair {P : Program} {w : World} {K : PySem.W.Frag} {tg : Expr} {z : Addr} {fp wr : List Addr} {n : Nat} {P1 P2 : Nat → Value → Prop} {St : Nat → Heap → Prop} {xs ys : Nat → Option V}
    (W : ∀ A : Around, A.handled = none → GoesN P w A tg z fp wr n (fun i h₀ v h => ∃ T x y, v = .ref T ∧ h₀.objs.size ≤ T ∧ P1 i x ∧ P2 i y ∧ h.IsTuple T #[x, y]) St) (hz : z ∈ fp) (sf : ∀ (A : Around) (i : Nat) (s : Shared) (Q : Value → Shared → Prop) (E : Value → Shared → Prop), St i s.heap → Q (.ref z) s → wpAny (model P w) A (pyIter (.ref z)) Q E s)
    (ob : ∀ i h, St i h → ∀ b ∈ fp, ∃ o, h.get? b = some o ∧ ∀ v, o.data ≠ .cell v) (r1 : ∀ i u, i < n → P1 i u → ∃ x, xs i = some x ∧ RelV x u) (r2 : ∀ i u, i < n → P2 i u → ∃ x, ys i = some x ∧ RelV x u) :
    Turn P w K tg (ItP xs ys n) fp z St where
  mem := hz
  obj := ob
  keep := fun i h h' st k => (W callerA rfl).frame i h h' st k
  item := by
    intro X hP hw hK hc i pins s σ H E I hf st hg
    subst hP hw hK
    have Wa := W X.A (I.ok.hd hc)
    refine Wa.goes i s _ E hg st fun v h' tk hY st' hk htk => ?_
    obtain ⟨T, u1, u2, rfl, hT, p1, p2, o, ho, hoc, m, hod⟩ := hY
    obtain ⟨x, hx, rx⟩ := r1 i u1 hg p1
    obtain ⟨y, hy, ry⟩ := r2 i u2 hg p2
    have new : ObjOk X.prog X.w (upd H T (.tup [x, y])) h' T (.tup [x, y]) := ⟨by show 2 ≤ sizeLine; decide, [u1, u2], .cons rx (.cons ry .nil), ⟨_, ho, hoc, _, hod⟩⟩
    have I1 : Inv X pins σ (upd H T (.tup [x, y])) { s with heap := h', toks := tk } :=
      I.turnedNew (t' := tk) (ch := fp) (fun b o hb q => hk b o (fun z => hb (Wa.sub b z)) q) hf hT new
    refine ⟨.ref T, _, I1, rfl, ⟨T, x, y, rfl, I.hok.fresh hT, rfl, hx, hy⟩, st', fun b hb => ?_⟩
    obtain ⟨ob1, hob, _⟩ := ob i s.heap st b hb
    rw [upd_ne (Nat.ne_of_lt (Nat.lt_of_lt_of_le (Heap.lt_size hob) hT))]
    exact (hf b hb).1
  done := by
    intro X hP hw hK hc i pins s σ H E I hf st hg
    subst hP hw hK
    have Wa := W X.A (I.ok.hd hc)
    have hg' : i = n := hg
    subst hg'
    exact Wa.stops s _ E st fun h' tk hk htk => I.turnedL (t' := tk) (ch := fp) (fun b o hb q => hk b o (fun z => hb (Wa.sub b z)) q) hf
  self := sf
def chS (z : Str) (i : Nat) : Option V := (z.cps.toList[i]?).map fun c => .str ⟨#[c]⟩
theorem chS_ok {z : Str} {i : Nat} {u : Value} (h : ∃ c t, z.cps[i]? = some c ∧ u = .str ⟨#[c]⟩ t) : ∃ x, chS z i = some x ∧ RelV x u := by
  obtain ⟨c, t, hc, rfl⟩ := h
  refine ⟨.str ⟨#[c]⟩, ?_, ⟨t, rfl⟩⟩
  unfold chS
  rw [show z.cps.toList[i]? = some c by rw [← hc]; simp]
  rfl
def iZipS (ta : TA) : TI := fun σ H R => ta σ H fun vs H1 => ∃ x y : Str, vs = [.str x, .str y] ∧ R (ItP (chS x) (chS y) (min x.cps.size y.cps.size)) H1
theorem pi_zipS {X : Cx} {e e2 : Expr} {ta : TA} {p pos tpos : Pos} {elts : List Expr} {kk} (hg : Gl X "zip") (hm : X.mg "zip" = none) (ha : PA X [e, e2] ta)
    (hs : starEach [e, e2] X.env = (false, eval e X.env) :: starEach [e2] X.env := by rfl) (hpl : (backTo pos (starEach [e2] X.env)).any (·.1) = false := by rfl) :
    PI X (.Tuple elts kk tpos) (.Call (.Name "zip" p) [e, e2] [] pos) (iZipS ta) := by
  refine ⟨fun pins s σ H R I h => ?_⟩
  refine Call_ (ld_blt I hg hm PyProof.Rows.boot_zip (PyProof.Rows.callWith_type1 (thn (ha.run pos pins s σ H _ I h) fun us s1 ⟨vs, H1, I1, r1, q1⟩ => ?_) hs hpl))
  obtain ⟨x, y, ex, q⟩ := q1
  subst ex
  cases r1 with
  | cons r rr =>
    cases rr with
    | cons r' rr =>
      cases rr
      obtain ⟨t1, rfl⟩ := r
      obtain ⟨t2, rfl⟩ := r'
      refine zip_begins2 (begins_text x _) (begins_text y _) True.intro True.intro fun h' hz hTI hTO h1 h2 hsz hk => wpAny_pyIter_zip hz ?_
      have I2 : Inv X pins σ H1 { s1 with heap := h' } := I1.kept (t' := s1.toks) hk
      have S2 : ZipSep2 (s1.heap.objs.size + 4) (s1.heap.objs.size + 2) (s1.heap.objs.size + 3) s1.heap.objs.size (s1.heap.objs.size + 1) [s1.heap.objs.size] [s1.heap.objs.size + 1] := by
        constructor <;> simp
      refine ⟨s1.heap.objs.size + 4, (s1.heap.objs.size + 4) :: (s1.heap.objs.size + 2) :: (s1.heap.objs.size + 3) :: ([s1.heap.objs.size] ++ [s1.heap.objs.size + 1]), _, _, H1, rfl, I2,
        turn_pair (fun A hA => GoesN.zip2 S2 (Draws.text (A := A.in1) hA _ x _) (Draws.text (A := A.in1) hA _ y _)) (by simp) (fun A i s Q E st h => wpAny_pyIter_zip st.1 h) (fun i h st b hb => ?_) (fun i u _ hu => chS_ok hu) (fun i u _ hu => chS_ok hu), ⟨hz, hTI, ⟨_, _, hTO⟩, ⟨_, h1, rfl, rfl⟩, ⟨_, h2, rfl, rfl⟩⟩, fun c hcm => ?_, q⟩
      · obtain ⟨hz, hTI, ⟨a1, a2, hTO⟩, ⟨o1, e1, _, d1⟩, ⟨o2, e2, _, d2⟩⟩ := st
        have e' : b = s1.heap.objs.size + 4 ∨ b = s1.heap.objs.size + 2 ∨ b = s1.heap.objs.size + 3 ∨ b = s1.heap.objs.size ∨ b = s1.heap.objs.size + 1 := by simpa using hb
        rcases e' with z | z | z | z | z
        · rw [z]; exact ⟨_, hz, fun v q => nomatch q⟩
        · rw [z]; exact ⟨_, hTI, fun v q => nomatch q⟩
        · rw [z]; exact ⟨_, hTO, fun v q => nomatch q⟩
        · rw [z]; exact ⟨o1, e1, fun v q => by rw [d1] at q; cases q⟩
        · rw [z]; exact ⟨o2, e2, fun v q => by rw [d2] at q; cases q⟩
      · have e' : c = s1.heap.objs.size + 4 ∨ c = s1.heap.objs.size + 2 ∨ c = s1.heap.objs.size + 3 ∨ c = s1.heap.objs.size ∨ c = s1.heap.objs.size + 1 := by simpa using hcm
        have hle : s1.heap.objs.size ≤ c := by
          rcases e' with z | z | z | z | z
          · rw [z]; exact Nat.le_add_right _ _
          · rw [z]; exact Nat.le_add_right _ _
          · rw [z]; exact Nat.le_add_right _ _
          · rw [z]; exact Nat.le_refl _
          · rw [z]; exact Nat.le_add_right _ _
        exact I1.fpOk hle (I1.hok.fresh hle)
/-- two texts walked side by side, by the number of the turn -/
theorem wp_zipS0 {x y : Str} : WalkP (ItP (chS x) (chS y) (min x.cps.size y.cps.size)) (x.cps.toList.zip y.cps.toList) (fun _ => True)
    (fun z H v H' => ∃ T, v = .ref T ∧ H T = none ∧ H' = upd H T (.tup [.str ⟨#[z.1]⟩, .str ⟨#[z.2]⟩])) := by
  have w := walk_P (xs := chS x) (ys := chS y) (n := min x.cps.size y.cps.size)
  have e : (x.cps.toList.zip y.cps.toList).length = min x.cps.size y.cps.size := by rw [List.length_zip]; simp
  show Walk _ (x.cps.toList.zip y.cps.toList).length _ _
  rw [e]
  refine w.mono (fun H h => h) fun i H v H' hi h q => ?_
  obtain ⟨T, a, b, rfl, hT, rfl, ha, hb⟩ := q
  unfold chS at ha hb
  cases e1 : x.cps.toList[i]? with
  | none => rw [e1] at ha; cases ha
  | some c =>
    cases e2 : y.cps.toList[i]? with
    | none => rw [e2] at hb; cases hb
    | some d =>
      rw [e1] at ha
      rw [e2] at hb
      cases ha
      cases hb
      refine ⟨(c, d), ?_, T, rfl, hT, rfl⟩
      rw [List.getElem?_zip_eq_some]
      exact ⟨e1, e2⟩
theorem wp_zipS {x y : Str} (_hl : x.cps.size = y.cps.size) : WalkP (ItP (chS x) (chS y) (min x.cps.size y.cps.size)) (x.cps.toList.zip y.cps.toList) (fun _ => True)
    (fun z H v H' => ∃ T, v = .ref T ∧ H T = none ∧ H' = upd H T (.tup [.str ⟨#[z.1]⟩, .str ⟨#[z.2]⟩])) := wp_zipS0
end S

namespace S
open PySem PySem.Spec PyProof.Rows L2
def strOf (l : List Nat) : Str := ⟨l.toArray⟩
theorem strOf_list (l : List Nat) : (strOf l).cps.toList = l := rfl
theorem strOf_self (z : Str) : strOf z.cps.toList = z := str_ext rfl
theorem strOf_length (l : List Nat) : (strOf l).length = l.length := by rw [len_list, strOf_list]
theorem strOf_inj {a b : List Nat} (h : strOf a = strOf b) : a = b := by
  have := congrArg (fun z : Str => z.cps.toList) h
  exact this

section
variable {X : Cx} {K : PySem.W.Frag} {to te : TE} {o e : Expr} {H : Hp} {Q : VK}
theorem w_iZipS {ta : TA} {σ : St} {R : It → Hp → Prop} (h : ta σ H fun vs H1 => ∃ x y : Str, vs = [.str x, .str y] ∧ R (ItP (chS x) (chS y) (min x.cps.size y.cps.size)) H1) : iZipS ta σ H R := h
def rFind : V → List V → Hp → VK → Prop := fun x xs H Q => ∃ a b, x = .str a ∧ xs = [.str b] ∧ Q (.int (Txt.find a b)) H
theorem pe_findU {apos pos : Pos} (ho : PE X o to) (he : PE X e te) (hs : starEach [e] X.env = [(false, eval e X.env)]) (hbase : attributeBase o "find" X.env (eval o X.env) = eval o X.env) (hline : (apos.endLine == pos.line) = true) :
    PE X (.Call (.Attribute o "find" apos) [e] [] pos) (tM1 rFind to te) := pe_m1 F.slot_str_find F.type_str_find mt_find ho he hs hbase hline
theorem w_find {a b : Str} {i : Int} (h : Txt.find a b = i) (q : Q (.int i) H) : rFind (.str a) [.str b] H Q := ⟨a, b, rfl, rfl, by rw [h]; exact q⟩
def rIndexS : V → List V → Hp → VK → Prop := fun x xs H Q => ∃ a b i rest, x = .str a ∧ xs = [.str b] ∧ Builtin.Str.occurrences a b 0 a.length 1 = i :: rest ∧ Q (.int (i : Nat)) H
theorem mt_indexS : MtR X "str.index" rIndexS := by
  intro pins s σ H x xs v us Q I rx rs h
  obtain ⟨a, b, i, rest, rfl, rfl, ho, h⟩ := h
  obtain ⟨t, rfl⟩ := rx
  cases rs with
  | cons r1 rs =>
    cases rs
    obtain ⟨u, rfl⟩ := r1
    exact PySem.call_gives F.slot_str_index (typeIs_str _ _ _) F.entry_str_index (F.args_str_index_2 _ _) (gives_str_index a b t u i rest ho) ⟨.int (i : Nat), H, I.tok (s.toks + 1), ⟨_, rfl⟩, h⟩
theorem pe_indexU {apos pos : Pos} (ho : PE X o to) (he : PE X e te) (hs : starEach [e] X.env = [(false, eval e X.env)]) (hbase : attributeBase o "index" X.env (eval o X.env) = eval o X.env) (hline : (apos.endLine == pos.line) = true) :
    PE X (.Call (.Attribute o "index" apos) [e] [] pos) (tM1 rIndexS to te) := pe_m1 F.slot_str_index F.type_str_index mt_indexS ho he hs hbase hline
theorem w_index {a b : Str} {i : Nat} {rest : List Nat} (h : Builtin.Str.occurrences a b 0 a.length 1 = i :: rest) (q : Q (.int (i : Nat)) H) : rIndexS (.str a) [.str b] H Q := ⟨a, b, i, rest, rfl, rfl, h, q⟩
def rJoin (K : PySem.W.Frag) : V → List V → Hp → VK → Prop := fun x xs H Q => ∃ a p, ∃ ys : List Str, x = .str a ∧ xs = [.ref p] ∧ (SqL K H p (ys.map V.str) ∨ SqT K H p (ys.map V.str)) ∧
    (ys.map (·.length)).sum + ys.length * a.length ≤ 16777216 ∧ Q (.str (Txt.join a ys)) H
theorem pe_joinU {apos pos : Pos} (hK : X.K = K) (ho : PE X o to) (he : PE X e te) (hs : starEach [e] X.env = [(false, eval e X.env)]) (hbase : attributeBase o "join" X.env (eval o X.env) = eval o X.env) (hline : (apos.endLine == pos.line) = true) :
    PE X (.Call (.Attribute o "join" apos) [e] [] pos) (tM1 (rJoin K) to te) := by
  subst hK
  exact pe_join ho he hs hbase hline
def chv (c : Nat) : V := .str ⟨#[c]⟩
theorem sum_ones : ∀ l : List Nat, ((l.map fun c => (⟨#[c]⟩ : Str)).map (·.length)).sum = l.length
  | [] => rfl
  | c :: t => by
    rw [List.map_cons, List.map_cons, List.sum_cons, sum_ones t, List.length_cons]
    exact Nat.add_comm _ _
theorem joinL_ones : ∀ l : List Nat, TL.joinL [] ((l.map fun c => (⟨#[c]⟩ : Str)).map TL.tl) = l
  | [] => rfl
  | [c] => rfl
  | c :: d :: t => by
    have ih := joinL_ones (d :: t)
    show [c] ++ ([] ++ TL.joinL [] (((d :: t).map fun c => (⟨#[c]⟩ : Str)).map TL.tl)) = _
    rw [ih]
    rfl
theorem w_joinC {p : Addr} {cs : List Nat} (h : SqL K H p (cs.map chv)) (hl : cs.length ≤ 100000) (q : Q (.str (strOf cs)) H) : rJoin K (.str "") [.ref p] H Q := by
  refine ⟨"", p, cs.map fun c => ⟨#[c]⟩, rfl, rfl, .inl ?_, ?_, ?_⟩
  · rw [List.map_map]; exact h
  · rw [sum_ones]
    show cs.length + _ * 0 ≤ _
    omega
  · have e : Txt.join "" (cs.map fun c => (⟨#[c]⟩ : Str)) = strOf cs := by
      rw [TL.join_eq]
      refine str_ext ?_
      rw [strOf_list]
      have := TL.tl_join "" (cs.map fun c => (⟨#[c]⟩ : Str))
      rw [show TL.tl ("" : Str) = [] from rfl, joinL_ones] at this
      exact this
    rw [e]
    exact q
end
end S

namespace S
open PySem PySem.Spec PyProof.Rows L2
def iEnumS (ta : TA) : TI := fun σ H R => ta σ H fun vs H1 => ∃ x : Str, vs = [.str x] ∧ R (ItP (fun i => some (.int (i : Nat))) (chS x) x.cps.size) H1
theorem w_iEnumS {ta : TA} {σ : St} {H : Hp} {R : It → Hp → Prop} (h : ta σ H fun vs H1 => ∃ x : Str, vs = [.str x] ∧ R (ItP (fun i => some (.int (i : Nat))) (chS x) x.cps.size) H1) : iEnumS ta σ H R := h
theorem pi_enumS {X : Cx} {e : Expr} {ta : TA} {p pos tpos : Pos} {elts : List Expr} {kk} (hg : Gl X "enumerate") (hm : X.mg "enumerate" = none) (ha : PA X [e] ta) (hs : starEach [e] X.env = [(false, eval e X.env)] := by rfl) :
    PI X (.Tuple elts kk tpos) (.Call (.Name "enumerate" p) [e] [] pos) (iEnumS ta) := by
  refine ⟨fun pins s σ H R I h => ?_⟩
  refine Call_ (ld_blt I hg hm boot_enumerate (PyProof.Rows.callWith_type1 (thn (ha.run pos pins s σ H _ I h) fun us s1 ⟨vs, H1, I1, r1, q1⟩ => ?_) hs rfl))
  obtain ⟨x, ex, q⟩ := q1
  subst ex
  cases r1 with
  | cons r rr =>
    cases rr
    obtain ⟨t, rfl⟩ := r
    refine call_enumerate_str fun h' he hit hsz hk => wpAny_pyIter_enum he ?_
    have I2 : Inv X pins σ H1 { s1 with heap := h' } := I1.kept (t' := s1.toks) hk
    refine ⟨s1.heap.objs.size + 1, [s1.heap.objs.size + 1, s1.heap.objs.size], fun i h => (∃ old, IsEnum h (s1.heap.objs.size + 1) s1.heap.objs.size ((0 : Int) + (i : Nat)) old) ∧ h.IsStrIter s1.heap.objs.size (strIterType x) x t i, _, H1, rfl, I2,
      turn_pair (P1 := fun i u => ∃ t, u = .int ((0 : Int) + (i : Nat)) t) (P2 := fun i v => ∃ c u, x.cps[i]? = some c ∧ v = .str ⟨#[c]⟩ u) (wr := [s1.heap.objs.size + 1, s1.heap.objs.size])
        (fun A hA => (GoesN.enumFrom 0 (Draws.text (A := A.in1) hA s1.heap.objs.size x t) (s1.heap.objs.size + 1) (Nat.succ_ne_self _) (by simp) (by simp)).mono fun i h₀ v h _ ⟨T, t, y, ev, hn, hy, hT⟩ => ⟨T, _, y, ev, hn, ⟨t, rfl⟩, hy, hT⟩)
        (by simp) (fun A i s Q E st h => let ⟨⟨_, he⟩, _⟩ := st; wpAny_pyIter_enum he h) (fun i h st b hb => ?_) (fun i u _ hu => ?_) (fun i u _ hu => chS_ok hu), ⟨⟨_, he⟩, hit⟩, fun c hcm => ?_, q⟩
    · obtain ⟨⟨old, he⟩, ⟨o1, e1, _, d1⟩⟩ := st
      have e' : b = s1.heap.objs.size + 1 ∨ b = s1.heap.objs.size := by simpa using hb
      rcases e' with z | z
      · rw [z]; exact ⟨_, he, fun v q => nomatch q⟩
      · rw [z]; exact ⟨o1, e1, fun v q => by rw [d1] at q; cases q⟩
    · obtain ⟨t, rfl⟩ := hu
      exact ⟨_, rfl, ⟨t, by rw [Int.zero_add]⟩⟩
    · have e' : c = s1.heap.objs.size + 1 ∨ c = s1.heap.objs.size := by simpa using hcm
      have hle : s1.heap.objs.size ≤ c := by
        rcases e' with z | z
        · rw [z]; exact Nat.le_add_right _ _
        · rw [z]; exact Nat.le_refl _
      exact I1.fpOk hle (I1.hok.fresh hle)
theorem wp_enumS {x : Str} : WalkP (ItP (fun i => some (.int (i : Nat))) (chS x) x.cps.size) x.cps.toList.zipIdx (fun _ => True)
    (fun z H v H' => ∃ T, v = .ref T ∧ H T = none ∧ H' = upd H T (.tup [.int (z.2 : Nat), .str ⟨#[z.1]⟩])) := by
  have w := walk_P (xs := fun i => some (V.int (i : Nat))) (ys := chS x) (n := x.cps.size)
  have e : x.cps.toList.zipIdx.length = x.cps.size := by rw [List.length_zipIdx]; simp
  show Walk _ x.cps.toList.zipIdx.length _ _
  rw [e]
  refine w.mono (fun H h => h) fun i H v H' hi h q => ?_
  obtain ⟨T, a, b, rfl, hT, rfl, ha, hb⟩ := q
  unfold chS at hb
  cases e1 : x.cps.toList[i]? with
  | none => rw [e1] at hb; cases hb
  | some c =>
    rw [e1] at hb
    cases ha
    cases hb
    refine ⟨(c, i), ?_, T, rfl, hT, rfl⟩
    rw [List.getElem?_zipIdx, e1]
    simp
def rAllU := rAll
theorem w_all {K : PySem.W.Frag} {H : Hp} {Q : VK} {p : Addr} {bs : List Bool} (h : SqL K H p (bs.map V.bl)) (q : Q (.bl (bs.all id)) H) : rAll K [.ref p] H Q := ⟨p, bs, rfl, h, q⟩
theorem w_listL {K : PySem.W.Frag} {H : Hp} {Q : VK} {p : Addr} {xs : List V} (h : SqL K H p xs) (q : ∀ l H', H l = none → Same H H' → H' l = some (.lst xs) → Q (.ref l) H') : rListU K [.ref p] H Q := ⟨p, xs, rfl, .inl h, fun l hl => q l _ hl (Same.upd hl) upd_same⟩
end S

namespace S
open PySem PySem.Spec PyProof.Rows L2
/-! ### sorted(a text) -/
theorem strsAre_of : ∀ (vs : List Value) (l : List Nat), vs.length = l.length → (∀ (j : Nat) (v : Value), vs[j]? = some v → ∃ c u, l[j]? = some c ∧ v = .str ⟨#[c]⟩ u) → StrsAre vs (l.map fun c => ⟨#[c]⟩)
  | [], [], _, _ => .nil
  | [], _ :: _, h, _ => by simp at h
  | _ :: _, [], h, _ => by simp at h
  | v :: vs, c :: l, h, hh => by
    obtain ⟨d, u, h1, rfl⟩ := hh 0 v rfl
    cases h1
    exact .cons _ _ (strsAre_of vs l (by simpa using h) fun j w hw => by
      have := hh (j + 1) w (by simpa using hw)
      simpa using this)
theorem sorted_text {prog : Program} {w : World} {A : Around} {E : Value → Shared → Prop} {s : Shared} {x : Str} {t : Tok} {Q : Value → Shared → Prop} (hh : A.handled = none) (h64 : x.cps.size < 64)
    (h : ∀ (h' h'' : Heap) (tk : Nat) (out : List Value) (ss : List Str), (∀ b o, s.heap.get? b = some o → h'.get? b = some o) → (∀ b o, h'.get? b = some o → h''.get? b = some o) → (∃ e, h''.get? h'.objs.size = some (seqObj "list" out.toArray e)) →
      StrsAre out ss → ss.Perm (x.cps.toList.map fun c => ⟨#[c]⟩) → sortedS ss = true → Q (.ref h'.objs.size) { s with heap := h'', toks := tk }) :
    wpAny (model prog w) A (call (.builtin "sorted") [.str x t]) Q E s := by
  refine Calls.call_function_entry kind_sorted plain_sorted entry_sorted (args_sorted1 _) ?_
  unfold Builtin.«sorted»
  refine wpAny_bind (m := checkCount "sorted" 1 1 _) (wpAny_pure ?_)
  refine wpAny_bind (m := collect (.str x t)) (wpAny_collect_str (A := A.in1) hh x t (fun s' acc hk hg hd ho hacc => ?_) (by rw [sizeLine_eq]; omega))
  obtain ⟨hp, g, d, tk, os⟩ := s
  obtain ⟨hp', g', d', tk', os'⟩ := s'
  obtain rfl : g' = g := hg
  obtain rfl : d' = d := hd
  obtain rfl : os' = os := ho
  have hS : StrsAre acc.toList (x.cps.toList.map fun c => ⟨#[c]⟩) := by
    refine strsAre_of _ _ (by rw [Array.length_toList, Array.length_toList]; exact hacc.1) fun j v hv => ?_
    obtain ⟨c, u, h1, h2⟩ := hacc.2 j v (by simpa using hv)
    exact ⟨c, u, by rw [← h1]; simp, h2⟩
  have hl : acc.toList.length < 64 := by rw [Array.length_toList, hacc.1]; exact h64
  refine wpAny_bind (wpAny_newList ?_)
  have hoL : (hp'.push (seqObj "list" acc.toList.toArray 0)).get? hp'.objs.size = some (seqObj "list" acc.toList.toArray 0) := Heap.get?_push_size _ rfl
  refine wpAny_bind (wpAny_holding (wpAny_call_entry slot_list_sort ⟨_, hoL, rfl⟩ entry_list_sort (list_sort_treeK strKind_oneLt hoL hS.keysOf (fun v₁ v₂ rest e => keyKind_strs (by rw [← e]; exact hS)) hl fun st' a1 a2 => ⟨_, rfl, ?_⟩) (args_list_sort _)))
  obtain ⟨ss', h1, h2, h3⟩ := sorted_out_str hS a1 a2
  refine wpAny_pure ⟨_, rfl, h hp' _ tk' _ ss' hk (fun b o hb => ?_) ?_ h1 h2 h3⟩
  · have hlt := Heap.lt_size hb
    rw [sortedHeap_old (Nat.ne_of_lt hlt) (by rw [size_push']; exact Nat.lt_succ_of_lt hlt)]
    exact Heap.get?_push_of_some _ hb
  · obtain ⟨e, he⟩ := sortedHeap_at (out := (arrOf st').map (·.2)) hoL
    exact ⟨e, by rw [he]⟩
def rSortedTx : List V → Hp → VK → Prop := fun vs H Q => ∃ x : Str, vs = [V.str x] ∧ x.length < 64 ∧ ∀ (ys : List Str) (p : Addr) (H' : Hp), ys.Perm (x.cps.toList.map fun c => ⟨#[c]⟩) → sortedS ys = true → H p = none → Same H H' → H' p = some (.lst (ys.map V.str)) → Q (.ref p) H'
theorem cr_sortedTx {X : Cx} (hc : X.calm = true) : CallR X (.builtin "sorted") rSortedTx := by
  intro pins s σ H vs us Q I r h
  obtain ⟨x, rfl, h64, q⟩ := h
  cases r with
  | cons r rr =>
    cases rr
    obtain ⟨t, rfl⟩ := r
    refine sorted_text (I.ok.hd hc) h64 fun h' h'' tk out ss hk hk2 ho h1 h2 h3 => ?_
    obtain ⟨e, he⟩ := ho
    have I1 : Inv X pins σ H { s with heap := h' } := I.kept (t' := s.toks) hk
    have hlen : (ss.map V.str).length ≤ sizeLine := by
      rw [List.length_map, h2.length_eq, List.length_map, Array.length_toList]
      exact small64 h64
    have I2 : Inv X pins σ (upd H h'.objs.size (.lst (ss.map V.str))) { s with heap := h'', toks := tk } :=
      I1.laid (t' := tk) (fun b u hb => hk2 b u hb) (Nat.le_refl _) ⟨hlen, out, e, vals_of_strs h1, he⟩
    have hn : H h'.objs.size = none := I1.hok.fresh (Nat.le_refl _)
    exact ⟨.ref _, _, I2, rfl, q ss _ _ h2 h3 hn (Same.upd hn) upd_same⟩
theorem w_sortedTx {H : Hp} {Q : VK} {x : Str} (h64 : x.length < 64) (q : ∀ (ys : List Str) (p : Addr) (H' : Hp), ys.Perm (x.cps.toList.map fun c => ⟨#[c]⟩) → sortedS ys = true → H p = none → Same H H' → H' p = some (.lst (ys.map V.str)) → Q (.ref p) H') : rSortedTx [.str x] H Q := ⟨x, rfl, h64, q⟩
theorem app_length (a b : Str) : (a ++ b).length = a.length + b.length := by
  rw [len_list, app_list, List.length_append, ← len_list, ← len_list]
/-! ### code that is never reached -/
def tDead : TS := fun _ _ _ => False
theorem ps_dead {X : Cx} {st : Stmt} : PS X st tDead := ⟨fun _ _ _ _ _ _ h => h.elim⟩
def tDeadE : TE := fun _ _ _ => False
theorem pe_dead {X : Cx} {e : Expr} : PE X e tDeadE := ⟨fun _ _ _ _ _ _ h => h.elim⟩
section
variable {K : PySem.W.Frag} {H : Hp} {Q : VK} {σ : St}
def NewRg (a b : Int) (H : Hp) (Q : VK) : Prop := RgOk a b ∧ ∀ q, H q = none → Q (.ref q) (upd H q (.lst (rgV a b)))
theorem w_listRg {te : St → Hp → (Int → Int → Hp → Prop) → Prop} (h : te σ H fun a b H1 => NewRg a b H1 Q) : tLstRg te σ H Q := h
theorem w_chain {r r' : R2} {ta tb tc : TE} (h : ta σ H fun x H1 => tb σ H1 fun y H2 => r x y H2 fun z H3 => ∃ k, z = .bl k ∧ (if k = true then tc σ H3 fun w' H4 => r' y w' H4 Q else Q (.bl false) H3)) : tChain r r' ta tb tc σ H Q := h
theorem w_rg1 {ta : TE} {R : Int → Int → Hp → Prop} (h : ta σ H fun x H1 => ∃ n, x = .int n ∧ R 0 n H1) : tRg1 ta σ H R := h
theorem w_rgNew {a b : Int} (hr : RgOk a b) (q : ∀ p H', H p = none → Same H H' → H' p = some (.lst (rgV a b)) → Q (.ref p) H') : NewRg a b H Q := ⟨hr, fun p hp => q p _ hp (Same.upd hp) upd_same⟩
theorem rgV_nat (n : Nat) : rgV 0 (n : Int) = ((List.range n).map fun i => ((i : Nat) : Int)).map V.int := by
  unfold rgV
  rw [List.map_map]
  have e : ((n : Int) - 0).toNat = n := by omega
  rw [e]
  refine List.map_congr_left fun i _ => ?_
  show V.int (0 + (i : Int)) = V.int (i : Int)
  rw [Int.zero_add]
theorem w_popAt {l : Addr} {xs : List V} {i : Int} {k : Nat} {y : V} (h : H l = some (.lst xs)) (e : i = (k : Int)) (hk : xs[k]? = some y) (hl : xs.length < 2 ^ 62) (q : Q y (upd H l (.lst (xs.eraseIdx k)))) : rPopAt (.ref l) [.int i] H Q := by
  subst e
  have hlt : k < xs.length := (List.getElem?_eq_some_iff.mp hk).1
  refine ⟨l, xs, (k : Int), k, y, rfl, rfl, h, by omega, by omega, (ixN_seq (?_ : ixN xs.length (k : Int) = some k)).1, hk, q⟩
  unfold ixN
  rw [if_pos (by omega), if_pos (by omega)]
  simp
end
/-- either of two ways to walk -/
theorem pi_or {X : Cx} {tg iter : Expr} {w1 w2 : TI} (h1 : PI X tg iter w1) (h2 : PI X tg iter w2) : PI X tg iter (fun σ H R => w1 σ H R ∨ w2 σ H R) :=
  ⟨fun pins s σ H R I h => h.elim (h1.run pins s σ H R I) (h2.run pins s σ H R I)⟩
def iZipU (K : PySem.W.Frag) (ta : TA) : TI := fun σ H R => iZipS ta σ H R ∨ RZ.iZipA K ta σ H R
theorem pi_zipU {X : Cx} {e e2 : Expr} {ta : TA} {p pos tpos : Pos} {elts : List Expr} {kk} (hg : Gl X "zip") (hm : X.mg "zip" = none) (ha : PA X [e, e2] ta)
    (hs : starEach [e, e2] X.env = (false, eval e X.env) :: starEach [e2] X.env := by rfl) (hpl : (backTo pos (starEach [e2] X.env)).any (·.1) = false := by rfl) :
    PI X (.Tuple elts kk tpos) (.Call (.Name "zip" p) [e, e2] [] pos) (iZipU X.K ta) := pi_or (pi_zipS hg hm ha hs hpl) (RZ.pi_zipA hg hm ha hs hpl)
end S

namespace S
open PySem PySem.Spec PyProof.Rows L2
/-! ### zip of two tuples -/
theorem wp_zipT {K : PySem.W.Frag} {a b : Addr} {xs ys : List V} : WalkP (RZ.ItzT K a b) (xs.zip ys) (fun H => SqT K H a xs ∧ SqT K H b ys) (fun z H v H' => ∃ T, v = .ref T ∧ H T = none ∧ H' = upd H T (.tup [z.1, z.2])) := by
  have el : (xs.zip ys).length = min xs.length ys.length := List.length_zip
  refine ⟨fun i H hi g => ?_, fun H g => ?_, fun i H v H' hi g y => ?_⟩
  · rw [el] at hi
    exact ⟨xs, ys, _, _, g.1, g.2, List.getElem?_eq_getElem (by omega), List.getElem?_eq_getElem (by omega)⟩
  · refine ⟨xs, ys, g.1, g.2, ?_⟩
    rw [el]
    omega
  · obtain ⟨T, x, y, rfl, hT, rfl, f1, f2⟩ := y
    exact ⟨(x, y), List.getElem?_zip_eq_some.mpr ⟨f1 xs g.1, f2 ys g.2⟩, T, rfl, hT, rfl⟩
theorem w_slT {K : PySem.W.Frag} {H : Hp} {Q : VK} {p : Addr} {xs : List V} {lo hi : Option Int} (h1 : SqT K H p xs) (h : ∀ q H', Same H H' → SqT K H' q (cutV xs lo hi) → Q (.ref q) H') : rSlU K (.ref p) lo hi H Q := by
  refine .inr (.inr ⟨p, xs, rfl, h1, fun e => ?_, fun _ q hq => h q _ (Same.upd hq) (SqT.of upd_same)⟩)
  refine h p H (fun _ _ e => e) ?_
  have e2 : cutV xs lo hi = xs := by
    rw [cutG_V]
    unfold cutG
    rw [e.1, e.2, List.drop_zero, Nat.sub_zero, List.take_length]
  rw [e2]
  exact h1
/-! ### instances -/
section
variable {K : PySem.W.Frag} {σ : St} {H : Hp} {Q : VK} {te ta tv : TE} {f : Str} {v y : V} {a C dx : Addr} {fs : List (Str × V)} {D : Ends} {R : Hp → Prop}
def rFld (K : PySem.W.Frag) (f : Str) : V → Hp → VK → Prop := fun x H Q => ∃ a C dx fs v, x = .ref a ∧ H a = some (.ins C dx fs) ∧ Cls K C ∧ NoAttr K C f ∧ fs.lookup f = some v ∧ Q v H
theorem w_tfld (h : te σ H fun x H1 => rFld K f x H1 Q) : tFld K te f σ H Q := h
theorem w_fld (h : H a = some (.ins C dx fs)) (c : Cls K C) (n : NoAttr K C f) (l : fs.lookup f = some v) (q : Q v H) : rFld K f (.ref a) H Q := ⟨a, C, dx, fs, v, rfl, h, c, n, l, q⟩
def rSet (K : PySem.W.Frag) (f : Str) (x y : V) (H : Hp) (R : Hp → Prop) : Prop := ∃ a C dx fs, x = .ref a ∧ H a = some (.ins C dx fs) ∧ Cls K C ∧ NoAttr K C f ∧ fs.length < 1000 ∧ R (upd H a (.ins C dx (putF f y fs)))
theorem w_sfld (h : tv σ H fun y H1 => ta σ H1 fun x H2 => rSet K f x y H2 (D.nx σ)) : sFld K ta tv f D σ H := h
theorem same_del_upd {o : HO} : Same (S.del H a) (S.del (upd H a o) a) := by
  rw [S.del_upd]
  exact fun _ _ e => e
theorem w_set (h : H a = some (.ins C dx fs)) (c : Cls K C) (n : NoAttr K C f) (l : fs.length < 1000) (q : ∀ H', H' a = some (.ins C dx (putF f y fs)) → Same (del H a) (del H' a) → R H') : rSet K f (.ref a) y H R :=
  ⟨a, C, dx, fs, rfl, h, c, n, l, q _ upd_same same_del_upd⟩
theorem len_putF (f : Str) (v : V) : ∀ fs : List (Str × V), (putF f v fs).length ≤ fs.length + 1
  | [] => Nat.le_refl _
  | (g, x) :: r => by
    show (if g = f then (g, v) :: r else (g, x) :: putF f v r).length ≤ _
    split
    · exact Nat.le_succ _
    · exact Nat.succ_le_succ (len_putF f v r)
theorem w_dnewK (h : ∀ p H', H p = none → Same H H' → H' p = some (.dK []) → Q (.ref p) H') : tDNewK σ H Q := fun p hp => h p _ hp (Same.upd hp) upd_same
theorem w_dnewT (h : ∀ p H', H p = none → Same H H' → H' p = some (.dT []) → Q (.ref p) H') : tDNewT σ H Q := fun p hp => h p _ hp (Same.upd hp) upd_same
end
/-- a method of the class at C keeps its promise -/
def OkM (P : Program) (w : World) (K : PySem.W.Frag) (mg : Str → Option Value) (base : Heap) (k : Nat) (C : Addr) (m : Str) (ps : List Str) (sp : Sp) : Prop :=
  ∃ fd, FnOk P w K mg base (L2.CX P w) k (He.ma K C m) fd ps sp ∧ Binds K fd ps []
def rMeth (C : Addr) (m : Str) (sp : Sp) (E : XK) (σ : St) (t : TA) : V → Hp → VK → Prop := fun x H Q => ∃ a dx fs, x = .ref a ∧ H a = some (.ins C dx fs) ∧ fs.lookup m = none ∧ t σ H fun vs H2 => sp (x :: vs) H2 Q E
def tMethS (C : Addr) (m : Str) (sp : Sp) (E : St → XK) (ta : TE) (t : TA) : TE := fun σ H Q => ta σ H fun x H1 => rMeth C m sp (E σ) σ t x H1 Q
def tMakeS (C : Addr) (sp : Sp) (E : St → XK) (t : TA) : TE := fun σ H Q => t σ H fun vs H1 => ∀ x dx, H1 x = none → H1 dx = none → dx ≠ x → sp (.ref x :: vs) (upd (upd H1 dx (.own x)) x (.ins C dx [])) (fun v H2 => v = .non ∧ Q (.ref x) H2) (E σ)
section
variable {K : PySem.W.Frag} {σ : St} {H : Hp} {Q : VK} {ta : TE} {t : TA} {C a dx : Addr} {m : Str} {sp : Sp} {E : St → XK} {E' : XK} {fs : List (Str × V)} {vs : List V}
theorem w_tmeth (h : ta σ H fun x H1 => rMeth C m sp (E σ) σ t x H1 Q) : tMethS C m sp E ta t σ H Q := h
theorem w_meth (h : H a = some (.ins C dx fs)) (l : fs.lookup m = none) (q : t σ H fun vs H2 => sp (.ref a :: vs) H2 Q E') : rMeth C m sp E' σ t (.ref a) H Q := ⟨a, dx, fs, rfl, h, l, q⟩
def rMake (C : Addr) (sp : Sp) (E : XK) (vs : List V) (H1 : Hp) (Q : VK) : Prop := ∀ x dx, H1 x = none → H1 dx = none → dx ≠ x → sp (.ref x :: vs) (upd (upd H1 dx (.own x)) x (.ins C dx [])) (fun v H2 => v = .non ∧ Q (.ref x) H2) E
theorem w_tmake (h : t σ H fun vs H1 => rMake C sp (E σ) vs H1 Q) : tMakeS C sp E t σ H Q := h
theorem w_make (h : ∀ x dx H', H x = none → H' x = some (.ins C dx []) → Same H (del H' x) → sp (.ref x :: vs) H' (fun v H2 => v = .non ∧ Q (.ref x) H2) E') : rMake C sp E' vs H Q := by
  intro x dx hx hd ne
  refine h x dx _ hx upd_same fun b u e => ?_
  have n1 := ne_of_none e hx
  rw [del_ne n1, upd_ne n1, upd_ne (ne_of_none e hd)]
  exact e
end
section
variable {X : Cx} {k : Nat} {C : Addr} {x m : Str} {ps : List Str} {sp : Sp} {p pos apos : Pos} {e o : Expr} {es : List Expr} {ta : TE} {t : TA} {W : WX} {CX : CXT} {f : Addr} {fd : FuncData} {E : St → XK}
theorem pe_methE {pl : Sem Bool} (he : PE X o ta) (c : Cls X.K C) (F : OkM X.prog X.w X.K X.mg X.base k C m ps sp) (hr : Room k X.A) (hm : Meth X.K C m (He.ma X.K C m)) (hx : ∀ σ, PassesAt (L2.CX X.prog X.w) X σ (E σ)) (ha : PA X (e :: es) t)
    (hst : starEach (e :: es) X.env = (false, eval e X.env) :: starEach es X.env := by rfl) (hpl : (backTo pos (starEach es X.env)).any (·.1) = false := by rfl)
    (ht : eval (.Call (.Attribute o m apos) (e :: es) [] pos) X.env = (do
      let ov ← eval o X.env
      standAt apos.atName
      let (f, first) ← holding [ov] (getMethod ov m pl)
      callWith pos f first (backTo pos (starEach (e :: es) X.env)) (backToKw pos (keywordEach [] X.env))) := by rfl) :
    PE X (.Call (.Attribute o m apos) (e :: es) [] pos) (tMethS C m sp E ta t) := by
  obtain ⟨fd, F, hb⟩ := F
  refine ⟨fun pins s σ H Q I h => ?_⟩
  refine PySem.W.methodCall_KW (pl := pl) (thn (he.run pins s σ H _ I h) fun u s1 ⟨x, H1, I1, rx, a, dx, fs, ex, ea, l, q⟩ => ?_) ht
  subst ex
  obtain rfl : u = Value.ref a := rx
  refine getmeth_ok I1 ea c hm l ?_
  refine PySem.W.callWith_K (first := [.ref a]) (h₀ := X.base) I.ok.mod.kin hm.kp (thn (ha.run pos pins s1 σ H1 _ I1 q) fun us s2 ⟨vs, H2, I2, r, q2⟩ => ⟨I2.kIn, ?_⟩) hst hpl
  exact run_fnS (us := .ref a :: us) (vs := .ref a :: vs) F hr hb (hx σ) I2 (.cons rfl r) q2
theorem pe_methE0 {pl : Sem Bool} (he : PE X o ta) (c : Cls X.K C) (F : OkM X.prog X.w X.K X.mg X.base k C m ps sp) (hr : Room k X.A) (hm : Meth X.K C m (He.ma X.K C m)) (hx : ∀ σ, PassesAt (L2.CX X.prog X.w) X σ (E σ))
    (ht : eval (.Call (.Attribute o m apos) [] [] pos) X.env = (do
      let ov ← eval o X.env
      standAt apos.atName
      let (f, first) ← holding [ov] (getMethod ov m pl)
      callWith pos f first (backTo pos (starEach [] X.env)) (backToKw pos (keywordEach [] X.env))) := by rfl) :
    PE X (.Call (.Attribute o m apos) [] [] pos) (tMethS C m sp E ta tNil) := by
  obtain ⟨fd, F, hb⟩ := F
  refine ⟨fun pins s σ H Q I h => ?_⟩
  refine PySem.W.methodCall_KW (pl := pl) (thn (he.run pins s σ H _ I h) fun u s1 ⟨x, H1, I1, rx, a, dx, fs, ex, ea, l, q⟩ => ?_) ht
  subst ex
  obtain rfl : u = Value.ref a := rx
  refine getmeth_ok I1 ea c hm l ?_
  exact PySem.W.callWith_K0 (first := [.ref a]) I1.kIn hm.kp (run_fnS (us := [.ref a]) (vs := [.ref a]) F hr hb (hx σ) I1 (.cons rfl .nil) q)
theorem pass0S {X : Cx} (σ : St) : PassesAt (L2.CX X.prog X.w) X σ ((fun _ => E0) σ) := by
  intro pins H s e s' I h
  obtain ⟨_, _, _, _, _, _, _, _, _, _, _, _, z⟩ := h
  exact z.elim
theorem pe_methD {pl : Sem Bool} (he : PE X o ta) (c : Cls X.K C) (F : OkM X.prog X.w X.K X.mg X.base k C m ps sp) (hr : Room k X.A) (hm : Meth X.K C m (He.ma X.K C m)) (tk : Takes X W) (ha : PA X (e :: es) t)
    (hst : starEach (e :: es) X.env = (false, eval e X.env) :: starEach es X.env := by rfl) (hpl : (backTo pos (starEach es X.env)).any (·.1) = false := by rfl)
    (ht : eval (.Call (.Attribute o m apos) (e :: es) [] pos) X.env = (do
      let ov ← eval o X.env
      standAt apos.atName
      let (f, first) ← holding [ov] (getMethod ov m pl)
      callWith pos f first (backTo pos (starEach (e :: es) X.env)) (backToKw pos (keywordEach [] X.env))) := by rfl) :
    PE X (.Call (.Attribute o m apos) (e :: es) [] pos) (tMethS C m sp (WE W) ta t) := pe_methE he c F hr hm (fun σ => passAt tk σ) ha hst hpl ht
theorem pe_methD0 {pl : Sem Bool} (he : PE X o ta) (c : Cls X.K C) (F : OkM X.prog X.w X.K X.mg X.base k C m ps sp) (hr : Room k X.A) (hm : Meth X.K C m (He.ma X.K C m)) (tk : Takes X W)
    (ht : eval (.Call (.Attribute o m apos) [] [] pos) X.env = (do
      let ov ← eval o X.env
      standAt apos.atName
      let (f, first) ← holding [ov] (getMethod ov m pl)
      callWith pos f first (backTo pos (starEach [] X.env)) (backToKw pos (keywordEach [] X.env))) := by rfl) :
    PE X (.Call (.Attribute o m apos) [] [] pos) (tMethS C m sp (WE W) ta tNil) := pe_methE0 he c F hr hm (fun σ => passAt tk σ) ht
theorem pe_methC {pl : Sem Bool} (he : PE X o ta) (c : Cls X.K C) (F : OkM X.prog X.w X.K X.mg X.base k C m ps sp) (hr : Room k X.A) (hm : Meth X.K C m (He.ma X.K C m)) (ha : PA X (e :: es) t)
    (hst : starEach (e :: es) X.env = (false, eval e X.env) :: starEach es X.env := by rfl) (hpl : (backTo pos (starEach es X.env)).any (·.1) = false := by rfl)
    (ht : eval (.Call (.Attribute o m apos) (e :: es) [] pos) X.env = (do
      let ov ← eval o X.env
      standAt apos.atName
      let (f, first) ← holding [ov] (getMethod ov m pl)
      callWith pos f first (backTo pos (starEach (e :: es) X.env)) (backToKw pos (keywordEach [] X.env))) := by rfl) :
    PE X (.Call (.Attribute o m apos) (e :: es) [] pos) (tMethS C m sp (fun _ => E0) ta t) := pe_methE he c F hr hm pass0S ha hst hpl ht
theorem pe_methC0 {pl : Sem Bool} (he : PE X o ta) (c : Cls X.K C) (F : OkM X.prog X.w X.K X.mg X.base k C m ps sp) (hr : Room k X.A) (hm : Meth X.K C m (He.ma X.K C m))
    (ht : eval (.Call (.Attribute o m apos) [] [] pos) X.env = (do
      let ov ← eval o X.env
      standAt apos.atName
      let (f, first) ← holding [ov] (getMethod ov m pl)
      callWith pos f first (backTo pos (starEach [] X.env)) (backToKw pos (keywordEach [] X.env))) := by rfl) :
    PE X (.Call (.Attribute o m apos) [] [] pos) (tMethS C m sp (fun _ => E0) ta tNil) := pe_methE0 he c F hr hm pass0S ht
theorem run_makeS {pins : List (Addr × Obj)} {σ : St} {H : Hp} {s : Shared} {Q : VK} {us : List Value} {vs : List V} (M : Mk X.K C f) (F : FnOk X.prog X.w X.K X.mg X.base CX k f fd ps sp) (hr : Room (k + 1) X.A) (hb : Binds X.K fd ps [])
    (hx : PassesAt CX X σ (E σ)) (I : Inv X pins σ H s) (r : Vals vs us)
    (h : ∀ x dx, H x = none → H dx = none → dx ≠ x → sp (.ref x :: vs) (upd (upd H dx (.own x)) x (.ins C dx [])) (fun v H2 => v = .non ∧ Q (.ref x) H2) (E σ)) :
    wpAny (model X.prog X.w) X.A (call (.ref C) us) (EP X pins σ Q) X.xe s := by
  have hq := h (s.heap.objs.size + 1) s.heap.objs.size (I.hok.fresh (Nat.le_succ _)) (I.hok.fresh (Nat.le_refl _)) (Nat.ne_of_lt (Nat.lt_succ_self _))
  have I2 := Inv.made (C := C) I
  have r2 : Vals (V.ref (s.heap.objs.size + 1) :: vs) (Value.ref (s.heap.objs.size + 1) :: us) := .cons rfl r
  have hl : (Value.ref (s.heap.objs.size + 1) :: us).length = ps.length := by
    have e := r2.length
    rw [F.len _ _ _ _ hq] at e
    exact e.symm
  have hb2 := hb (s := _) (us := Value.ref (s.heap.objs.size + 1) :: us) I2.kIn (by rw [List.append_nil]; exact hl)
  rw [List.append_nil] at hb2
  refine wpAny_call (make_map (f := f) I.kIn M.makes M.init (beq_iff_eq.mp M.fn) (codeAny_mono (F.run _ X.stack _ _ ⟨Value.ref (s.heap.objs.size + 1) :: us, []⟩ (Value.ref (s.heap.objs.size + 1) :: us) _ _ (E σ) (hr.make C us [])
    (I2.env0.make C us []) hb2 r2 hq) fun r s' hq' => ?_))
  cases r with
  | error e => exact hx pins _ _ e s' I2 hq'
  | ok fl =>
    cases fl with
    | ret u =>
      obtain ⟨v, H', I3, rv, ev, q3⟩ := I2.after hq'
      subst ev
      exact ⟨rv, ⟨V.ref (s.heap.objs.size + 1), H', I3, rfl, q3⟩⟩
    | next => exact False.elim hq'
    | brk => exact False.elim hq'
    | cont => exact False.elim hq'
theorem pe_makeE (F : OkM X.prog X.w X.K X.mg X.base k C "__init__" ps sp) (hr : Room (k + 1) X.A) (hg : Gl X x) (M : Mk X.K C (He.ma X.K C "__init__")) (hm : X.mg x = some (.ref C)) (hx : ∀ σ, PassesAt (L2.CX X.prog X.w) X σ (E σ))
    (ha : PA X (e :: es) t) (hdb : (x == ("__debug__" : Str)) = false := by decide) (he : starEach (e :: es) X.env = (false, eval e X.env) :: starEach es X.env := by rfl) (hpl : (backTo pos (starEach es X.env)).any (·.1) = false := by rfl) :
    PE X (.Call (.Name x p) (e :: es) [] pos) (tMakeS C sp E t) := by
  obtain ⟨fd, F, hb⟩ := F
  refine ⟨fun pins s σ H Q I h => ?_⟩
  refine wpAny_Call_Name_kw (ld_glob I hg hm ?_ hdb)
  refine PySem.W.callWith_K (h₀ := X.base) I.ok.mod.kin M.kp (thn (ha.run pos pins s σ H _ I h) fun us s1 ⟨vs, H1, I1, r, q⟩ => ⟨I1.kIn, ?_⟩) he hpl
  exact run_makeS M F hr hb (hx σ) I1 r q
theorem pe_makeD (F : OkM X.prog X.w X.K X.mg X.base k C "__init__" ps sp) (hr : Room (k + 1) X.A) (hg : Gl X x) (M : Mk X.K C (He.ma X.K C "__init__")) (hm : X.mg x = some (.ref C)) (tk : Takes X W)
    (ha : PA X (e :: es) t) (hdb : (x == ("__debug__" : Str)) = false := by decide) (he : starEach (e :: es) X.env = (false, eval e X.env) :: starEach es X.env := by rfl) (hpl : (backTo pos (starEach es X.env)).any (·.1) = false := by rfl) :
    PE X (.Call (.Name x p) (e :: es) [] pos) (tMakeS C sp (WE W) t) := pe_makeE F hr hg M hm (fun σ => passAt tk σ) ha hdb he hpl
theorem pe_makeC (F : OkM X.prog X.w X.K X.mg X.base k C "__init__" ps sp) (hr : Room (k + 1) X.A) (hg : Gl X x) (M : Mk X.K C (He.ma X.K C "__init__")) (hm : X.mg x = some (.ref C))
    (ha : PA X (e :: es) t) (hdb : (x == ("__debug__" : Str)) = false := by decide) (he : starEach (e :: es) X.env = (false, eval e X.env) :: starEach es X.env := by rfl) (hpl : (backTo pos (starEach es X.env)).any (·.1) = false := by rfl) :
    PE X (.Call (.Name x p) (e :: es) [] pos) (tMakeS C sp (fun _ => E0) t) := pe_makeE F hr hg M hm pass0S ha hdb he hpl
end
end S

/-! Mirrors: a program's defs as functions over data. D: data (never changes); O: a value of which one holder knows (a list that grows); Ob: an object of the world; PSt: slots and world. -/
namespace M
abbrev Tx := List Nat
abbrev LINE : Nat := 16777216

inductive D where
  | non | bl (b : Bool) | int (i : Int) | str (s : Tx)
  | tup (ds : List D) | lst (ds : List D) | dct (ks vs : List D)
  | obj (n : Nat) | ty (x : String) | fn (x : String) | exc (x : String) (ds : List D)
  | scr (ds : List D)
  deriving Inhabited
inductive O where
  | fz (d : D) | lst (os : List O) | dct (ks : List D) (vs : List O) | tup (os : List O)
  deriving Inhabited
inductive Ob where
  | lst (os : List O) | dct (ks : List D) (vs : List O) | ins (C : String) (fs : List (String × O))
abbrev W := List Ob
structure PSt where
  env : List (Option O)
  w : W
structure Exc where
  cls : String
  fs : List (String × D)
inductive Res (α : Type) where
  | ok (a : α) (ρ : PSt) | exc (x : Exc) (ρ : PSt) | bad
inductive Out where
  | nx (ρ : PSt) | rt (o : O) (w : W) | bk (ρ : PSt) | ct (ρ : PSt) | exc (x : Exc) (ρ : PSt) | bad
inductive FRes where
  | ok (o : O) (w : W) | exc (x : Exc) (w : W) | bad

mutual
def frz : O → D
  | .fz d => d
  | .lst os => .lst (frzs os)
  | .dct ks vs => .dct ks (frzs vs)
  | .tup os => .tup (frzs os)
def frzs : List O → List D
  | [] => []
  | o :: r => frz o :: frzs r
end
@[simp] theorem frzs_fz (ds : List D) : frzs (ds.map .fz) = ds := by
  induction ds with
  | nil => rfl
  | cons d r ih => simp [frzs, frz, ih]
theorem frzs_eq (os : List O) : frzs os = os.map frz := by
  induction os with
  | nil => rfl
  | cons d r ih => simp [frzs, ih]

/-! ### equality -/
mutual
/-- data that == compares, at most so deep -/
def dep : D → Nat
  | .tup ds => deps ds + 1
  | .lst ds => deps ds + 1
  | _ => 0
def deps : List D → Nat
  | [] => 0
  | d :: r => max (dep d) (deps r)
end
mutual
def dat : D → Bool
  | .non => true | .bl _ => true | .int _ => true | .str _ => true
  | .tup ds => dats ds
  | .lst ds => dats ds
  | _ => false
def dats : List D → Bool
  | [] => true
  | d :: r => dat d && dats r
end
mutual
def eqb : D → D → Bool
  | .non, .non => true
  | .bl a, .bl b => a == b
  | .bl a, .int j => (if a then 1 else 0) == j
  | .int i, .bl b => i == (if b then 1 else 0)
  | .int i, .int j => i == j
  | .str x, .str y => x == y
  | .lst xs, .lst ys => eqbs xs ys
  | .tup xs, .tup ys => eqbs xs ys
  | _, _ => false
def eqbs : List D → List D → Bool
  | [], [] => true
  | x :: xs, y :: ys => eqb x y && eqbs xs ys
  | _, _ => false
end
def eqv (d e : D) : Option Bool := if dat d = true ∧ dat e = true ∧ dep d ≤ 64 ∧ dep e ≤ 64 then some (eqb d e) else none

/-! ### operations on values -/
def ob (o : Option Bool) : Option D := o.map .bl
def pEq (x y : D) : Option D := ob (eqv x y)
def pNe (x y : D) : Option D := ob ((eqv x y).map (!·))
def isNon : D → Bool
  | .non => true
  | _ => false
def pIs : D → D → Option D
  | x, .non => some (.bl (isNon x))
  | .bl a, .bl b => some (.bl (a == b))
  | _, _ => none
def pIsNot (x y : D) : Option D := match pIs x y with | some (.bl b) => some (.bl (!b)) | _ => none
def pLt : D → D → Option D
  | .int i, .int j => some (.bl (decide (i < j)))
  | .str a, .str b => some (.bl (decide (a < b)))
  | _, _ => none
def pLe : D → D → Option D
  | .int i, .int j => some (.bl (decide (i ≤ j)))
  | .str a, .str b => some (.bl (!decide (b < a)))
  | _, _ => none
def pGt : D → D → Option D
  | .int i, .int j => some (.bl (decide (j < i)))
  | .str a, .str b => some (.bl (decide (b < a)))
  | _, _ => none
def pGe : D → D → Option D
  | .int i, .int j => some (.bl (decide (j ≤ i)))
  | .str a, .str b => some (.bl (!decide (a < b)))
  | _, _ => none
def pAdd : D → D → Option D
  | .int i, .int j => some (.int (i + j))
  | .str a, .str b => if a.length + b.length ≤ LINE then some (.str (a ++ b)) else none
  | .lst a, .lst b => if a.length + b.length ≤ LINE then some (.lst (a ++ b)) else none
  | .tup a, .tup b => if a.length + b.length ≤ LINE then some (.tup (a ++ b)) else none
  | _, _ => none
/-- x += y, rgI -/
def pAddI : D → D → Option D
  | .int i, .int j => some (.int (i + j))
  | _, _ => none
def pSub : D → D → Option D
  | .int i, .int j => some (.int (i - j))
  | _, _ => none
def small64 (i : Int) : Bool := decide (-(2 ^ 64) < i) && decide (i < 2 ^ 64)
def pMul : D → D → Option D
  | .int i, .int j => if (small64 i = true ∨ small64 j = true) ∨ ((-2582249878086908589655919172003011874329705792829223512830659356540647622016841194629645353280137831435903171972747493376 < i ∧ i < 2582249878086908589655919172003011874329705792829223512830659356540647622016841194629645353280137831435903171972747493376) ∧ (-2582249878086908589655919172003011874329705792829223512830659356540647622016841194629645353280137831435903171972747493376 < j ∧ j < 2582249878086908589655919172003011874329705792829223512830659356540647622016841194629645353280137831435903171972747493376)) then some (.int (i * j)) else none
  | .str a, .int j => if j < 2 ^ 62 ∧ -(2 ^ 62) ≤ j ∧ a.length * j.toNat ≤ LINE then some (.str (List.replicate j.toNat a).flatten) else none
  | .lst a, .int j => if j < 2 ^ 62 ∧ -(2 ^ 62) ≤ j ∧ a.length * j.toNat ≤ LINE then some (.lst (List.replicate j.toNat a).flatten) else none
  | _, _ => none
def pFdiv : D → D → Option D
  | .int i, .int j => if 0 < j ∧ j < 1606938044258990275541962092341162602522202993782792835301376 then some (.int (i / j)) else none
  | _, _ => none
def pMod : D → D → Option D
  | .int i, .int j => if 0 < j then some (.int (i % j)) else none
  | _, _ => none
def pPow : D → D → Option D
  | .int i, .int j => if 0 ≤ j ∧ j ≤ 1000 ∧ small64 i = true then some (.int (i ^ j.toNat)) else none
  | _, _ => none
def pNeg : D → Option D
  | .int i => some (.int (-i))
  | _ => none
def chD (c : Nat) : D := .str [c]
/-- an index, any sign -/
def ixn (n : Nat) (i : Int) : Option Nat := if 0 ≤ i then (if i < n then some i.toNat else none) else (if -(n : Int) ≤ i then some (i + n).toNat else none)
def ati {α : Type} (xs : List α) (i : Int) : Option α := (ixn xs.length i).bind fun j => xs[j]?
/-- a bound of a slice -/
def six (n : Nat) (d : Nat) : Option Int → Nat
  | none => d
  | some i => if i < 0 then (i + (n : Int)).toNat else min i.toNat n
def cut {α : Type} (xs : List α) (lo hi : Option Int) : List α := (xs.drop (six xs.length 0 lo)).take (six xs.length xs.length hi - six xs.length 0 lo)
def seqOf : D → Option (List D)
  | .lst xs => some xs
  | .tup xs => some xs
  | .str s => some (s.map chD)
  | _ => none
def sca : D → Bool
  | .non => true | .bl _ => true | .int _ => true | .str _ => true
  | _ => false
def pIn : D → D → Option D
  | .str [c], .str s => some (.bl (decide (c ∈ s)))
  | x, .lst ds => if sca x = true ∧ ds.all sca = true then some (.bl (ds.any fun d => eqb d x)) else none
  | x, .tup ds => if sca x = true ∧ ds.all sca = true then some (.bl (ds.any fun d => eqb d x)) else none
  | _, _ => none
def pNotIn (x y : D) : Option D := match pIn x y with | some (.bl b) => some (.bl (!b)) | _ => none
def pLen : D → Option D
  | .str s => some (.int s.length)
  | .lst ds => some (.int ds.length)
  | .tup ds => some (.int ds.length)
  | .dct ks _ => some (.int ks.length)
  | _ => none
def pIx : D → D → Option D
  | .str s, .int i => (ati s i).map chD
  | .lst ds, .int i => ati ds i
  | .tup ds, .int i => ati ds i
  | _, _ => none
def pSl (d : D) (lo hi : Option Int) : Option D := match d with
  | .str s => some (.str (cut s lo hi))
  | .lst s => some (.lst (cut s lo hi))
  | .tup s => some (.tup (cut s lo hi))
  | .scr s => some (.lst (cut s lo hi))
  | _ => none
def pRev : D → Option D
  | .str s => some (.str s.reverse)
  | .lst s => some (.lst s.reverse)
  | .tup s => some (.tup s.reverse)
  | _ => none
def txsOf : List D → Option (List Tx)
  | [] => some []
  | .str s :: r => (txsOf r).map (s :: ·)
  | _ :: _ => none
def joinT (sep : Tx) : List Tx → Tx
  | [] => []
  | [x] => x
  | x :: y :: r => x ++ (sep ++ joinT sep (y :: r))
/-- methods of texts -/
def mJoin (a : Tx) : List D → Option D
  | [.lst ds] => (txsOf ds).bind fun ys => if (ys.map List.length).sum + ys.length * a.length ≤ LINE then some (.str (joinT a ys)) else none
  | [.tup ds] => (txsOf ds).bind fun ys => if (ys.map List.length).sum + ys.length * a.length ≤ LINE then some (.str (joinT a ys)) else none
  | _ => none
def intsOf : List D → Option (List Int)
  | [] => some []
  | .int b :: r => (intsOf r).map (b :: ·)
  | _ :: _ => none
def pSum : D → Option D
  | .lst ds => (intsOf ds).map fun ns => .int ns.sum
  | _ => none
def sortN (l : List Nat) : List Nat := l.mergeSort fun a b => decide (a ≤ b)
def sortI (l : List Int) : List Int := l.mergeSort fun a b => decide (a ≤ b)
/-- sorted of a text, of a list of whole numbers -/
def pSorted : D → Option D
  | .str s => if s.length < 64 then some (.lst ((sortN s).map chD)) else none
  | .lst ds => (intsOf ds).map fun ns => .lst ((sortI ns).map .int)
  | _ => none
def isAt (a b : Tx) (i : Nat) : Bool := decide (i + b.length ≤ a.length) && decide ((a.drop i).take b.length = b)
/-- the first place of b in a -/
def fstT (a b : Tx) : Option Nat := (List.range (a.length + 1)).find? (isAt a b)
def fnd (o : Option Nat) : Int := match o with | some i => (i : Int) | none => -1
def mFind (a : Tx) : List D → Option D
  | [.str b] => some (.int (fnd (fstT a b)))
  | _ => none
def mIndex (a : Tx) : List D → Option D
  | [.str b] => (fstT a b).map fun (i : Nat) => D.int (Int.ofNat i)
  | _ => none
/-- a in b, texts -/
def pInT : D → D → Option D
  | .str a, .str s => some (.bl (fstT s a).isSome)
  | _, _ => none
def mCount (a : Tx) : List D → Option D
  | [.str [c]] => some (.int ((a.count c : Nat) : Int))
  | _ => none
def fstF (a : Tx) (c i : Nat) : Option Nat := (List.range a.length).find? fun k => decide (i ≤ k) && decide (a[k]? = some c)
/-- a.find(c, i), one sign -/
def mFind2 (a : Tx) : List D → Option D
  | [.str [c], .int i] => if 0 ≤ i then some (.int (fnd (fstF a c i.toNat))) else none
  | _ => none
/-- the last place of b in a -/
def lstT (a b : Tx) : Option Nat := ((List.range (a.length + 1)).find? fun k => isAt a b (a.length - k)).map fun k => a.length - k
def mRfind (a : Tx) : List D → Option D
  | [.str b] => some (.int (fnd (lstT a b)))
  | _ => none
/-- x in D, D a dict of the module: the answers for the texts that are asked -/
def pInK (t : List (Tx × Bool)) : D → Option D
  | .str a => (t.lookup a).map .bl
  | _ => none
/-- D[x], D a dict of the module with whole numbers -/
def pItK (t : List (Tx × Int)) : D → Option D
  | .str a => (t.lookup a).map .int
  | _ => none
def up1 (c : Nat) : Nat := if 97 ≤ c ∧ c ≤ 122 then c - 32 else c
def pUpper : D → Option D
  | .str s => if s.all (fun c => decide (c < 128)) = true ∧ s.length ≤ 5592405 then some (.str (s.map up1)) else none
  | _ => none
def bools : List D → Option (List Bool)
  | [] => some []
  | .bl b :: r => (bools r).map (b :: ·)
  | _ :: _ => none
def pAll : D → Option D
  | .lst ds => (bools ds).map fun bs => .bl (bs.all id)
  | _ => none
def pAny : D → Option D
  | .lst ds => (bools ds).map fun bs => .bl (bs.any id)
  | _ => none
def pList : D → Option D
  | .lst ds => some (.lst ds)
  | .tup ds => some (.lst ds)
  | .str s => some (.lst (s.map chD))
  | _ => none
def pListB : D → Option D
  | .str _ => none
  | d => pList d
def pTuple : D → Option D
  | .lst ds => some (.tup ds)
  | .tup ds => some (.tup ds)
  | _ => none
def pInt : D → Option D
  | .int i => some (.int i)
  | .bl b => some (.int (if b then 1 else 0))
  | _ => none
def pAbs : D → Option D
  | .int i => some (.int (if i < 0 then -i else i))
  | _ => none
def pMax2 : D → D → Option D
  | .int i, .int j => some (.int (if j > i then j else i))
  | _, _ => none
def pMin2 : D → D → Option D
  | .int i, .int j => some (.int (if j < i then j else i))
  | _, _ => none
def maxI : List Int → Int
  | [] => 0
  | [x] => x
  | x :: r => max x (maxI r)
def minI : List Int → Int
  | [] => 0
  | [x] => x
  | x :: r => min x (minI r)
/-- max, min of a list -/
def pMaxL : D → Option D
  | .lst ds => (intsOf ds).bind fun ns => if ns = [] then none else some (.int (maxI ns))
  | _ => none
def pMinL : D → Option D
  | .lst ds => (intsOf ds).bind fun ns => if ns = [] then none else some (.int (minI ns))
  | _ => none
/-- the type's name -/
def tyn : D → Option String
  | .non => some "NoneType" | .bl _ => some "bool" | .int _ => some "int" | .str _ => some "str"
  | .tup _ => some "tuple" | .lst _ => some "list" | .dct _ _ => some "dict"
  | _ => none
def pIsi : D → D → Option D
  | d, .ty t => (tyn d).map fun n => .bl (n == t || (n == "bool" && t == "int"))
  | _, _ => none
/-- isinstance(d, t) -/
def pIsT (t : String) (d : D) : Option D := (tyn d).map fun n => .bl (n == t || (n == "bool" && t == "int"))

/-! ### expressions -/
abbrev ME := PSt → Res D
abbrev MO := PSt → Res O
abbrev MA := PSt → Res (List D)
abbrev MT := PSt → Res Bool
abbrev MS := PSt → Out
abbrev MF := List D → W → FRes
abbrev MG := D → PSt → Option PSt
abbrev MI := PSt → Res (List D)

@[simp] def Res.bind {α β : Type} (r : Res α) (f : α → PSt → Res β) : Res β := match r with
  | .ok a ρ => f a ρ
  | .exc x ρ => .exc x ρ
  | .bad => .bad
@[simp] def Res.out {α : Type} (r : Res α) (f : α → PSt → Out) : Out := match r with
  | .ok a ρ => f a ρ
  | .exc x ρ => .exc x ρ
  | .bad => .bad
@[simp] def ofO {α : Type} (o : Option α) (ρ : PSt) : Res α := match o with
  | some a => .ok a ρ
  | none => .bad

@[simp] def eC (d : D) : ME := fun ρ => .ok d ρ
@[simp] def eV (i : Nat) : ME := fun ρ => match ρ.env[i]? with
  | some (some (.fz d)) => .ok d ρ
  | some (some o) => .ok (frz o) ⟨ρ.env.set i (some (.fz (frz o))), ρ.w⟩
  | _ => .bad
@[simp] def eOp (f : D → D → Option D) (a b : ME) : ME := fun ρ => (a ρ).bind fun x ρ1 => (b ρ1).bind fun y ρ2 => ofO (f x y) ρ2
@[simp] def eUn (f : D → Option D) (a : ME) : ME := fun ρ => (a ρ).bind fun x ρ1 => ofO (f x) ρ1
@[simp] def asB (d : D) (ρ : PSt) : Res Bool := match d with
  | .bl b => .ok b ρ
  | _ => .bad
@[simp] def eAnd (a b : ME) : ME := fun ρ => (a ρ).bind fun x ρ1 => (asB x ρ1).bind fun k ρ1 => if k = true then b ρ1 else .ok (.bl false) ρ1
@[simp] def eOr (a b : ME) : ME := fun ρ => (a ρ).bind fun x ρ1 => (asB x ρ1).bind fun k ρ1 => if k = true then .ok (.bl true) ρ1 else b ρ1
@[simp] def eNot (a : ME) : ME := fun ρ => (a ρ).bind fun x ρ1 => (asB x ρ1).bind fun k ρ1 => .ok (.bl (!k)) ρ1
@[simp] def eIf (t : MT) (a b : ME) : ME := fun ρ => (t ρ).bind fun k ρ1 => if k = true then a ρ1 else b ρ1
/-- a op1 b op2 c -/
@[simp] def eChain (f g : D → D → Option D) (a b c : ME) : ME := fun ρ => (a ρ).bind fun x ρ1 => (b ρ1).bind fun y ρ2 => (ofO (f x y) ρ2).bind fun r ρ2 => (asB r ρ2).bind fun k ρ2 =>
  if k = true then (c ρ2).bind fun z ρ3 => ofO (g y z) ρ3 else .ok (.bl false) ρ2
@[simp] def aNil : MA := fun ρ => .ok [] ρ
@[simp] def aCons (a : ME) (r : MA) : MA := fun ρ => (a ρ).bind fun x ρ1 => (r ρ1).bind fun xs ρ2 => .ok (x :: xs) ρ2
@[simp] def eTup (as : MA) : ME := fun ρ => (as ρ).bind fun xs ρ1 => if xs.length ≤ LINE then .ok (.tup xs) ρ1 else .bad
@[simp] def eLst (as : MA) : ME := fun ρ => (as ρ).bind fun xs ρ1 => if xs.length ≤ LINE then .ok (.lst xs) ρ1 else .bad
/-- a method of a text -/
@[simp] def eMt (f : Tx → List D → Option D) (a : ME) (as : MA) : ME := fun ρ => (a ρ).bind fun x ρ1 => match x with
  | .str s => (as ρ1).bind fun ds ρ2 => ofO (f s ds) ρ2
  | _ => .bad
/-- a method of a list that is not changed -/
@[simp] def eMtL (f : List D → List D → Option D) (a : ME) (as : MA) : ME := fun ρ => (a ρ).bind fun x ρ1 => match x with
  | .lst ds => (as ρ1).bind fun es ρ2 => ofO (f ds es) ρ2
  | _ => .bad
def mIndexL (ds : List D) : List D → Option D
  | [.int v] => (intsOf ds).bind fun ns => if v ∈ ns then some (.int ((ns.idxOf v : Nat) : Int)) else none
  | _ => none
/-- a bound of a slice -/
abbrev MP := PSt → Res (Option Int)
@[simp] def pNo : MP := fun ρ => .ok none ρ
@[simp] def pSo (a : ME) : MP := fun ρ => (a ρ).bind fun x ρ1 => match x with | .int i => .ok (some i) ρ1 | _ => .bad
@[simp] def eSl (a : ME) (lo hi : MP) : ME := fun ρ => (a ρ).bind fun x ρ1 => (lo ρ1).bind fun l ρ2 => (hi ρ2).bind fun h ρ3 => ofO (pSl x l h) ρ3
@[simp] def fin (r : FRes) (ρ : PSt) : Res O := match r with
  | .ok o w => .ok o ⟨ρ.env, w⟩
  | .exc x w => .exc x ⟨ρ.env, w⟩
  | .bad => .bad
@[simp] def oCall (f : MF) (as : MA) : MO := fun ρ => (as ρ).bind fun xs ρ1 => fin (f xs ρ1.w) ρ1
@[simp] def eO (a : MO) : ME := fun ρ => (a ρ).bind fun o ρ1 => .ok (frz o) ρ1
@[simp] def eCall (f : MF) (as : MA) : ME := eO (oCall f as)
@[simp] def oE (a : ME) : MO := fun ρ => (a ρ).bind fun d ρ1 => .ok (.fz d) ρ1
/-- a name's value, its holder gives it away -/
@[simp] def oV (i : Nat) : MO := fun ρ => match ρ.env[i]? with
  | some (some (.fz d)) => .ok (.fz d) ρ
  | some (some o) => .ok o ⟨ρ.env.set i none, ρ.w⟩
  | _ => .bad
abbrev MOA := PSt → Res (List O)
@[simp] def oaNil : MOA := fun ρ => .ok [] ρ
@[simp] def oaCons (a : MO) (r : MOA) : MOA := fun ρ => (a ρ).bind fun x ρ1 => (r ρ1).bind fun xs ρ2 => .ok (x :: xs) ρ2
@[simp] def oLst (as : MOA) : MO := fun ρ => (as ρ).bind fun xs ρ1 => if xs.length ≤ LINE then .ok (.lst xs) ρ1 else .bad
@[simp] def oTup (as : MOA) : MO := fun ρ => (as ρ).bind fun xs ρ1 => if xs.length ≤ LINE then .ok (.tup xs) ρ1 else .bad
/-- a new list of which no other holder knows -/
@[simp] def oNew (a : ME) : MO := fun ρ => (a ρ).bind fun d ρ1 => match d with | .lst ds => .ok (.lst (ds.map .fz)) ρ1 | _ => .bad
/-- {k: e} -/
@[simp] def eDct1 (k : D) (a : ME) : ME := fun ρ => (a ρ).bind fun d ρ1 => .ok (.dct [k] [d]) ρ1
@[simp] def eDct0 : ME := fun ρ => .ok (.dct [] []) ρ
/-- {} of which no other holder knows -/
@[simp] def oDct0 : MO := fun ρ => .ok (.dct [] []) ρ
/-- list(range(a)) -/
def RgB (a b : Int) : Bool := decide (-(2 ^ 62) ≤ a) && decide (a < 2 ^ 62) && decide (-(2 ^ 62) ≤ b) && decide (b < 2 ^ 62) && decide ((b - a).toNat ≤ 16777216)
def intsAB (a b : Int) : List D := (List.range (b - a).toNat).map fun i => .int (a + (i : Nat))
@[simp] def pListRg1 : D → Option D
  | .int b => if RgB 0 b = true then some (.lst (intsAB 0 b)) else none
  | _ => none
@[simp] def pListRg2 : D → D → Option D
  | .int a, .int b => if RgB a b = true then some (.lst (intsAB a b)) else none
  | _, _ => none
@[simp] def pTupRg1 : D → Option D
  | .int b => if RgB 0 b = true then some (.tup (intsAB 0 b)) else none
  | _ => none
/-- x.pop(e), x the list in slot i -/
@[simp] def ePopAt (i : Nat) (a : ME) : ME := fun ρ => match ρ.env[i]? with
  | some (some (.lst _)) => (a ρ).bind fun d ρ1 => match ρ1.env[i]?, d with
    | some (some (.lst os)), .int z => (match (if os.length ≤ LINE then ixn os.length z else none) with
      | some j => (match os[j]? with
        | some (.fz y) => .ok y ⟨ρ1.env.set i (some (.lst (os.eraseIdx j))), ρ1.w⟩
        | _ => .bad)
      | none => .bad)
    | _, _ => .bad
  | _ => .bad
/-! what a slot holds, looked at -/
@[simp] def items : O → Option (List O)
  | .fz (.lst ds) => some (ds.map .fz)
  | .fz (.tup ds) => some (ds.map .fz)
  | .fz (.str s) => some (s.map fun c => .fz (chD c))
  | .lst os => some os
  | .tup os => some os
  | _ => none
/-- x[i] at the name in slot i -/
@[simp] def ixO : O → D → Option D
  | .fz d, k => pIx d k
  | .lst os, .int i => match ati os i with | some (.fz d) => some d | _ => none
  | .tup os, .int i => match ati os i with | some (.fz d) => some d | _ => none
  | _, _ => none
@[simp] def eIxV (i : Nat) (b : ME) : ME := fun ρ => match ρ.env[i]? with
  | some (some _) => (b ρ).bind fun k ρ1 => match ρ1.env[i]? with
    | some (some o) => ofO (ixO o k) ρ1
    | _ => .bad
  | _ => .bad
@[simp] def datO : O → D
  | .fz d => d
  | .lst os => .lst (os.map frz)
  | .tup os => .tup (os.map frz)
  | .dct ks _ => .dct ks []
/-- x in the name in slot i -/
@[simp] def inO (x : D) : O → Option D
  | .fz d => pIn x d
  | .lst os => if os.all (fun o => match o with | .fz _ => true | _ => false) = true then pIn x (.lst (os.map frz)) else none
  | _ => none
@[simp] def eInV (i : Nat) (a : ME) : ME := fun ρ => (a ρ).bind fun x ρ1 => match ρ1.env[i]? with
  | some (some o) => ofO (inO x o) ρ1
  | _ => .bad
@[simp] def notO : Option D → Option D
  | some (.bl b) => some (.bl (!b))
  | _ => none
@[simp] def eNotInV (i : Nat) (a : ME) : ME := fun ρ => (a ρ).bind fun x ρ1 => match ρ1.env[i]? with
  | some (some o) => ofO (notO (inO x o)) ρ1
  | _ => .bad
@[simp] def lenO : O → Option D
  | .fz d => pLen d
  | .lst os => some (.int os.length)
  | .tup os => some (.int os.length)
  | .dct ks _ => some (.int ks.length)
@[simp] def eLenV (i : Nat) : ME := fun ρ => match ρ.env[i]? with
  | some (some o) => ofO (lenO o) ρ
  | _ => .bad

/-! ### objects of the world -/
/-- x[i], x an object of the world or data -/
@[simp] def ixW (w : W) : D → D → Option D
  | .obj n, k => match w[n]? with | some (.lst os) => ixO (.lst os) k | _ => none
  | d, k => pIx d k
@[simp] def eIxW (a b : ME) : ME := fun ρ => (a ρ).bind fun x ρ1 => (b ρ1).bind fun y ρ2 => ofO (ixW ρ2.w x y) ρ2
/-- a list display, a new object of the world -/
@[simp] def oObj (as : MA) : MO := fun ρ => (as ρ).bind fun xs ρ1 => if xs.length ≤ LINE then .ok (.fz (.obj ρ1.w.length)) ⟨ρ1.env, ρ1.w ++ [.lst (xs.map .fz)]⟩ else .bad

/-! ### tests -/
@[simp] def tE (a : ME) : MT := fun ρ => (a ρ).bind asB
@[simp] def tNot (a : MT) : MT := fun ρ => (a ρ).bind fun k ρ1 => .ok (!k) ρ1
@[simp] def tAnd (a b : MT) : MT := fun ρ => (a ρ).bind fun k ρ1 => if k = true then b ρ1 else .ok false ρ1
@[simp] def tOr (a b : MT) : MT := fun ρ => (a ρ).bind fun k ρ1 => if k = true then .ok true ρ1 else b ρ1

/-! ### what is walked -/
@[simp] def iSeq (a : ME) : MI := fun ρ => (a ρ).bind fun d ρ1 => ofO (seqOf d) ρ1
def rgI (lo : Int) (n : Nat) : List D := (List.range n).map fun i => .int (lo + (i : Nat))
def bd62 (i : Int) : Bool := decide (-(2 ^ 62) ≤ i) && decide (i < 2 ^ 62)
@[simp] def pRange1 : D → Option (List D)
  | .int j => if bd62 j = true then some (rgI 0 j.toNat) else none
  | _ => none
@[simp] def pRange2 : D → D → Option (List D)
  | .int i, .int j => if bd62 i = true ∧ bd62 j = true then some (rgI i (j - i).toNat) else none
  | _, _ => none
@[simp] def iRange1 (a : ME) : MI := fun ρ => (a ρ).bind fun x ρ1 => ofO (pRange1 x) ρ1
@[simp] def iRange2 (a b : ME) : MI := fun ρ => (a ρ).bind fun x ρ1 => (b ρ1).bind fun y ρ2 => ofO (pRange2 x y) ρ2
def zipD : List D → List D → List D
  | x :: xs, y :: ys => .tup [x, y] :: zipD xs ys
  | _, _ => []
def enumD (k : Nat) : List D → List D
  | [] => []
  | x :: xs => .tup [.int k, x] :: enumD (k + 1) xs
@[simp] def pZip (x y : D) : Option (List D) := match seqOf x, seqOf y with
  | some a, some b => some (zipD a b)
  | _, _ => none
/-- zip of two texts, two lists, two tuples -/
def zipB (x y : D) : Option (List D) := match x, y with
  | .str _, .str _ => pZip x y
  | .lst _, .lst _ => pZip x y
  | .tup _, .tup _ => pZip x y
  | _, _ => none
/-- enumerate of a text, a list -/
def enB : D → Option (List D)
  | .str s => some (enumD 0 (s.map chD))
  | .lst ds => some (enumD 0 ds)
  | _ => none
/-- reversed of a list, a tuple -/
def revB : D → Option (List D)
  | .lst ds => some ds.reverse
  | .tup ds => some ds.reverse
  | _ => none
@[simp] def iZip (a b : ME) : MI := fun ρ => (a ρ).bind fun x ρ1 => (b ρ1).bind fun y ρ2 => ofO (zipB x y) ρ2
@[simp] def iEnum (a : ME) : MI := fun ρ => (a ρ).bind fun x ρ1 => ofO (enB x) ρ1
@[simp] def iRev (a : ME) : MI := fun ρ => (a ρ).bind fun x ρ1 => ofO (revB x) ρ1
@[simp] def iRevRange1 (a : ME) : MI := fun ρ => (a ρ).bind fun x ρ1 => ofO ((pRange1 x).map List.reverse) ρ1

/-! ### targets -/
@[simp] def gN (i : Nat) : MG := fun d ρ => if i < ρ.env.length then some ⟨ρ.env.set i (some (.fz d)), ρ.w⟩ else none
@[simp] def gNs : List Nat → List D → PSt → Option PSt
  | [], [], ρ => some ρ
  | i :: is, d :: ds, ρ => (gN i d ρ).bind (gNs is ds)
  | _, _, _ => none
@[simp] def gT (is : List Nat) : MG := fun d ρ => match d with
  | .tup ds => gNs is ds ρ
  | _ => none

/-! ### comprehensions -/
/-- no exception leaves -/
@[simp] def noX {α : Type} : Res α → Res α
  | .exc _ _ => .bad
  | r => r
def wipeE : List Nat → List (Option O) → List (Option O)
  | [], env => env
  | i :: is, env => (wipeE is env).set i none
/-- the slots of own as they were, where they held data -/
def back (env : List (Option O)) : List Nat → List (Option O) → List (Option O)
  | [], env' => env'
  | i :: is, env' => (back env is env').set i (match env[i]? with | some (some (.fz d)) => some (.fz d) | _ => none)
def lcL (own : List Nat) (g : MG) (t : MT) (e : ME) : List D → List D → PSt → Res (List D)
  | [], acc, ρ => .ok acc ρ
  | x :: xs, acc, ρ => match g x ⟨wipeE own ρ.env, ρ.w⟩ with
    | none => .bad
    | some ρ1 => (noX (t ρ1)).bind fun k ρ2 => if k = true then (noX (e ρ2)).bind fun y ρ3 => if acc.length < LINE then lcL own g t e xs (acc ++ [y]) ρ3 else .bad else lcL own g t e xs acc ρ2
@[simp] def eLc (own : List Nat) (it : MI) (g : MG) (t : MT) (e : ME) : ME := fun ρ => (it ρ).bind fun xs ρ1 =>
  (lcL own g t e xs [] ρ1).bind fun ys ρ2 => .ok (.lst ys) ⟨back ρ1.env own (wipeE own ρ2.env), ρ2.w⟩
@[simp] def oLc (own : List Nat) (it : MI) (g : MG) (t : MT) (e : ME) : MO := fun ρ => (it ρ).bind fun xs ρ1 =>
  (lcL own g t e xs [] ρ1).bind fun ys ρ2 => .ok (.lst (ys.map .fz)) ⟨back ρ1.env own (wipeE own ρ2.env), ρ2.w⟩
@[simp] def tT : MT := fun ρ => .ok true ρ

/-! ### statements -/
@[simp] def sPass : MS := fun ρ => .nx ρ
@[simp] def sBreak : MS := fun ρ => .bk ρ
@[simp] def sCont : MS := fun ρ => .ct ρ
@[simp] def sExpr (a : ME) : MS := fun ρ => (a ρ).out fun _ ρ1 => .nx ρ1
@[simp] def sRet (a : MO) : MS := fun ρ => (a ρ).out fun o ρ1 => .rt o ρ1.w
@[simp] def sRetN : MS := fun ρ => .rt (.fz .non) ρ.w
@[simp] def sSeq (a b : MS) : MS := fun ρ => match a ρ with
  | .nx ρ1 => b ρ1
  | r => r
@[simp] def sIf (t : MT) (a b : MS) : MS := fun ρ => (t ρ).out fun k ρ1 => if k = true then a ρ1 else b ρ1
@[simp] def setE (i : Nat) (o : O) (ρ : PSt) : Out := if i < ρ.env.length then .nx ⟨ρ.env.set i (some o), ρ.w⟩ else .bad
@[simp] def sSet (i : Nat) (a : MO) : MS := fun ρ => (a ρ).out fun o ρ1 => setE i o ρ1
@[simp] def sAsg (g : MG) (a : ME) : MS := fun ρ => (a ρ).out fun d ρ1 => match g d ρ1 with | some ρ2 => .nx ρ2 | none => .bad
/-- a, b = x, y -/
@[simp] def sPar (i j : Nat) (a b : ME) : MS := fun ρ => (a ρ).out fun x ρ1 => (b ρ1).out fun y ρ2 => if i < ρ2.env.length ∧ j < ρ2.env.length ∧ i ≠ j then .nx ⟨(ρ2.env.set i (some (.fz x))).set j (some (.fz y)), ρ2.w⟩ else .bad
@[simp] def sAug (f : D → D → Option D) (i : Nat) (a : ME) : MS := fun ρ => match ρ.env[i]? with
  | some (some (.fz d)) => (a ρ).out fun y ρ1 => match f d y with | some z => setE i (.fz z) ρ1 | none => .bad
  | _ => .bad
@[simp] def sRaise (x : String) : MS := fun ρ => .exc ⟨x, []⟩ ρ
@[simp] def sRaiseF (x f : String) (a : ME) : MS := fun ρ => (a ρ).out fun d ρ1 => .exc ⟨x, [(f, d)]⟩ ρ1
/-- x.append(e) at the name in slot i -/
@[simp] def sApp (i : Nat) (a : MO) : MS := fun ρ => match ρ.env[i]? with
  | some (some (.lst _)) => (a ρ).out fun o ρ1 => match ρ1.env[i]? with
    | some (some (.lst os)) => if os.length < LINE then .nx ⟨ρ1.env.set i (some (.lst (os ++ [o]))), ρ1.w⟩ else .bad
    | _ => .bad
  | _ => .bad
/-- x[k] = e at the name in slot i, x a list -/
@[simp] def sStoL (i : Nat) (k a : ME) : MS := fun ρ => (a ρ).out fun d ρ1 => match ρ1.env[i]? with
  | some (some _) => (k ρ1).out fun y ρ2 => match ρ2.env[i]?, y with
    | some (some (.lst os)), .int z => match ixn os.length z with
      | some j => .nx ⟨ρ2.env.set i (some (.lst (os.set j (.fz d)))), ρ2.w⟩
      | none => .bad
    | _, _ => .bad
  | _ => .bad
/-- o[k] = e, o an object of the world -/
@[simp] def stoW (w : W) (x k d : D) : Option W := match x, k with
  | .obj n, .int z => match w[n]? with
    | some (.lst os) => (ixn os.length z).map fun j => w.set n (.lst (os.set j (.fz d)))
    | _ => none
  | _, _ => none
@[simp] def sStoW (o k a : ME) : MS := fun ρ => (a ρ).out fun d ρ1 => (o ρ1).out fun x ρ2 => (k ρ2).out fun y ρ3 => match stoW ρ3.w x y d with
  | some w => .nx ⟨ρ3.env, w⟩
  | none => .bad
def forL (g : MG) (b : MS) : List D → MS
  | [], ρ => .nx ρ
  | d :: ds, ρ => match g d ρ with
    | none => .bad
    | some ρ1 => match b ρ1 with
      | .nx ρ2 => forL g b ds ρ2
      | .ct ρ2 => forL g b ds ρ2
      | .bk ρ2 => .nx ρ2
      | r => r
@[simp] def sFor (it : MI) (g : MG) (b : MS) : MS := fun ρ => (it ρ).out fun ds ρ1 => forL g b ds ρ1
def whileL (t : MT) (b : MS) : Nat → MS
  | 0, _ => .bad
  | n + 1, ρ => (t ρ).out fun k ρ1 => if k = true then (match b ρ1 with
      | .nx ρ2 => whileL t b n ρ2
      | .ct ρ2 => whileL t b n ρ2
      | .bk ρ2 => .nx ρ2
      | r => r) else .nx ρ1
def FUEL : Nat := 2 ^ 40
@[simp] def sWhile (n : Nat) (t : MT) (b : MS) : MS := fun ρ => whileL t b n ρ
/-- what is known of classes: a below b -/
abbrev ET := List (String × String × Bool)
def sub : ET → String → String → Option Bool
  | [], _, _ => none
  | (a, b, r) :: t, x, c => if a = x ∧ b = c then some r else sub t x c
@[simp] def noXS : Out → Out
  | .exc _ _ => .bad
  | r => r
@[simp] def sBad : MS := fun _ => .bad
@[simp] def eBad : ME := fun _ => .bad
/-- try: b except X: h, .. -/
@[simp] def hds (hs : List ((String → Option Bool) × (Exc → MS))) (x : Exc) (ρ : PSt) : Out := match hs with
  | [] => .exc x ρ
  | (g, h) :: r => (match g x.cls with
    | some true => noXS (h x ρ)
    | some false => hds r x ρ
    | none => .bad)
@[simp] def sTry (b : MS) (hs : List ((String → Option Bool) × (Exc → MS))) : MS := fun ρ => match b ρ with
  | .exc x ρ1 => hds hs x ρ1
  | r => r
@[simp] def offS (i : Nat) : Out → Out
  | .nx ρ => .nx ⟨ρ.env.set i none, ρ.w⟩
  | .bk ρ => .bk ⟨ρ.env.set i none, ρ.w⟩
  | .ct ρ => .ct ⟨ρ.env.set i none, ρ.w⟩
  | r => r
/-- try: b except X as n: h, n in slot i -/
@[simp] def sTryAs (i : Nat) (b : MS) (g : String → Option Bool) (h : Exc → MS) : MS := fun ρ => match b ρ with
  | .exc x ρ1 => (match g x.cls with
    | some true => offS i (noXS (h x ⟨ρ1.env.set i none, ρ1.w⟩))
    | some false => .exc x ρ1
    | none => .bad)
  | r => r
/-- isinstance(e, c), e the caught exception -/
@[simp] def eIsX (t : ET) (c : String) (x : Exc) : ME := fun ρ => match sub t x.cls c with
  | some b => .ok (.bl b) ρ
  | none => .bad

/-! ### instances -/
def putO (f : String) (o : O) : List (String × O) → List (String × O)
  | [] => [(f, o)]
  | (g, x) :: r => if g = f then (g, o) :: r else (g, x) :: putO f o r
@[simp] def fldO (cs : List String) (f : String) (w : W) : D → Option D
  | .obj n => (match w[n]? with
    | some (.ins C fs) => if C ∈ cs then (match fs.lookup f with | some (.fz d) => some d | _ => none) else none
    | _ => none)
  | _ => none
/-- a.f -/
@[simp] def eFld (cs : List String) (a : ME) (f : String) : ME := fun ρ => (a ρ).bind fun x ρ1 => ofO (fldO cs f ρ1.w x) ρ1
@[simp] def stF (cs : List String) (f : String) (o : O) (w : W) : D → Option W
  | .obj n => (match w[n]? with
    | some (.ins C fs) => if C ∈ cs ∧ fs.length < 1000 then some (w.set n (.ins C (putO f o fs))) else none
    | _ => none)
  | _ => none
/-- a.f = v -/
@[simp] def sFld (cs : List String) (a : ME) (f : String) (v : MO) : MS := fun ρ => (v ρ).out fun o ρ1 => (a ρ1).out fun x ρ2 => match stF cs f o ρ2.w x with
  | some w => .nx ⟨ρ2.env, w⟩
  | none => .bad
/-- C(as) -/
@[simp] def oMake (C : String) (init : MF) (as : MA) : MO := fun ρ => (as ρ).bind fun ds ρ1 => match init (.obj ρ1.w.length :: ds) (ρ1.w ++ [.ins C []]) with
  | .ok (.fz .non) w => .ok (.fz (.obj ρ1.w.length)) ⟨ρ1.env, w⟩
  | .ok _ _ => .bad
  | .exc x w => .exc x ⟨ρ1.env, w⟩
  | .bad => .bad
def isIns (C m : String) (w : W) : D → Bool
  | .obj n => (match w[n]? with
    | some (.ins C' fs) => decide (C' = C) && (fs.lookup m).isNone
    | _ => false)
  | _ => false
/-- a.m(as), a method of the class C -/
@[simp] def oMeth (C m : String) (f : MF) (a : ME) (as : MA) : MO := fun ρ => (a ρ).bind fun x ρ1 => if isIns C m ρ1.w x = true then (as ρ1).bind fun ds ρ2 => fin (f (x :: ds) ρ2.w) ρ2 else .bad

/-! ### defs -/
/-- k parameters, n slots -/
@[simp] def fnM (k n : Nat) (b : MS) : MF := fun ds w => if ds.length = k then (match b ⟨ds.map (fun d => some (.fz d)) ++ List.replicate (n - k) none, w⟩ with
    | .nx ρ => .ok (.fz .non) ρ.w
    | .rt o w => .ok o w
    | .exc x ρ => .exc x ρ.w
    | _ => .bad) else .bad
end M

/-! What data a value stands for; slots, world, heap; a mirror's reading. -/
namespace S
open PySem PySem.Spec PyProof.Rows L2

def sx (s : M.Tx) : Str := ⟨s.toArray⟩
theorem sx_cps (s : M.Tx) : (sx s).cps.toList = s := rfl
theorem sx_len (s : M.Tx) : (sx s).length = s.length := by show s.toArray.size = _; simp
theorem sx_of (z : Str) : sx z.cps.toList = z := by cases z; rfl
theorem sx_inj {a b : M.Tx} (h : sx a = sx b) : a = b := by have := congrArg (fun z : Str => z.cps.toList) h; exact this
theorem sx_app (a b : M.Tx) : sx a ++ sx b = sx (a ++ b) := str_ext (by rw [app_list, sx_cps, sx_cps, sx_cps])
def okT (s : M.Tx) : Prop := (∀ c ∈ s, c < 1114112) ∧ s.length ≤ M.LINE
def kD : Key → M.D
  | .inl i => .int i
  | .inr x => .str x.cps.toList

section
variable (K : PySem.W.Frag)
mutual
/-- v stands for d: what it stands on lies in F and never changes; T: where the world's objects stand -/
inductive Fz (F : Hp) (T : List Addr) : V → M.D → Prop
  | non : Fz F T .non .non
  | bl (b : Bool) : Fz F T (.bl b) (.bl b)
  | int (i : Int) : Fz F T (.int i) (.int i)
  | str {s : M.Tx} : okT s → Fz F T (.str (sx s)) (.str s)
  | tup {a : Addr} {vs : List V} {ds : List M.D} : SqT K F a vs → FzA F T vs ds → Fz F T (.ref a) (.tup ds)
  | lst {a : Addr} {vs : List V} {ds : List M.D} : F a = some (.lst vs) → FzA F T vs ds → Fz F T (.ref a) (.lst ds)
  | dct {a : Addr} {kvs : List (Key × V)} {ds : List M.D} : F a = some (.dK kvs) → FzA F T (kvs.map (·.2)) ds → Fz F T (.ref a) (.dct (kvs.map fun p => kD p.1) ds)
  | obj {n : Nat} {a : Addr} : T[n]? = some a → Fz F T (.ref a) (.obj n)
  | ty (n : String) : Fz F T (.ty n) (.ty n)
  | fn (x : String) : Fz F T (.ref (He.ga K x)) (.fn x)
  | scr {a : Addr} {vs : List V} {ds : List M.D} : SqL K F a vs → FzA F T vs ds → Fz F T (.ref a) (.scr ds)
inductive FzA (F : Hp) (T : List Addr) : List V → List M.D → Prop
  | nil : FzA F T [] []
  | cons {v : V} {vs : List V} {d : M.D} {ds : List M.D} : Fz F T v d → FzA F T vs ds → FzA F T (v :: vs) (d :: ds)
end
abbrev Fp := List (Addr × HO)
mutual
/-- v stands for o, alone; fp: what it stands on and may change -/
inductive Rp (F : Hp) (T : List Addr) : V → M.O → Fp → Prop
  | fz {v : V} {d : M.D} : Fz K F T v d → Rp F T v (.fz d) []
  | lst {p : Addr} {vs : List V} {os : List M.O} {fp : Fp} : RpA F T vs os fp → Rp F T (.ref p) (.lst os) ((p, .lst vs) :: fp)
  | tup {p : Addr} {vs : List V} {os : List M.O} {fp : Fp} : RpA F T vs os fp → Rp F T (.ref p) (.tup os) ((p, .tup vs) :: fp)
  | dct {p : Addr} {kvs : List (Key × V)} {os : List M.O} {fp : Fp} : RpA F T (kvs.map (·.2)) os fp → Rp F T (.ref p) (.dct (kvs.map fun q => kD q.1) os) ((p, .dK kvs) :: fp)
inductive RpA (F : Hp) (T : List Addr) : List V → List M.O → Fp → Prop
  | nil : RpA F T [] [] []
  | cons {v : V} {vs : List V} {o : M.O} {os : List M.O} {fp fq : Fp} : Rp F T v o fp → RpA F T vs os fq → RpA F T (v :: vs) (o :: os) (fp ++ fq)
end
/-- the slots -/
inductive RpE (F : Hp) (T : List Addr) : St → List (Option M.O) → Fp → Prop
  | nil : RpE F T [] [] []
  | off {x : Option V} {σ : St} {env : List (Option M.O)} {fp : Fp} : RpE F T σ env fp → RpE F T (x :: σ) (none :: env) fp
  | on {v : V} {o : M.O} {σ : St} {env : List (Option M.O)} {fp fq : Fp} : Rp K F T v o fp → RpE F T σ env fq → RpE F T (some v :: σ) (some o :: env) (fp ++ fq)
/-- an object of the world -/
inductive RpOb (F : Hp) (T : List Addr) : Addr → M.Ob → Fp → Prop
  | lst {a : Addr} {vs : List V} {os : List M.O} {fp : Fp} : RpA K F T vs os fp → RpOb F T a (.lst os) ((a, .lst vs) :: fp)
  | dct {a : Addr} {kvs : List (Key × V)} {os : List M.O} {fp : Fp} : RpA K F T (kvs.map (·.2)) os fp → RpOb F T a (.dct (kvs.map fun q => kD q.1) os) ((a, .dK kvs) :: fp)
  | ins {a dx : Addr} {C : String} {fs : List (String × V)} {os : List M.O} {fp : Fp} : F dx = some (.own a) → RpA K F T (fs.map (·.2)) os fp →
      RpOb F T a (.ins C ((fs.map (·.1)).zip os)) ((a, .ins (He.ga K C) dx (fs.map fun q => (Str.ofString q.1, q.2))) :: fp)
inductive RpW (F : Hp) (T : List Addr) : List Addr → M.W → Fp → Prop
  | nil : RpW F T [] [] []
  | cons {a : Addr} {l : List Addr} {ob : M.Ob} {w : M.W} {fp fq : Fp} : RpOb K F T a ob fp → RpW F T l w fq → RpW F T (a :: l) (ob :: w) (fp ++ fq)
structure FpH (F H : Hp) (fp : Fp) : Prop where
  low : Same F H
  at_ : ∀ e ∈ fp, H e.1 = some e.2 ∧ F e.1 = none
  nd : (fp.map (·.1)).Nodup
/-- slots, world and a frame fr, over a heap -/
def Rel (ρ : M.PSt) (σ : St) (H F : Hp) (T : List Addr) (fr : Fp) : Prop := ∃ fe fw, RpE K F T σ ρ.env fe ∧ RpW K F T T ρ.w fw ∧ FpH F H (fe ++ (fw ++ fr))
structure Ext (F : Hp) (T : List Addr) (F' : Hp) (T' : List Addr) : Prop where
  f : Same F F'
  t : T <+: T'
end

section
variable {K : PySem.W.Frag} {F F' F2 H H' : Hp} {T T' T2 : List Addr}
theorem Ext.refl : Ext F T F T := ⟨fun _ _ h => h, List.prefix_refl _⟩
theorem Ext.trans (a : Ext F T F' T') (b : Ext F' T' F2 T2) : Ext F T F2 T2 := ⟨a.f.trans b.f, a.t.trans b.t⟩
theorem Ext.of (h : Same F F') : Ext F T F' T := ⟨h, List.prefix_refl _⟩
theorem Ext.get (e : Ext F T F' T') {n : Nat} {a : Addr} (h : T[n]? = some a) : T'[n]? = some a := by
  obtain ⟨r, rfl⟩ := e.t
  rw [List.getElem?_append_left (List.getElem?_eq_some_iff.mp h).1]
  exact h
mutual
theorem Fz.mono (e : Ext F T F' T') : ∀ {v : V} {d : M.D}, Fz K F T v d → Fz K F' T' v d
  | _, _, .non => .non
  | _, _, .bl b => .bl b
  | _, _, .int i => .int i
  | _, _, .str h => .str h
  | _, _, .tup h r => .tup (seqT e.f h) (FzA.mono e r)
  | _, _, .lst h r => .lst (e.f _ _ h) (FzA.mono e r)
  | _, _, .dct h r => .dct (e.f _ _ h) (FzA.mono e r)
  | _, _, .obj h => .obj (e.get h)
  | _, _, .ty n => .ty n
  | _, _, .fn x => .fn x
  | _, _, .scr h r => .scr (Same.seq e.f h) (FzA.mono e r)
theorem FzA.mono (e : Ext F T F' T') : ∀ {vs : List V} {ds : List M.D}, FzA K F T vs ds → FzA K F' T' vs ds
  | _, _, .nil => .nil
  | _, _, .cons h r => .cons (Fz.mono e h) (FzA.mono e r)
end
mutual
theorem Rp.mono (e : Ext F T F' T') : ∀ {v : V} {o : M.O} {fp : Fp}, Rp K F T v o fp → Rp K F' T' v o fp
  | _, _, _, .fz h => .fz (h.mono e)
  | _, _, _, .lst r => .lst (RpA.mono e r)
  | _, _, _, .tup r => .tup (RpA.mono e r)
  | _, _, _, .dct r => .dct (RpA.mono e r)
theorem RpA.mono (e : Ext F T F' T') : ∀ {vs : List V} {os : List M.O} {fp : Fp}, RpA K F T vs os fp → RpA K F' T' vs os fp
  | _, _, _, .nil => .nil
  | _, _, _, .cons h r => .cons (Rp.mono e h) (RpA.mono e r)
end
theorem RpE.mono (e : Ext F T F' T') {σ : St} {env : List (Option M.O)} {fp : Fp} (h : RpE K F T σ env fp) : RpE K F' T' σ env fp := by
  induction h with
  | nil => exact .nil
  | off _ ih => exact .off ih
  | on r _ ih => exact .on (r.mono e) ih
theorem RpOb.mono (e : Ext F T F' T') {a : Addr} {ob : M.Ob} {fp : Fp} (h : RpOb K F T a ob fp) : RpOb K F' T' a ob fp := by
  cases h with
  | lst r => exact .lst (r.mono e)
  | dct r => exact .dct (r.mono e)
  | ins d r => exact .ins (e.f _ _ d) (r.mono e)
theorem RpW.mono (e : Ext F T F' T') {l : List Addr} {w : M.W} {fp : Fp} (h : RpW K F T l w fp) : RpW K F' T' l w fp := by
  induction h with
  | nil => exact .nil
  | cons r _ ih => exact .cons (r.mono e) ih
/-- the same slots and world over a heap that grew -/
theorem Rel.grow {ρ : M.PSt} {σ : St} {fr : Fp} (r : Rel K ρ σ H F T fr) (s : Same F F') (h : ∀ fp, FpH F H fp → FpH F' H' fp) : Rel K ρ σ H' F' T fr := by
  obtain ⟨fe, fw, re, rw, f⟩ := r
  exact ⟨fe, fw, re.mono (.of s), rw.mono (.of s), h _ f⟩
/-- a new object that never changes -/
theorem FpH.new {p : Addr} {o : HO} {fp : Fp} (f : FpH F H fp) (hp : H p = none) : FpH (upd F p o) (upd H p o) fp := by
  have np : ∀ e ∈ fp, e.1 ≠ p := fun e he => ne_of_none (f.at_ e he).1 hp
  refine ⟨fun a u h => ?_, fun e he => ?_, f.nd⟩
  · by_cases ha : a = p
    · subst ha; rw [upd_same] at h ⊢; exact h
    · rw [upd_ne ha] at h ⊢; exact f.low _ _ h
  · rw [upd_ne (np e he), upd_ne (np e he)]; exact f.at_ e he
theorem FpH.free {fp : Fp} (f : FpH F H fp) {p : Addr} (hp : H p = none) : F p = none := by
  cases h : F p with
  | none => rfl
  | some o => rw [f.low _ _ h] at hp; cases hp
theorem same_new {p : Addr} {o : HO} (h : F p = none) : Same F (upd F p o) := fun b u e => by rw [upd_ne (ne_of_none e h)]; exact e
end

/-! ### readings of mirrors -/
section
variable {K : PySem.W.Frag} {W : WX} {α β : Type}
/-- what an exception is: its class, its own dict -/
def XcR (K : PySem.W.Frag) (F : Hp) (T : List Addr) (x : M.Exc) (cls : Value) (dd : Option Addr) : Prop :=
  cls = .ref (He.ga K x.cls) ∧ ((x.fs = [] ∧ dd = none) ∨ ∃ (a : Addr) (f : String) (v : V) (d : M.D), x.fs = [(f, d)] ∧ dd = some a ∧ F a = some (.xd [(Str.ofString f, v)]) ∧ Fz K F T v d)
abbrev Wx := M.Exc → M.PSt → Prop
def Post (r : M.Res α) (P : α → M.PSt → Prop) (X : Wx) : Prop := match r with
  | .ok a ρ => P a ρ
  | .exc x ρ => X x ρ
  | .bad => False
theorem Post.bind {r : M.Res α} {f : α → M.PSt → M.Res β} {P : β → M.PSt → Prop} {X : Wx} (h : Post (r.bind f) P X) : Post r (fun a ρ => Post (f a ρ) P X) X := by
  cases r with
  | ok a ρ => exact h
  | exc x ρ => exact h
  | bad => exact h
theorem Post.mk {r : M.Res α} {f : α → M.PSt → M.Res β} {P : β → M.PSt → Prop} {X : Wx} (h : Post r (fun a ρ => Post (f a ρ) P X) X) : Post (r.bind f) P X := by
  cases r with
  | ok a ρ => exact h
  | exc x ρ => exact h
  | bad => exact h
theorem Post.ofO {o : Option α} {ρ : M.PSt} {P : α → M.PSt → Prop} {X : Wx} (h : Post (M.ofO o ρ) P X) : ∃ a, o = some a ∧ P a ρ := by
  cases o with
  | none => exact h.elim
  | some a => exact ⟨a, rfl, h⟩
theorem Post.mono {r : M.Res α} {P P' : α → M.PSt → Prop} {X X' : Wx} (h : Post r P X) (hp : ∀ a ρ, P a ρ → P' a ρ) (hx : ∀ x ρ, X x ρ → X' x ρ) : Post r P' X' := by
  cases r with
  | ok a ρ => exact hp _ _ h
  | exc x ρ => exact hx _ _ h
  | bad => exact h
/-- an exception is awaited -/
def EX (K : PySem.W.Frag) (W : WX) (σ : St) (F : Hp) (T : List Addr) (fr : Fp) : Wx := fun x ρ => ∀ cls dd H' F' T', Ext F T F' T' → XcR K F' T' x cls dd → Rel K ρ σ H' F' T' fr → W cls dd σ H'
theorem EX.mono {σ : St} {F F' : Hp} {T T' : List Addr} {fr : Fp} {x : M.Exc} {ρ : M.PSt} (h : EX K W σ F T fr x ρ) (e : Ext F T F' T') : EX K W σ F' T' fr x ρ := fun cls dd H' F2 T2 e2 => h cls dd H' F2 T2 (e.trans e2)
/-- an expression that gives data -/
def qE (K : PySem.W.Frag) (W : WX) (m : M.ME) : TE := fun σ H Q => ∃ ρ F T fr, Rel K ρ σ H F T fr ∧
  Post (m ρ) (fun d ρ' => ∀ v H' F' T', Ext F T F' T' → Fz K F' T' v d → Rel K ρ' σ H' F' T' fr → Q v H') (EX K W σ F T fr)
/-- .. a value that one holder knows -/
def qO (K : PySem.W.Frag) (W : WX) (m : M.MO) : TE := fun σ H Q => ∃ ρ F T fr, Rel K ρ σ H F T fr ∧
  Post (m ρ) (fun o ρ' => ∀ v H' F' T' fp, Ext F T F' T' → Rp K F' T' v o fp → Rel K ρ' σ H' F' T' (fp ++ fr) → Q v H') (EX K W σ F T fr)
def qA (K : PySem.W.Frag) (W : WX) (m : M.MA) : TA := fun σ H Q => ∃ ρ F T fr, Rel K ρ σ H F T fr ∧
  Post (m ρ) (fun ds ρ' => ∀ vs H' F' T', Ext F T F' T' → FzA K F' T' vs ds → Rel K ρ' σ H' F' T' fr → Q vs H') (EX K W σ F T fr)
def qOA (K : PySem.W.Frag) (W : WX) (m : M.MOA) : TA := fun σ H Q => ∃ ρ F T fr, Rel K ρ σ H F T fr ∧
  Post (m ρ) (fun os ρ' => ∀ vs H' F' T' fp, Ext F T F' T' → RpA K F' T' vs os fp → Rel K ρ' σ H' F' T' (fp ++ fr) → Q vs H') (EX K W σ F T fr)
def qT (K : PySem.W.Frag) (W : WX) (m : M.MT) : TT := fun σ H Q => ∃ ρ F T fr, Rel K ρ σ H F T fr ∧
  Post (m ρ) (fun b ρ' => ∀ H' F' T', Ext F T F' T' → Rel K ρ' σ H' F' T' fr → Q b H') (EX K W σ F T fr)
def qP (K : PySem.W.Frag) (W : WX) (m : M.MP) : TO := fun σ H Q => ∃ ρ F T fr, Rel K ρ σ H F T fr ∧
  Post (m ρ) (fun b ρ' => ∀ H' F' T', Ext F T F' T' → Rel K ρ' σ H' F' T' fr → Q b H') (EX K W σ F T fr)
/-- .. a statement -/
def PostS (K : PySem.W.Frag) (W : WX) (D : Ends) (F : Hp) (T : List Addr) (fr : Fp) : M.Out → Prop
  | .nx ρ => ∀ σ' H' F' T', Ext F T F' T' → Rel K ρ σ' H' F' T' fr → D.nx σ' H'
  | .bk ρ => ∀ σ' H' F' T', Ext F T F' T' → Rel K ρ σ' H' F' T' fr → D.bk σ' H'
  | .ct ρ => ∀ σ' H' F' T', Ext F T F' T' → Rel K ρ σ' H' F' T' fr → D.ct σ' H'
  | .rt o w => ∀ v H' F' T' fp, Ext F T F' T' → Rp K F' T' v o fp → Rel K ⟨[], w⟩ [] H' F' T' (fp ++ fr) → D.rt v H'
  | .exc x ρ => ∀ σ' cls dd H' F' T', Ext F T F' T' → XcR K F' T' x cls dd → Rel K ρ σ' H' F' T' fr → W cls dd σ' H'
  | .bad => False
def qS (K : PySem.W.Frag) (W : WX) (m : M.MS) : TS := fun D σ H => ∃ ρ F T fr, Rel K ρ σ H F T fr ∧ PostS K W D F T fr (m ρ)
abbrev SE (X : Cx) (W : WX) (e : Expr) (m : M.ME) : Prop := PE X e (qE X.K W m)
abbrev SO (X : Cx) (W : WX) (e : Expr) (m : M.MO) : Prop := PE X e (qO X.K W m)
abbrev SA (X : Cx) (W : WX) (es : List Expr) (m : M.MA) : Prop := PA X es (qA X.K W m)
abbrev SOA (X : Cx) (W : WX) (es : List Expr) (m : M.MOA) : Prop := PA X es (qOA X.K W m)
abbrev ST (X : Cx) (W : WX) (e : Expr) (m : M.MT) : Prop := PT X e (qT X.K W m)
abbrev SS (X : Cx) (W : WX) (s : Stmt) (m : M.MS) : Prop := PS X s (qS X.K W m)
abbrev SSs (X : Cx) (W : WX) (s : List Stmt) (m : M.MS) : Prop := PSs X s (qS X.K W m)
theorem PE.imp {X : Cx} {e : Expr} {t t' : TE} (h : PE X e t) (i : ∀ σ H Q, t' σ H Q → t σ H Q) : PE X e t' := ⟨fun pins s σ H Q I q => h.run pins s σ H Q I (i σ H Q q)⟩
theorem PT.imp {X : Cx} {e : Expr} {t t' : TT} (h : PT X e t) (i : ∀ σ H Q, t' σ H Q → t σ H Q) : PT X e t' := ⟨fun pins s σ H Q I q => h.run pins s σ H Q I (i σ H Q q)⟩
theorem PW.imp {X : Cx} {e : Expr} {t t' : TT} (h : PW X e t) (i : ∀ σ H Q, t' σ H Q → t σ H Q) : PW X e t' := ⟨fun wh pins s σ H Q I q => h.run wh pins s σ H Q I (i σ H Q q)⟩
theorem PA.imp {X : Cx} {e : List Expr} {t t' : TA} (h : PA X e t) (i : ∀ σ H Q, t' σ H Q → t σ H Q) : PA X e t' := ⟨fun pos pins s σ H Q I q => h.run pos pins s σ H Q I (i σ H Q q)⟩
theorem PS.imp {X : Cx} {e : Stmt} {t t' : TS} (h : PS X e t) (i : ∀ D σ H, t' D σ H → t D σ H) : PS X e t' := ⟨fun pins s σ H Q I q => h.run pins s σ H Q I (i Q σ H q)⟩
theorem PSs.imp {X : Cx} {e : List Stmt} {t t' : TS} (h : PSs X e t) (i : ∀ D σ H, t' D σ H → t D σ H) : PSs X e t' := ⟨fun pins s σ H Q I q => h.run pins s σ H Q I (i Q σ H q)⟩
theorem PO.imp {X : Cx} {e : Option Expr} {t t' : TO} (h : PO X e t) (i : ∀ σ H Q, t' σ H Q → t σ H Q) : PO X e t' := ⟨fun pins s σ H Q I q => h.run pins s σ H Q I (i σ H Q q)⟩

/-! one step of a reading -/
variable {σ : St} {H F : Hp} {T : List Addr} {fr : Fp} {ρ : M.PSt} {P : β → M.PSt → Prop} {X : Wx}
theorem qE_bind {m : M.ME} {k : M.D → M.PSt → M.Res β} {Q : VK} (rel : Rel K ρ σ H F T fr) (h : Post ((m ρ).bind k) P (EX K W σ F T fr))
    (q : ∀ d ρ1 v H1 F1 T1, Ext F T F1 T1 → Fz K F1 T1 v d → Rel K ρ1 σ H1 F1 T1 fr → Post (k d ρ1) P (EX K W σ F1 T1 fr) → Q v H1) : qE K W m σ H Q :=
  ⟨ρ, F, T, fr, rel, (Post.bind h).mono (fun d ρ1 h1 v H1 F1 T1 e z r => q d ρ1 v H1 F1 T1 e z r (h1.mono (fun _ _ z => z) fun _ _ z => z.mono e)) fun _ _ z => z⟩
theorem qO_bind {m : M.MO} {k : M.O → M.PSt → M.Res β} {Q : VK} (rel : Rel K ρ σ H F T fr) (h : Post ((m ρ).bind k) P (EX K W σ F T fr))
    (q : ∀ o ρ1 v H1 F1 T1 fp, Ext F T F1 T1 → Rp K F1 T1 v o fp → Rel K ρ1 σ H1 F1 T1 (fp ++ fr) → Post (k o ρ1) P (EX K W σ F1 T1 fr) → Q v H1) : qO K W m σ H Q :=
  ⟨ρ, F, T, fr, rel, (Post.bind h).mono (fun d ρ1 h1 v H1 F1 T1 fp e z r => q d ρ1 v H1 F1 T1 fp e z r (h1.mono (fun _ _ z => z) fun _ _ z => z.mono e)) fun _ _ z => z⟩
theorem qA_bind {m : M.MA} {k : List M.D → M.PSt → M.Res β} {Q : List V → Hp → Prop} (rel : Rel K ρ σ H F T fr) (h : Post ((m ρ).bind k) P (EX K W σ F T fr))
    (q : ∀ ds ρ1 vs H1 F1 T1, Ext F T F1 T1 → FzA K F1 T1 vs ds → Rel K ρ1 σ H1 F1 T1 fr → Post (k ds ρ1) P (EX K W σ F1 T1 fr) → Q vs H1) : qA K W m σ H Q :=
  ⟨ρ, F, T, fr, rel, (Post.bind h).mono (fun d ρ1 h1 v H1 F1 T1 e z r => q d ρ1 v H1 F1 T1 e z r (h1.mono (fun _ _ z => z) fun _ _ z => z.mono e)) fun _ _ z => z⟩
theorem qOA_bind {m : M.MOA} {k : List M.O → M.PSt → M.Res β} {Q : List V → Hp → Prop} (rel : Rel K ρ σ H F T fr) (h : Post ((m ρ).bind k) P (EX K W σ F T fr))
    (q : ∀ os ρ1 vs H1 F1 T1 fp, Ext F T F1 T1 → RpA K F1 T1 vs os fp → Rel K ρ1 σ H1 F1 T1 (fp ++ fr) → Post (k os ρ1) P (EX K W σ F1 T1 fr) → Q vs H1) : qOA K W m σ H Q :=
  ⟨ρ, F, T, fr, rel, (Post.bind h).mono (fun d ρ1 h1 v H1 F1 T1 fp e z r => q d ρ1 v H1 F1 T1 fp e z r (h1.mono (fun _ _ z => z) fun _ _ z => z.mono e)) fun _ _ z => z⟩
theorem qT_bind {m : M.MT} {k : Bool → M.PSt → M.Res β} {Q : Bool → Hp → Prop} (rel : Rel K ρ σ H F T fr) (h : Post ((m ρ).bind k) P (EX K W σ F T fr))
    (q : ∀ b ρ1 H1 F1 T1, Ext F T F1 T1 → Rel K ρ1 σ H1 F1 T1 fr → Post (k b ρ1) P (EX K W σ F1 T1 fr) → Q b H1) : qT K W m σ H Q :=
  ⟨ρ, F, T, fr, rel, (Post.bind h).mono (fun d ρ1 h1 H1 F1 T1 e r => q d ρ1 H1 F1 T1 e r (h1.mono (fun _ _ z => z) fun _ _ z => z.mono e)) fun _ _ z => z⟩
theorem qP_bind {m : M.MP} {k : Option Int → M.PSt → M.Res β} {Q : Option Int → Hp → Prop} (rel : Rel K ρ σ H F T fr) (h : Post ((m ρ).bind k) P (EX K W σ F T fr))
    (q : ∀ b ρ1 H1 F1 T1, Ext F T F1 T1 → Rel K ρ1 σ H1 F1 T1 fr → Post (k b ρ1) P (EX K W σ F1 T1 fr) → Q b H1) : qP K W m σ H Q :=
  ⟨ρ, F, T, fr, rel, (Post.bind h).mono (fun d ρ1 h1 H1 F1 T1 e r => q d ρ1 H1 F1 T1 e r (h1.mono (fun _ _ z => z) fun _ _ z => z.mono e)) fun _ _ z => z⟩
end
end S

/-! Operations on values, by data. -/
namespace S
open PySem PySem.Spec PyProof.Rows L2
section
variable {K : PySem.W.Frag} {F H : Hp} {T : List Addr} {v : V} {d : M.D} {vs ws : List V} {ds es : List M.D}
theorem Fz.int_inv {i : Int} (h : Fz K F T v (.int i)) : v = .int i := by cases h; rfl
theorem Fz.bl_inv {i : Bool} (h : Fz K F T v (.bl i)) : v = .bl i := by cases h; rfl
theorem Fz.non_inv (h : Fz K F T v .non) : v = .non := by cases h; rfl
theorem Fz.str_inv {s : M.Tx} (h : Fz K F T v (.str s)) : v = .str (sx s) ∧ okT s := by cases h with | str h => exact ⟨rfl, h⟩
theorem Fz.tup_inv (h : Fz K F T v (.tup ds)) : ∃ a vs, v = .ref a ∧ SqT K F a vs ∧ FzA K F T vs ds := by cases h with | tup h r => exact ⟨_, _, rfl, h, r⟩
theorem Fz.lst_inv (h : Fz K F T v (.lst ds)) : ∃ a vs, v = .ref a ∧ F a = some (.lst vs) ∧ FzA K F T vs ds := by cases h with | lst h r => exact ⟨_, _, rfl, h, r⟩
theorem FzA.length : ∀ {vs : List V} {ds : List M.D}, FzA K F T vs ds → vs.length = ds.length
  | _, _, .nil => rfl
  | _, _, .cons _ r => congrArg (· + 1) (FzA.length r)
theorem FzA.append : ∀ {vs ws : List V} {ds es : List M.D}, FzA K F T vs ds → FzA K F T ws es → FzA K F T (vs ++ ws) (ds ++ es)
  | _, _, _, _, .nil, h => h
  | _, _, _, _, .cons a r, h => .cons a (FzA.append r h)
theorem FzA.take : ∀ {vs : List V} {ds : List M.D} (n : Nat), FzA K F T vs ds → FzA K F T (vs.take n) (ds.take n)
  | _, _, 0, _ => .nil
  | _, _, n + 1, .nil => .nil
  | _, _, n + 1, .cons a r => .cons a (FzA.take n r)
theorem FzA.drop : ∀ {vs : List V} {ds : List M.D} (n : Nat), FzA K F T vs ds → FzA K F T (vs.drop n) (ds.drop n)
  | _, _, 0, h => h
  | _, _, n + 1, .nil => .nil
  | _, _, n + 1, .cons a r => FzA.drop n r
theorem FzA.get : ∀ {vs : List V} {ds : List M.D} {i : Nat} {d : M.D}, FzA K F T vs ds → ds[i]? = some d → ∃ v, vs[i]? = some v ∧ Fz K F T v d
  | _, _, _, _, .nil, e => by cases e
  | _, _, 0, _, .cons h _, e => ⟨_, rfl, by rw [← Option.some.inj e]; exact h⟩
  | _, _, i + 1, _, .cons _ r, e => FzA.get (i := i) r e
theorem FzA.get' : ∀ {vs : List V} {ds : List M.D} {i : Nat} {v : V}, FzA K F T vs ds → vs[i]? = some v → ∃ d, ds[i]? = some d ∧ Fz K F T v d
  | _, _, _, _, .nil, e => by cases e
  | _, _, 0, _, .cons h _, e => ⟨_, rfl, by rw [← Option.some.inj e]; exact h⟩
  | _, _, i + 1, _, .cons _ r, e => FzA.get' (i := i) r e
theorem FzA.rev {vs : List V} {ds : List M.D} (h : FzA K F T vs ds) : FzA K F T vs.reverse ds.reverse := by
  match vs, ds, h with
  | [], [], .nil => exact .nil
  | v :: vs, d :: ds, .cons a r =>
    rw [List.reverse_cons, List.reverse_cons]
    exact FzA.append (FzA.rev r) (.cons a .nil)
theorem FzA.rep {vs : List V} {ds : List M.D} (h : FzA K F T vs ds) : ∀ n, FzA K F T (List.replicate n vs).flatten (List.replicate n ds).flatten
  | 0 => .nil
  | n + 1 => FzA.append h (FzA.rep h n)
theorem FzA.cutV {lo hi : Option Int} (h : FzA K F T vs ds) : FzA K F T (cutV vs lo hi) (M.cut ds lo hi) := by
  unfold L2.cutV M.cut
  rw [h.length]
  exact FzA.take _ (FzA.drop _ h)
theorem FzA.of_all : ∀ {n : Nat} {f : Nat → V} {g : Nat → M.D}, (∀ i, Fz K F T (f i) (g i)) → FzA K F T ((List.range n).map f) ((List.range n).map g) := by
  intro n f g h
  generalize List.range n = l
  induction l with
  | nil => exact .nil
  | cons a l ih => exact .cons (h a) ih
theorem fz_ch {c : Nat} (h : c < 1114112) : Fz K F T (.str ⟨#[c]⟩) (M.chD c) := Fz.str (s := [c]) ⟨fun x hx => by rw [List.mem_singleton.mp hx]; exact h, by show 1 ≤ 16777216; decide⟩
theorem FzA.chars : ∀ {s : M.Tx}, (∀ c ∈ s, c < 1114112) → FzA K F T (s.map chv) (s.map M.chD)
  | [], _ => .nil
  | c :: s, h => .cons (fz_ch (h c (by simp))) (FzA.chars fun x hx => h x (by simp [hx]))
theorem SqT.low (s : Same F H) {a : Addr} (h : SqT K F a vs) : SqT K H a vs := seqT s h
theorem okT.app {a b : M.Tx} (h1 : okT a) (h2 : okT b) (h : a.length + b.length ≤ M.LINE) : okT (a ++ b) :=
  ⟨fun c hc => (List.mem_append.mp hc).elim (h1.1 c) (h2.1 c), by rw [List.length_append]; exact h⟩
theorem okT.sub {a b : M.Tx} (h1 : okT a) (h : ∀ c ∈ b, c ∈ a) (hl : b.length ≤ a.length) : okT b := ⟨fun c hc => h1.1 c (h c hc), Nat.le_trans hl h1.2⟩
theorem okT.len {s : M.Tx} (h : okT s) : (sx s).length ≤ sizeLine := by rw [sx_len, sizeLine_eq]; exact h.2
theorem line_eq : sizeLine = M.LINE := sizeLine_eq
theorem Rel.fp {ρ : M.PSt} {σ : St} {fr : Fp} (r : Rel K ρ σ H F T fr) : ∃ fp, FpH F H fp ∧ ∀ H' F', Same F F' → FpH F' H' fp → Rel K ρ σ H' F' T fr := by
  obtain ⟨fe, fw, re, rw, f⟩ := r
  exact ⟨_, f, fun H' F' s f' => ⟨fe, fw, re.mono (.of s), rw.mono (.of s), f'⟩⟩
/-- what stands behind an operation: dz at a heap that grew -/
abbrev Grown (K : PySem.W.Frag) (F : Hp) (T : List Addr) (fp : Fp) (dz : M.D) (Q : VK) : Prop := ∀ v H' F', Same F F' → Fz K F' T v dz → FpH F' H' fp → Q v H'
theorem Grown.here {fp : Fp} {dz : M.D} {Q : VK} (k : Grown K F T fp dz Q) (f : FpH F H fp) (z : Fz K F T v dz) : Q v H := k v H F (fun _ _ e => e) z f
theorem Grown.newT {fp : Fp} {Q : VK} (k : Grown K F T fp (.tup ds) Q) (f : FpH F H fp) (z : FzA K F T vs ds) {p : Addr} (hp : H p = none) : Q (.ref p) (upd H p (.tup vs)) := by
  have s : Same F (upd F p (.tup vs)) := same_new (f.free hp)
  exact k _ _ _ s (.tup (SqT.of upd_same) (z.mono (.of s))) (f.new hp)
theorem Grown.newL {fp : Fp} {Q : VK} (k : Grown K F T fp (.lst ds) Q) (f : FpH F H fp) (z : FzA K F T vs ds) {p : Addr} (hp : H p = none) : Q (.ref p) (upd H p (.lst vs)) := by
  have s : Same F (upd F p (.lst vs)) := same_new (f.free hp)
  exact k _ _ _ s (.lst upd_same (z.mono (.of s))) (f.new hp)
end
section
variable (K : PySem.W.Frag)
def Op1 (f : M.D → Option M.D) (r : V → Hp → VK → Prop) : Prop := ∀ {F H : Hp} {T : List Addr} {fp : Fp} {x : V} {dx dz : M.D} {Q : VK}, FpH F H fp → Fz K F T x dx → f dx = some dz → Grown K F T fp dz Q → r x H Q
def Op2 (f : M.D → M.D → Option M.D) (r : R2) : Prop := ∀ {F H : Hp} {T : List Addr} {fp : Fp} {x y : V} {dx dy dz : M.D} {Q : VK}, FpH F H fp → Fz K F T x dx → Fz K F T y dy → f dx dy = some dz → Grown K F T fp dz Q → r x y H Q
end
section
variable {K : PySem.W.Frag}
theorem Op2.or1 {f : M.D → M.D → Option M.D} {r r' : R2} (h : Op2 K f r) : Op2 K f (fun x y H Q => r x y H Q ∨ r' x y H Q) := fun a b c d e => .inl (h a b c d e)
theorem Op2.or2 {f : M.D → M.D → Option M.D} {r r' : R2} (h : Op2 K f r') : Op2 K f (fun x y H Q => r x y H Q ∨ r' x y H Q) := fun a b c d e => .inr (h a b c d e)

/-! ### equality -/
mutual
def py : M.D → PyData
  | .bl b => .bool b
  | .int i => .int i
  | .str s => .str (sx s)
  | .tup ds => .tuple (pys ds)
  | .lst ds => .list (pys ds)
  | _ => .none
def pys : List M.D → List PyData
  | [] => []
  | d :: r => py d :: pys r
end
mutual
theorem Fz.py {F H : Hp} {T : List Addr} (s : Same F H) : ∀ {v : V} {d : M.D}, Fz K F T v d → M.dat d = true → Dp K H v (py d)
  | _, _, .non, _ => .non
  | _, _, .bl b, _ => .bl b
  | _, _, .int i, _ => .int i
  | _, _, .str h, _ => .str _
  | _, _, .tup h r, e => .tup (seqT s h) (FzA.py s r e)
  | _, _, .lst h r, e => .lst (SqL.of (s _ _ h)) (FzA.py s r e)
  | _, _, .dct h r, e => by cases e
  | _, _, .obj h, e => by cases e
  | _, _, .ty n, e => by cases e
  | _, _, .fn x, e => by cases e
  | _, _, .scr h r, e => by cases e
theorem FzA.py {F H : Hp} {T : List Addr} (s : Same F H) : ∀ {vs : List V} {ds : List M.D}, FzA K F T vs ds → M.dats ds = true → DpAll K H vs (pys ds)
  | _, _, .nil, _ => .nil
  | _, _, .cons h r, e => by
    obtain ⟨e1, e2⟩ := Bool.and_eq_true_iff.mp (show (M.dat _ && M.dats _) = true from e)
    exact .cons (Fz.py s h e1) (FzA.py s r e2)
end
theorem strOk_of {s : M.Tx} (h : okT s) : PyData.strOk (sx s) = true := by
  unfold PyData.strOk
  rw [Array.all_eq_true']
  intro c hc
  have := h.1 c (by simpa [sx] using hc)
  simp only [decide_eq_true_eq]
  omega
mutual
theorem lay_of {F : Hp} {T : List Addr} : ∀ {v : V} {d : M.D}, Fz K F T v d → M.dat d = true → (py d).canLay0 = true ∧ (py d).depth = M.dep d
  | _, _, .non, _ => ⟨rfl, rfl⟩
  | _, _, .bl b, _ => ⟨rfl, rfl⟩
  | _, _, .int i, _ => ⟨rfl, rfl⟩
  | _, _, .str h, _ => ⟨strOk_of h, rfl⟩
  | _, _, .tup h r, e => by
    obtain ⟨h1, h2⟩ := lays_of r e
    exact ⟨h1, congrArg (· + 1) h2⟩
  | _, _, .lst h r, e => by
    obtain ⟨h1, h2⟩ := lays_of r e
    exact ⟨h1, congrArg (· + 1) h2⟩
  | _, _, .dct h r, e => by cases e
  | _, _, .obj h, e => by cases e
  | _, _, .ty n, e => by cases e
  | _, _, .fn x, e => by cases e
  | _, _, .scr h r, e => by cases e
theorem lays_of {F : Hp} {T : List Addr} : ∀ {vs : List V} {ds : List M.D}, FzA K F T vs ds → M.dats ds = true → PyData.canLayAll0 (pys ds) = true ∧ PyData.depthAll (pys ds) = M.deps ds
  | _, _, .nil, _ => ⟨rfl, rfl⟩
  | _, _, .cons h r, e => by
    obtain ⟨e1, e2⟩ := Bool.and_eq_true_iff.mp (show (M.dat _ && M.dats _) = true from e)
    obtain ⟨a1, a2⟩ := lay_of h e1
    obtain ⟨b1, b2⟩ := lays_of r e2
    refine ⟨?_, ?_⟩
    · show (PyData.canLay0 _ && PyData.canLayAll0 _) = true
      rw [a1, b1]; rfl
    · show max (PyData.depth _) (PyData.depthAll _) = max _ _
      rw [a2, b2]
end
theorem sx_beq (a b : M.Tx) : (sx a == sx b) = (a == b) := by
  rw [Bool.eq_iff_iff, beq_iff_eq, beq_iff_eq]
  exact ⟨sx_inj, fun h => by rw [h]⟩
mutual
theorem eqv_py : ∀ (d e : M.D), M.dat d = true → M.dat e = true → PyData.eqv (py d) (py e) = M.eqb d e
  | .non, e, _, h => by cases e <;> first | rfl | cases h
  | .bl a, e, _, h => by cases e <;> first | rfl | cases h
  | .int a, e, _, h => by cases e <;> first | rfl | cases h
  | .str a, e, _, h => by
    cases e with
    | str b => exact sx_beq a b
    | _ => first | rfl | cases h
  | .tup a, e, h1, h => by
    cases e with
    | tup b => exact eqvs_py a b h1 h
    | _ => first | rfl | cases h
  | .lst a, e, h1, h => by
    cases e with
    | lst b => exact eqvs_py a b h1 h
    | _ => first | rfl | cases h
  | .dct _ _, _, h, _ => by cases h
  | .obj _, _, h, _ => by cases h
  | .ty _, _, h, _ => by cases h
  | .fn _, _, h, _ => by cases h
  | .exc _ _, _, h, _ => by cases h
  | .scr _, _, h, _ => by cases h
theorem eqvs_py : ∀ (d e : List M.D), M.dats d = true → M.dats e = true → PyData.eqvAll (pys d) (pys e) = M.eqbs d e
  | [], [], _, _ => rfl
  | [], _ :: _, _, _ => rfl
  | _ :: _, [], _, _ => rfl
  | a :: d, b :: e, h1, h2 => by
    obtain ⟨a1, a2⟩ := Bool.and_eq_true_iff.mp (show (M.dat _ && M.dats _) = true from h1)
    obtain ⟨b1, b2⟩ := Bool.and_eq_true_iff.mp (show (M.dat _ && M.dats _) = true from h2)
    show (PyData.eqv (py a) (py b) && PyData.eqvAll (pys d) (pys e)) = (M.eqb a b && M.eqbs d e)
    rw [eqv_py a b a1 b1, eqvs_py d e a2 b2]
end
theorem eqv_D {F H : Hp} {T : List Addr} {fp : Fp} {x y : V} {dx dy : M.D} {b : Bool} (f : FpH F H fp) (hx : Fz K F T x dx) (hy : Fz K F T y dy) (h : M.eqv dx dy = some b) :
    ∃ d e, Dp K H x d ∧ Dp K H y e ∧ SeqAt.shaped d = true ∧ SeqAt.shaped e = true ∧ PyData.eqv d e = b := by
  unfold M.eqv at h
  split at h
  · rename_i c
    obtain ⟨c1, c2, c3, c4⟩ := c
    obtain ⟨a1, a2⟩ := lay_of hx c1
    obtain ⟨b1, b2⟩ := lay_of hy c2
    refine ⟨_, _, hx.py f.low c1, hy.py f.low c2, ?_, ?_, ?_⟩
    · exact Sh.shaped (n := 64) ⟨a1, by rw [a2]; exact c3⟩ (Nat.le_refl _)
    · exact Sh.shaped (n := 64) ⟨b1, by rw [b2]; exact c4⟩ (Nat.le_refl _)
    · rw [eqv_py _ _ c1 c2]; exact Option.some.inj h
  · cases h
theorem o_eq : Op2 K M.pEq (rEqU K) := by
  intro F H T fp x y dx dy dz Q f hx hy h k
  unfold M.pEq M.ob at h
  cases e : M.eqv dx dy with
  | none => rw [e] at h; cases h
  | some b =>
    rw [e] at h
    cases h
    obtain ⟨d, e, h1, h2, h3, h4, h5⟩ := eqv_D f hx hy e
    exact .inr ⟨d, e, h1, h2, h3, h4, by rw [h5]; exact k.here f (.bl b)⟩
theorem o_ne : Op2 K M.pNe (rNeU K) := by
  intro F H T fp x y dx dy dz Q f hx hy h k
  unfold M.pNe M.ob at h
  cases e : M.eqv dx dy with
  | none => rw [e] at h; cases h
  | some b =>
    rw [e] at h
    cases h
    obtain ⟨d, e, h1, h2, h3, h4, h5⟩ := eqv_D f hx hy e
    exact .inr ⟨d, e, h1, h2, h3, h4, by rw [h5]; exact k.here f (.bl (!b))⟩

/-! ### arithmetic, order -/
theorem o_add : Op2 K M.pAdd (rAddU K) := by
  intro F H T fp x y dx dy dz Q f hx hy h k
  cases dx <;> cases dy <;> try (cases h; done)
  · cases hx; cases hy; cases h
    exact .inl ⟨_, _, rfl, rfl, k.here f (.int _)⟩
  · obtain ⟨rfl, o1⟩ := hx.str_inv
    obtain ⟨rfl, o2⟩ := hy.str_inv
    simp only [M.pAdd] at h
    split at h
    · rename_i hl
      cases h
      refine .inr (.inl ⟨_, _, rfl, rfl, by rw [sx_len, sx_len, line_eq]; exact hl, ?_⟩)
      rw [sx_app]
      exact k.here f (.str (o1.app o2 hl))
    · cases h
  · obtain ⟨a, vs, rfl, ha, za⟩ := hx.tup_inv
    obtain ⟨b, ws, rfl, hb, zb⟩ := hy.tup_inv
    simp only [M.pAdd] at h
    split at h
    · rename_i hl
      cases h
      refine .inr (.inr (.inr ⟨a, b, vs, ws, rfl, rfl, seqT f.low ha, seqT f.low hb, by rw [za.length, zb.length, line_eq]; exact hl, fun e => ?_, fun _ e => ?_, fun _ _ p hp => k.newT f (za.append zb) hp⟩))
      · subst e
        cases za
        exact k.here f (.tup hb zb)
      · subst e
        cases zb
        refine k.here f ?_
        rw [List.append_nil]
        exact .tup ha za
    · cases h
  · obtain ⟨a, vs, rfl, ha, za⟩ := hx.lst_inv
    obtain ⟨b, ws, rfl, hb, zb⟩ := hy.lst_inv
    simp only [M.pAdd] at h
    split at h
    · rename_i hl
      cases h
      exact .inr (.inr (.inl ⟨a, b, vs, ws, rfl, rfl, f.low _ _ ha, f.low _ _ hb, by rw [za.length, zb.length, line_eq]; exact hl, fun p hp => k.newL f (za.append zb) hp⟩))
    · cases h
theorem o_sub : Op2 K M.pSub (rI0 fun i j => .int (i - j)) := by
  intro F H T fp x y dx dy dz Q f hx hy h k
  cases dx <;> cases dy <;> try (cases h; done)
  cases hx; cases hy; cases h
  exact ⟨_, _, rfl, rfl, k.here f (.int _)⟩
theorem rep_sx (s : M.Tx) (n : Nat) : repS (sx s) n = sx (List.replicate n s).flatten := rfl
theorem rep_ok {s : M.Tx} {n : Nat} (h : okT s) (hl : s.length * n ≤ M.LINE) : okT (List.replicate n s).flatten := by
  refine ⟨fun c hc => ?_, ?_⟩
  · obtain ⟨l, h1, h2⟩ := List.mem_flatten.mp hc
    rw [List.eq_of_mem_replicate h1] at h2
    exact h.1 c h2
  · rw [List.length_flatten]
    simp
    rw [Nat.mul_comm]
    exact hl
def rMulV : R2 := fun x y H Q => rMulU x y H Q ∨ rI CMulW (fun i j => .int (i * j)) x y H Q
theorem op_mulV {X : Cx} : OpR X (binaryOp .Mult) rMulV := op_mulU.or op_mulW
theorem lt400 {i : Int} (h : -2582249878086908589655919172003011874329705792829223512830659356540647622016841194629645353280137831435903171972747493376 < i ∧ i < 2582249878086908589655919172003011874329705792829223512830659356540647622016841194629645353280137831435903171972747493376) : i.natAbs < 2 ^ 400 := by
  have : (2 : Nat) ^ 400 = 2582249878086908589655919172003011874329705792829223512830659356540647622016841194629645353280137831435903171972747493376 := by decide +kernel
  omega
theorem o_mul : Op2 K M.pMul rMulV := by
  intro F H T fp x y dx dy dz Q f hx hy h k
  cases dx <;> cases dy <;> try (cases h; done)
  · cases hx; cases hy
    simp only [M.pMul] at h
    split at h
    · rename_i hc
      cases h
      rcases hc with hc | hc
      · refine .inl (.inl ⟨_, _, rfl, rfl, ?_, k.here f (.int _)⟩)
        rcases hc with hc | hc <;> simp only [M.small64, Bool.and_eq_true, decide_eq_true_eq] at hc
        · exact .inl hc
        · exact .inr hc
      · exact .inr ⟨_, _, rfl, rfl, wide_mul (lt400 hc.1) (lt400 hc.2) (by decide) (by decide) (by decide), k.here f (.int _)⟩
    · cases h
  · obtain ⟨rfl, o1⟩ := hx.str_inv
    cases hy
    simp only [M.pMul] at h
    split at h
    · rename_i hc
      cases h
      refine .inl (.inr (.inl ⟨_, _, rfl, rfl, hc.1, hc.2.1, by rw [sx_len, line_eq]; exact hc.2.2, ?_⟩))
      rw [rep_sx]
      exact k.here f (.str (rep_ok o1 hc.2.2))
    · cases h
  · obtain ⟨a, vs, rfl, ha, za⟩ := hx.lst_inv
    cases hy
    simp only [M.pMul] at h
    split at h
    · rename_i hc
      cases h
      refine .inl (.inr (.inr ⟨a, _, vs, rfl, rfl, f.low _ _ ha, by omega, by omega, by rw [za.length, line_eq]; exact hc.2.2, fun p hp => k.newL f (za.rep _) hp⟩))
    · cases h
theorem o_fdiv : Op2 K M.pFdiv (rI CDivW fun i j => .int (i / j)) := by
  intro F H T fp x y dx dy dz Q f hx hy h k
  cases dx <;> cases dy <;> try (cases h; done)
  cases hx; cases hy
  simp only [M.pFdiv] at h
  split at h
  · rename_i hc
    cases h
    refine ⟨_, _, rfl, rfl, wide_div (b := 200) hc.1 ?_ (by decide) (by decide), k.here f (.int _)⟩
    have : (2 : Nat) ^ 200 = 1606938044258990275541962092341162602522202993782792835301376 := by decide +kernel
    omega
  · cases h
theorem o_mod : Op2 K M.pMod (rI (fun _ j => 0 < j) fun i j => .int (i % j)) := by
  intro F H T fp x y dx dy dz Q f hx hy h k
  cases dx <;> cases dy <;> try (cases h; done)
  cases hx; cases hy
  simp only [M.pMod] at h
  split at h
  · rename_i hc
    cases h
    exact ⟨_, _, rfl, rfl, hc, k.here f (.int _)⟩
  · cases h
theorem o_pow : Op2 K M.pPow (rI CPow fun i j => .int (i ^ j.toNat)) := by
  intro F H T fp x y dx dy dz Q f hx hy h k
  cases dx <;> cases dy <;> try (cases h; done)
  cases hx; cases hy
  simp only [M.pPow] at h
  split at h
  · rename_i hc
    cases h
    obtain ⟨h1, h2, h3⟩ := hc
    simp only [M.small64, Bool.and_eq_true, decide_eq_true_eq] at h3
    exact ⟨_, _, rfl, rfl, ⟨h1, by omega, by omega⟩, k.here f (.int _)⟩
  · cases h
theorem o_lt : Op2 K M.pLt (rCmU (fun i j => decide (i < j)) fun a b => decide (a < b)) := by
  intro F H T fp x y dx dy dz Q f hx hy h k
  cases dx <;> cases dy <;> try (cases h; done)
  · cases hx; cases hy; cases h
    exact .inl ⟨_, _, rfl, rfl, k.here f (.bl _)⟩
  · obtain ⟨rfl, o1⟩ := hx.str_inv
    obtain ⟨rfl, o2⟩ := hy.str_inv
    cases h
    exact .inr ⟨_, _, rfl, rfl, k.here f (.bl _)⟩
theorem o_le : Op2 K M.pLe (rCmU (fun i j => decide (i ≤ j)) fun a b => !decide (b < a)) := by
  intro F H T fp x y dx dy dz Q f hx hy h k
  cases dx <;> cases dy <;> try (cases h; done)
  · cases hx; cases hy; cases h
    exact .inl ⟨_, _, rfl, rfl, k.here f (.bl _)⟩
  · obtain ⟨rfl, o1⟩ := hx.str_inv
    obtain ⟨rfl, o2⟩ := hy.str_inv
    cases h
    exact .inr ⟨_, _, rfl, rfl, k.here f (.bl _)⟩
theorem o_gt : Op2 K M.pGt (rCmU (fun i j => decide (j < i)) fun a b => decide (b < a)) := by
  intro F H T fp x y dx dy dz Q f hx hy h k
  cases dx <;> cases dy <;> try (cases h; done)
  · cases hx; cases hy; cases h
    exact .inl ⟨_, _, rfl, rfl, k.here f (.bl _)⟩
  · obtain ⟨rfl, o1⟩ := hx.str_inv
    obtain ⟨rfl, o2⟩ := hy.str_inv
    cases h
    exact .inr ⟨_, _, rfl, rfl, k.here f (.bl _)⟩
theorem o_ge : Op2 K M.pGe (rCmU (fun i j => decide (j ≤ i)) fun a b => !decide (a < b)) := by
  intro F H T fp x y dx dy dz Q f hx hy h k
  cases dx <;> cases dy <;> try (cases h; done)
  · cases hx; cases hy; cases h
    exact .inl ⟨_, _, rfl, rfl, k.here f (.bl _)⟩
  · obtain ⟨rfl, o1⟩ := hx.str_inv
    obtain ⟨rfl, o2⟩ := hy.str_inv
    cases h
    exact .inr ⟨_, _, rfl, rfl, k.here f (.bl _)⟩
/-- is None, is of bools -/
def rIsU : R2 := fun x y H Q => rIsN x y H Q ∨ rIsB x y H Q
def rIsNotU : R2 := fun x y H Q => rNotN x y H Q ∨ rNotB x y H Q
theorem op_isU2 {X : Cx} : OpR X (compareOp .Is) rIsU := op_isNU.or op_isBl
theorem op_isNotU2 {X : Cx} : OpR X (compareOp .IsNot) rIsNotU := op_notNU.or op_notBl
theorem is_non {F : Hp} {T : List Addr} {x : V} {d : M.D} (h : Fz K F T x d) : decide (x = .non) = M.isNon d := by cases h <;> rfl
theorem o_is : Op2 K M.pIs rIsU := by
  intro F H T fp x y dx dy dz Q f hx hy h k
  cases dy with
  | non =>
    cases hy
    have e : M.D.bl (M.isNon dx) = dz := by cases dx <;> exact Option.some.inj h
    subst e
    exact .inl ⟨rfl, by rw [is_non hx]; exact k.here f (.bl _)⟩
  | bl b =>
    cases dx <;> try (cases h; done)
    cases hx; cases hy; cases h
    refine .inr ⟨_, _, rfl, rfl, ?_⟩
    rw [← Bool.beq_eq_decide_eq]
    exact k.here f (.bl _)
  | _ => cases dx <;> cases h
theorem o_isnot : Op2 K M.pIsNot rIsNotU := by
  intro F H T fp x y dx dy dz Q f hx hy h k
  cases dy with
  | non =>
    cases hy
    have e : M.D.bl (!M.isNon dx) = dz := by cases dx <;> exact Option.some.inj h
    subst e
    exact .inl ⟨rfl, by rw [is_non hx]; exact k.here f (.bl _)⟩
  | bl b =>
    cases dx <;> try (cases h; done)
    cases hx; cases hy; cases h
    refine .inr ⟨_, _, rfl, rfl, ?_⟩
    rw [← Bool.beq_eq_decide_eq]
    exact k.here f (.bl _)
  | _ => cases dx <;> cases h

/-! ### items -/
theorem ati_eq {α : Type} (xs : List α) (i : Int) : M.ati xs i = atI xs i := rfl
theorem FzA.ati {F : Hp} {T : List Addr} {vs : List V} {ds : List M.D} {i : Int} {d : M.D} (h : FzA K F T vs ds) (e : M.ati ds i = some d) : ∃ v, atI vs i = some v ∧ Fz K F T v d := by
  unfold M.ati at e
  unfold atI
  rw [h.length]
  cases q : M.ixn ds.length i with
  | none => rw [q] at e; cases e
  | some j =>
    rw [q] at e
    obtain ⟨v, h1, h2⟩ := h.get (i := j) e
    have q' : ixN ds.length i = some j := q
    rw [q']
    exact ⟨v, h1, h2⟩
theorem o_ix : Op2 K M.pIx (rIx K) := by
  intro F H T fp x y dx dy dz Q f hx hy h k
  cases dx <;> cases dy <;> try (cases h; done)
  · obtain ⟨rfl, o1⟩ := hx.str_inv
    cases hy
    simp only [M.pIx] at h
    rename_i s i
    cases q : M.ati s i with
    | none => rw [q] at h; cases h
    | some c =>
      rw [q] at h
      cases h
      have hc : c ∈ s := by
        unfold M.ati at q
        cases q2 : M.ixn s.length i with
        | none => rw [q2] at q; cases q
        | some j => rw [q2] at q; exact List.mem_of_getElem? q
      exact .inr (.inr ⟨_, _, c, rfl, rfl, o1.len, q, k.here f (fz_ch (o1.1 c hc))⟩)
  · obtain ⟨a, vs, rfl, ha, za⟩ := hx.tup_inv
    cases hy
    obtain ⟨v, h1, h2⟩ := za.ati h
    exact .inr (.inl ⟨a, vs, _, v, rfl, rfl, seqT f.low ha, h1, k.here f h2⟩)
  · obtain ⟨a, vs, rfl, ha, za⟩ := hx.lst_inv
    cases hy
    obtain ⟨v, h1, h2⟩ := za.ati h
    exact .inl ⟨a, vs, _, v, rfl, rfl, SqL.of (f.low _ _ ha), h1, k.here f h2⟩
/-- a slice -/
def OpSl (K : PySem.W.Frag) (r : V → Option Int → Option Int → Hp → VK → Prop) : Prop := ∀ {F H : Hp} {T : List Addr} {fp : Fp} {x : V} {dx dz : M.D} {lo hi : Option Int} {Q : VK}, FpH F H fp → Fz K F T x dx → M.pSl dx lo hi = some dz → Grown K F T fp dz Q → r x lo hi H Q
theorem cut_mem {s : M.Tx} {lo hi : Option Int} : (∀ c ∈ M.cut s lo hi, c ∈ s) ∧ (M.cut s lo hi).length ≤ s.length := by
  unfold M.cut
  refine ⟨fun c hc => List.mem_of_mem_drop (List.mem_of_mem_take hc), ?_⟩
  rw [List.length_take, List.length_drop]
  omega
theorem o_sl : OpSl K (rSlU K) := by
  intro F H T fp x dx dz lo hi Q f hx h k
  cases dx <;> try (cases h; done)
  · obtain ⟨rfl, o1⟩ := hx.str_inv
    cases h
    refine .inr (.inl ⟨_, rfl, o1.len, ?_⟩)
    have e : cutS (sx ‹M.Tx›) lo hi = sx (M.cut ‹M.Tx› lo hi) := str_ext (by rw [cutG_S]; rfl)
    rw [e]
    exact k.here f (.str (o1.sub cut_mem.1 cut_mem.2))
  · obtain ⟨a, vs, rfl, ha, za⟩ := hx.tup_inv
    cases h
    refine .inr (.inr ⟨a, vs, rfl, seqT f.low ha, fun e => ?_, fun _ p hp => k.newT f za.cutV hp⟩)
    refine k.here f ?_
    have e2 : M.cut ‹List M.D› lo hi = ‹List M.D› := by
      unfold M.cut
      rw [← za.length]
      have e1 : M.six vs.length 0 lo = 0 := e.1
      have e3 : M.six vs.length vs.length hi = vs.length := e.2
      rw [e1, e3, List.drop_zero, Nat.sub_zero, za.length, List.take_length]
    rw [e2]
    exact .tup ha za
  · obtain ⟨a, vs, rfl, ha, za⟩ := hx.lst_inv
    cases h
    exact .inl ⟨a, vs, rfl, SqL.of (f.low _ _ ha), fun p hp => k.newL f za.cutV hp⟩
  · cases hx with
    | scr ha za =>
      cases h
      exact .inl ⟨_, _, rfl, Same.seq f.low ha, fun p hp => k.newL f za.cutV hp⟩
end
end S

/-! Expressions, by mirrors. -/
namespace S
open PySem PySem.Spec PyProof.Rows L2
section
variable {K : PySem.W.Frag} {F F' H H' : Hp} {T T' : List Addr} {fp fq fr : Fp} {ρ : M.PSt} {σ : St}
abbrev keys (fp : Fp) : List Addr := fp.map (·.1)
theorem FpH.sub (f : FpH F H fp) (hm : ∀ e ∈ fq, e ∈ fp) (hc : ∀ a, (keys fq).count a ≤ (keys fp).count a) : FpH F H fq := by
  refine ⟨f.low, fun e he => f.at_ e (hm e he), ?_⟩
  rw [List.nodup_iff_count]
  exact fun a => Nat.le_trans (hc a) (List.nodup_iff_count.mp f.nd a)
/-- a is a part of b, in some order -/
structure Part (a b : Fp) : Prop where
  m : ∀ e ∈ a, e ∈ b
  c : ∀ x, (keys a).count x ≤ (keys b).count x
theorem FpH.part (f : FpH F H fp) (p : Part fq fp) : FpH F H fq := f.sub p.m p.c
theorem Part.refl {a : Fp} : Part a a := ⟨fun _ h => h, fun _ => Nat.le_refl _⟩
theorem Part.trans {a b c : Fp} (p : Part a b) (q : Part b c) : Part a c := ⟨fun e h => q.m e (p.m e h), fun x => Nat.le_trans (p.c x) (q.c x)⟩
theorem Part.app {a b c d : Fp} (p : Part a b) (q : Part c d) : Part (a ++ c) (b ++ d) := by
  refine ⟨fun e h => ?_, fun x => ?_⟩
  · rcases List.mem_append.mp h with h | h
    · exact List.mem_append_left _ (p.m e h)
    · exact List.mem_append_right _ (q.m e h)
  · have := p.c x
    have := q.c x
    simp only [keys, List.map_append, List.count_append] at *
    omega
theorem Part.left {a b c : Fp} (p : Part a b) : Part a (b ++ c) := by
  refine ⟨fun e h => List.mem_append_left _ (p.m e h), fun x => ?_⟩
  have := p.c x
  simp only [keys, List.map_append, List.count_append] at *
  omega
theorem Part.right {a b c : Fp} (p : Part a c) : Part a (b ++ c) := by
  refine ⟨fun e h => List.mem_append_right _ (p.m e h), fun x => ?_⟩
  have := p.c x
  simp only [keys, List.map_append, List.count_append] at *
  omega
theorem Part.nil {b : Fp} : Part [] b := ⟨fun e h => (nomatch h), fun x => by simp [keys]⟩
local macro_rules | `(tactic| walk_at "parts") => `(tactic| (constructor; (intro e h; simp only [List.mem_append, List.mem_cons] at *; grind); (intro x; simp only [keys, List.map_append, List.map_cons, List.count_append, List.count_cons] at *; omega)))
theorem Part.swap {a b c : Fp} : Part (a ++ (b ++ c)) (b ++ (a ++ c)) := by walk_at "parts"

/-! ### slots -/
/-- the slot i, found and put back -/
theorem RpE.get {env : List (Option M.O)} {i : Nat} {o : M.O} (r : RpE K F T σ env fp) (h : env[i]? = some (some o)) : ∃ v f1 f2 f3, σ[i]? = some (some v) ∧ fp = f1 ++ (f2 ++ f3) ∧ Rp K F T v o f2 ∧
    RpE K F T σ (env.set i none) (f1 ++ f3) ∧ ∀ F' T' v' o' f2', Ext F T F' T' → Rp K F' T' v' o' f2' → RpE K F' T' (σ.set i (some v')) (env.set i (some o')) (f1 ++ (f2' ++ f3)) := by
  induction r generalizing i with
  | nil => cases h
  | off r ih =>
    cases i with
    | zero => cases h
    | succ i =>
      obtain ⟨v, f1, f2, f3, h1, rfl, h3, h4, h5⟩ := ih (i := i) h
      exact ⟨v, f1, f2, f3, h1, rfl, h3, .off h4, fun F' T' v' o' f2' e r' => .off (h5 F' T' v' o' f2' e r')⟩
  | @on v0 o0 σ env fa fb r0 r ih =>
    cases i with
    | zero =>
      have e : o0 = o := Option.some.inj (Option.some.inj h)
      subst e
      exact ⟨v0, [], fa, fb, rfl, rfl, r0, .off r, fun F' T' v' o' f2' e r' => (RpE.on r' (r.mono e) : RpE K F' T' _ _ (f2' ++ fb))⟩
    | succ i =>
      obtain ⟨v, f1, f2, f3, h1, rfl, h3, h4, h5⟩ := ih (i := i) h
      refine ⟨v, fa ++ f1, f2, f3, h1, by simp, h3, ?_, fun F' T' v' o' f2' e r' => ?_⟩
      · rw [List.append_assoc]; exact .on r0 h4
      · rw [List.append_assoc]; exact .on (r0.mono e) (h5 F' T' v' o' f2' e r')
theorem set_same {α : Type} : ∀ {l : List α} {i : Nat} {x : α}, l[i]? = some x → l.set i x = l
  | [], _, _, h => by cases h
  | a :: l, 0, x, h => by rw [← Option.some.inj h]; rfl
  | a :: l, i + 1, x, h => by
    show a :: l.set i x = a :: l
    rw [set_same (l := l) (i := i) h]
theorem RpE.len {env : List (Option M.O)} (r : RpE K F T σ env fp) : σ.length = env.length := by
  induction r with
  | nil => rfl
  | off _ ih => exact congrArg (· + 1) ih
  | on _ _ ih => exact congrArg (· + 1) ih
/-- a slot is emptied: in the world of data, or in both -/
theorem RpE.drop {env : List (Option M.O)} (r : RpE K F T σ env fp) (i : Nat) (x : Option V) : ∃ fq, RpE K F T (σ.set i x) (env.set i none) fq ∧ Part fq fp := by
  induction r generalizing i with
  | nil => exact ⟨[], .nil, .refl⟩
  | @off y σ env fp r ih =>
    cases i with
    | zero => exact ⟨_, .off r, .refl⟩
    | succ i =>
      obtain ⟨fq, h1, h2⟩ := ih i
      exact ⟨fq, .off h1, h2⟩
  | @on v0 o0 σ env fa fb r0 r ih =>
    cases i with
    | zero => exact ⟨_, .off r, .right .refl⟩
    | succ i =>
      obtain ⟨fq, h1, h2⟩ := ih i
      exact ⟨_, .on r0 h1, .app .refl h2⟩
theorem RpE.drop0 {env : List (Option M.O)} (r : RpE K F T σ env fp) (i : Nat) : ∃ fq, RpE K F T σ (env.set i none) fq ∧ Part fq fp := by
  induction r generalizing i with
  | nil => exact ⟨[], .nil, .refl⟩
  | @off y σ env fp r ih =>
    cases i with
    | zero => exact ⟨_, .off r, .refl⟩
    | succ i =>
      obtain ⟨fq, h1, h2⟩ := ih i
      exact ⟨fq, .off h1, h2⟩
  | @on v0 o0 σ env fa fb r0 r ih =>
    cases i with
    | zero => exact ⟨_, .off r, .right .refl⟩
    | succ i =>
      obtain ⟨fq, h1, h2⟩ := ih i
      exact ⟨_, .on r0 h1, .app .refl h2⟩
theorem RpE.put {env : List (Option M.O)} (r : RpE K F T σ env fp) {i : Nat} (hi : i < env.length) {v : V} {o : M.O} {f2 : Fp} (q : Rp K F T v o f2) :
    ∃ fq, RpE K F T (σ.set i (some v)) (env.set i (some o)) fq ∧ Part fq (fp ++ f2) := by
  induction r generalizing i with
  | nil => cases hi
  | @off y σ env fp r ih =>
    cases i with
    | zero => exact ⟨_, .on q r, by walk_at "parts"⟩
    | succ i =>
      obtain ⟨fq, h1, h2⟩ := ih (i := i) (Nat.lt_of_succ_lt_succ hi)
      exact ⟨fq, .off h1, h2⟩
  | @on v0 o0 σ env fa fb r0 r ih =>
    cases i with
    | zero => exact ⟨_, .on q r, by walk_at "parts"⟩
    | succ i =>
      obtain ⟨fq, h1, h2⟩ := ih (i := i) (Nat.lt_of_succ_lt_succ hi)
      refine ⟨_, .on r0 h1, ?_⟩
      rw [List.append_assoc]
      exact .app .refl h2
/-- put where the value stands already -/
theorem RpE.put0 {env : List (Option M.O)} (r : RpE K F T σ env fp) {i : Nat} {v : V} (hi : σ[i]? = some (some v)) {o : M.O} {f2 : Fp} (q : Rp K F T v o f2) :
    ∃ fq, RpE K F T σ (env.set i (some o)) fq ∧ Part fq (fp ++ f2) := by
  have hl : i < env.length := by rw [← r.len]; exact (List.getElem?_eq_some_iff.mp hi).1
  obtain ⟨fq, h1, h2⟩ := r.put hl q
  rw [set_same hi] at h1
  exact ⟨fq, h1, h2⟩

/-! ### what one holder knows becomes data -/
def addF (F : Hp) : Fp → Hp
  | [] => F
  | e :: r => upd (addF F r) e.1 e.2
theorem addF_not {a : Addr} : ∀ {fp : Fp}, a ∉ keys fp → addF F fp a = F a
  | [], _ => rfl
  | e :: r, h => by
    have h' : a ≠ e.1 ∧ a ∉ keys r := by simpa [keys] using h
    show upd (addF F r) e.1 e.2 a = F a
    rw [upd_ne h'.1, addF_not h'.2]
theorem addF_mem : ∀ {fp : Fp}, (keys fp).Nodup → ∀ e ∈ fp, addF F fp e.1 = some e.2
  | e :: r, h, e', he => by
    obtain ⟨h1, h2⟩ := List.nodup_cons.mp h
    show upd (addF F r) e.1 e.2 e'.1 = _
    rcases List.mem_cons.mp he with rfl | he
    · exact upd_same
    · rw [upd_ne fun z => h1 (by have q : e'.1 ∈ keys r := List.mem_map_of_mem he; rw [z] at q; exact q)]
      exact addF_mem h2 e' he
theorem addF_same {fp : Fp} (h : ∀ e ∈ fp, F e.1 = none) : Same F (addF F fp) := fun a o e => by
  rw [addF_not fun z => ?_]
  · exact e
  · obtain ⟨x, h1, h2⟩ := List.mem_map.mp z
    rw [← h2, h x h1] at e
    cases e
theorem FpH.freeze {a b : Fp} (f : FpH F H (a ++ b)) : FpH (addF F a) H b := by
  have nd : (keys a ++ keys b).Nodup := by rw [← List.map_append]; exact f.nd
  obtain ⟨n1, n2, n3⟩ := List.nodup_append.mp nd
  refine ⟨fun p o h => ?_, fun e he => ⟨(f.at_ e (List.mem_append_right _ he)).1, ?_⟩, n2⟩
  · by_cases hp : p ∈ keys a
    · obtain ⟨x, h1, rfl⟩ := List.mem_map.mp hp
      rw [addF_mem n1 x h1] at h
      rw [(f.at_ x (List.mem_append_left _ h1)).1]
      exact h
    · rw [addF_not hp] at h
      exact f.low _ _ h
  · rw [addF_not fun z => n3 _ z _ (List.mem_map_of_mem he) rfl]
    exact (f.at_ e (List.mem_append_right _ he)).2
mutual
theorem Rp.freeze {G : Hp} (s : Same F G) : ∀ {v : V} {o : M.O} {fp : Fp}, Rp K F T v o fp → (∀ e ∈ fp, G e.1 = some e.2) → Fz K G T v (M.frz o)
  | _, _, _, .fz h, _ => h.mono (.of s)
  | _, _, _, .lst r, g => .lst (g _ List.mem_cons_self) (RpA.freeze s r fun e he => g e (List.mem_cons_of_mem _ he))
  | _, _, _, .tup r, g => .tup (SqT.of (g _ List.mem_cons_self)) (RpA.freeze s r fun e he => g e (List.mem_cons_of_mem _ he))
  | _, _, _, .dct r, g => .dct (g _ List.mem_cons_self) (RpA.freeze s r fun e he => g e (List.mem_cons_of_mem _ he))
theorem RpA.freeze {G : Hp} (s : Same F G) : ∀ {vs : List V} {os : List M.O} {fp : Fp}, RpA K F T vs os fp → (∀ e ∈ fp, G e.1 = some e.2) → FzA K G T vs (M.frzs os)
  | _, _, _, .nil, _ => .nil
  | _, _, _, .cons h r, g => .cons (Rp.freeze s h fun e he => g e (List.mem_append_left _ he)) (RpA.freeze s r fun e he => g e (List.mem_append_right _ he))
end
/-- a value that one holder knows, beside the rest, becomes data -/
theorem Rp.frozen {v : V} {o : M.O} {a b : Fp} (q : Rp K F T v o a) (f : FpH F H (a ++ b)) : ∃ G, Same F G ∧ Fz K G T v (M.frz o) ∧ FpH G H b := by
  have s : Same F (addF F a) := addF_same fun e he => (f.at_ e (List.mem_append_left _ he)).2
  refine ⟨_, s, q.freeze s fun e he => addF_mem ?_ e he, f.freeze⟩
  have nd : (keys a ++ keys b).Nodup := by rw [← List.map_append]; exact f.nd
  exact (List.nodup_append.mp nd).1
theorem RpA.frozen {v : List V} {o : List M.O} {a b : Fp} (q : RpA K F T v o a) (f : FpH F H (a ++ b)) : ∃ G, Same F G ∧ FzA K G T v (M.frzs o) ∧ FpH G H b := by
  have s : Same F (addF F a) := addF_same fun e he => (f.at_ e (List.mem_append_left _ he)).2
  refine ⟨_, s, q.freeze s fun e he => addF_mem ?_ e he, f.freeze⟩
  have nd : (keys a ++ keys b).Nodup := by rw [← List.map_append]; exact f.nd
  exact (List.nodup_append.mp nd).1
/-- .. out of the frame -/
theorem Rel.frozen {v : V} {o : M.O} (r : Rel K ρ σ H F T (fp ++ fr)) (q : Rp K F T v o fp) : ∃ G, Same F G ∧ Fz K G T v (M.frz o) ∧ Rel K ρ σ H G T fr := by
  obtain ⟨fe, fw, re, rw, f⟩ := r
  have f' : FpH F H (fp ++ (fe ++ (fw ++ fr))) := f.part (by walk_at "parts")
  obtain ⟨G, s, z, f2⟩ := q.frozen f'
  exact ⟨G, s, z, fe, fw, re.mono (.of s), rw.mono (.of s), f2⟩
/-- the frame may be forgotten in part -/
theorem Rel.part {fr' : Fp} (r : Rel K ρ σ H F T fr) (p : Part fr' fr) : Rel K ρ σ H F T fr' := by
  obtain ⟨fe, fw, re, rw, f⟩ := r
  exact ⟨fe, fw, re, rw, f.part (.app .refl (.app .refl p))⟩
/-- a new object, known to its holder alone -/
theorem FpH.own {p : Addr} {o : HO} (f : FpH F H fp) (hp : H p = none) : FpH F (upd H p o) ((p, o) :: fp) := by
  have np : ∀ e ∈ fp, e.1 ≠ p := fun e he => ne_of_none (f.at_ e he).1 hp
  refine ⟨fun a u h => ?_, fun e he => ?_, ?_⟩
  · rw [upd_ne (ne_of_none (f.low _ _ h) hp)]; exact f.low _ _ h
  · rcases List.mem_cons.mp he with rfl | he
    · exact ⟨upd_same, f.free hp⟩
    · rw [upd_ne (np e he)]; exact f.at_ e he
  · refine List.nodup_cons.mpr ⟨fun h => ?_, f.nd⟩
    obtain ⟨x, h1, h2⟩ := List.mem_map.mp h
    exact np x h1 h2
/-- an object that one holder knows is changed -/
theorem FpH.write {p : Addr} {o o' : HO} {a b : Fp} (f : FpH F H (a ++ ((p, o) :: b))) : FpH F (upd H p o') (a ++ ((p, o') :: b)) := by
  have nd : (keys a ++ (p :: keys b)).Nodup := by
    have := f.nd
    simpa [keys] using this
  obtain ⟨n1, n2, n3⟩ := List.nodup_append.mp nd
  have hp : F p = none := (f.at_ (p, o) (by simp)).2
  refine ⟨fun x u h => ?_, fun e he => ?_, ?_⟩
  · rw [upd_ne (fun z => by rw [z, hp] at h; cases h)]; exact f.low _ _ h
  · rcases List.mem_append.mp he with h | h
    · rw [upd_ne (n3 _ (List.mem_map_of_mem h) _ List.mem_cons_self)]
      exact f.at_ e (List.mem_append_left _ h)
    · rcases List.mem_cons.mp h with rfl | h
      · exact ⟨upd_same, hp⟩
      · rw [upd_ne (fun z => (List.nodup_cons.mp n2).1 (by have q : e.1 ∈ keys b := List.mem_map_of_mem h; rw [z] at q; exact q))]
        exact f.at_ e (List.mem_append_right _ (List.mem_cons_of_mem _ h))
  · have e : (a ++ ((p, o') :: b)).map (·.1) = keys a ++ (p :: keys b) := by simp [keys]
    rw [e]
    exact nd
end

section
variable {X : Cx} {W : WX} {K : PySem.W.Frag} {pos : Pos}
/-! ### names and constants -/
theorem se_int {i j pos} : SE X W (.Constant (.int i) j pos) (M.eC (.int i)) := PE.imp pe_int fun σ H Q ⟨ρ, F, T, fr, rel, h⟩ => h _ _ _ _ .refl (.int i) rel
theorem se_bl {b j pos} : SE X W (.Constant (.bool b) j pos) (M.eC (.bl b)) := PE.imp pe_bl fun σ H Q ⟨ρ, F, T, fr, rel, h⟩ => h _ _ _ _ .refl (.bl b) rel
theorem se_non {j pos} : SE X W (.Constant .none j pos) (M.eC .non) := PE.imp pe_non fun σ H Q ⟨ρ, F, T, fr, rel, h⟩ => h _ _ _ _ .refl .non rel
def okTb (s : M.Tx) : Bool := s.all (fun c => decide (c < 1114112)) && decide (s.length ≤ 16777216)
theorem okT_of {s : M.Tx} (h : okTb s = true) : okT s := by
  unfold okTb at h
  rw [Bool.and_eq_true, List.all_eq_true] at h
  exact ⟨fun c hc => of_decide_eq_true (h.1 c hc), of_decide_eq_true h.2⟩
theorem se_str {x : Str} {j pos} (s : M.Tx) (hs : x = sx s) (ho : okTb s = true) : SE X W (.Constant (.str x) j pos) (M.eC (.str s)) := by
  subst hs
  exact PE.imp pe_str fun σ H Q ⟨ρ, F, T, fr, rel, h⟩ => h _ _ _ _ .refl (.str (okT_of ho)) rel
/-- a constant of the module, a def, a class: anything that stands for d -/
theorem se_c {e : Expr} {v : V} {d : M.D} (h : PE X e (tC v)) (z : ∀ F T, Fz X.K F T v d) : SE X W e (M.eC d) := PE.imp h fun σ H Q ⟨ρ, F, T, fr, rel, h⟩ => h _ _ _ _ .refl (z F T) rel
theorem v_read {i : Nat} {σ : St} {H : Hp} {Q : VK} (h : qE K W (M.eV i) σ H Q) : tVar i σ H Q := by
  obtain ⟨ρ, F, T, fr, rel, h⟩ := h
  unfold M.eV at h
  split at h
  · rename_i d e
    obtain ⟨fe, fw, re, rw, f⟩ := id rel
    obtain ⟨v, f1, f2, f3, h1, rfl, h3, h4, h5⟩ := re.get e
    cases h3 with
    | fz z => exact ⟨v, h1, h v H F T .refl z rel⟩
  · rename_i o _ e
    obtain ⟨fe, fw, re, rw, f⟩ := rel
    obtain ⟨v, f1, f2, f3, h1, rfl, h3, h4, h5⟩ := re.get e
    have f' : FpH F H (f2 ++ (f1 ++ f3 ++ (fw ++ fr))) := f.part (by refine ⟨fun e h => ?_, fun x => ?_⟩; (simp only [List.mem_append] at *; grind); (simp only [keys, List.map_append, List.count_append] at *; omega))
    obtain ⟨G, s, z, fG⟩ := h3.frozen f'
    have re' := h5 G T v (.fz (M.frz o)) [] (.of s) (.fz z)
    rw [set_same h1] at re'
    exact ⟨v, h1, h v H G T (.of s) z ⟨_, fw, re', rw.mono (.of s), by simpa using fG⟩⟩
  · exact h.elim
theorem se_v {e : Expr} {i : Nat} (h : PE X e (tVar i)) : SE X W e (M.eV i) := PE.imp h fun _ _ _ => v_read

/-! ### operations -/
variable {a b c : Expr} {ma mb mc : M.ME} {σ : St} {H : Hp} {Q : VK}
theorem op_read {f : M.D → M.D → Option M.D} {r : R2} (hf : Op2 K f r) (h : qE K W (M.eOp f ma mb) σ H Q) : tOp r (qE K W ma) (qE K W mb) σ H Q := by
  obtain ⟨ρ, F, T, fr, rel, h⟩ := h
  refine qE_bind rel h fun dx ρ1 v H1 F1 T1 e1 z1 r1 h1 => ?_
  refine qE_bind r1 h1 fun dy ρ2 u H2 F2 T2 e2 z2 r2 h2 => ?_
  obtain ⟨dz, ez, q⟩ := Post.ofO h2
  obtain ⟨fp, f2, back⟩ := r2.fp
  exact hf f2 (z1.mono e2) z2 ez fun v' H3 F3 s zz f3 => q v' H3 F3 T2 (e1.trans (e2.trans (.of s))) zz (back H3 F3 s f3)
theorem se_op {op : Operator} {f : M.D → M.D → Option M.D} {r : R2} (ho : OpR X (binaryOp op) r) (hf : Op2 X.K f r) (ha : SE X W a ma) (hb : SE X W b mb) : SE X W (.BinOp a op b pos) (M.eOp f ma mb) := PE.imp (pe_op ho ha hb) fun _ _ _ => op_read hf
theorem se_cmp {op : CmpOp} {f : M.D → M.D → Option M.D} {r : R2} (ho : OpR X (compareOp op) r) (hf : Op2 X.K f r) (hm : behindInMarks op b = false) (ha : SE X W a ma) (hb : SE X W b mb) : SE X W (.Compare a [op] [b] pos) (M.eOp f ma mb) := PE.imp (pe_cmpR ho ha hb hm) fun _ _ _ => op_read hf
theorem se_ix {f : M.D → M.D → Option M.D} {r : R2} (ho : IxR X r) (hf : Op2 X.K f r) (ha : SE X W a ma) (hb : SE X W b mb) (hs : PlainIx b) : SE X W (.Subscript a b pos) (M.eOp f ma mb) := PE.imp (pe_ix ho ha hb hs) fun _ _ _ => op_read hf
theorem un_read {f : M.D → Option M.D} {r : V → Hp → VK → Prop} (hf : Op1 K f r) (h : qE K W (M.eUn f ma) σ H Q) : tUn r (qE K W ma) σ H Q := by
  obtain ⟨ρ, F, T, fr, rel, h⟩ := h
  refine qE_bind rel h fun dx ρ1 v H1 F1 T1 e1 z1 r1 h1 => ?_
  obtain ⟨dz, ez, q⟩ := Post.ofO h1
  obtain ⟨fp, f2, back⟩ := r1.fp
  exact hf f2 z1 ez fun v' H3 F3 s zz f3 => q v' H3 F3 T1 (e1.trans (.of s)) zz (back H3 F3 s f3)
theorem se_un {op : UnaryOp} {f : M.D → Option M.D} {r : V → Hp → VK → Prop} (ho : UnR X (unaryOp op) r) (hf : Op1 X.K f r) (ha : SE X W a ma) : SE X W (.UnaryOp op a pos) (M.eUn f ma) := PE.imp (pe_un ho ha) fun _ _ _ => un_read hf
theorem Post.asB {d : M.D} {ρ : M.PSt} {P : Bool → M.PSt → Prop} {Y : Wx} (h : Post (M.asB d ρ) P Y) : ∃ b, d = .bl b ∧ P b ρ := by
  cases d <;> first | exact h.elim | exact ⟨_, rfl, h⟩
theorem chain_read {f g : M.D → M.D → Option M.D} {r r' : R2} (hf : Op2 K f r) (hg : Op2 K g r') (h : qE K W (M.eChain f g ma mb mc) σ H Q) : tChain r r' (qE K W ma) (qE K W mb) (qE K W mc) σ H Q := by
  obtain ⟨ρ, F, T, fr, rel, h⟩ := h
  refine qE_bind rel h fun dx ρ1 v H1 F1 T1 e1 z1 r1 h1 => ?_
  refine qE_bind r1 h1 fun dy ρ2 u H2 F2 T2 e2 z2 r2 h2 => ?_
  obtain ⟨dz, ez, h3⟩ := Post.ofO (Post.bind h2)
  obtain ⟨fp, f2, back⟩ := r2.fp
  refine hf f2 (z1.mono e2) z2 ez fun v' H3 F3 s zz f3 => ?_
  have h4 := Post.bind h3
  obtain ⟨k, rfl, h5⟩ := Post.asB h4
  refine ⟨k, zz.bl_inv, ?_⟩
  have r3 := back H3 F3 s f3
  cases k with
  | true =>
    rw [if_pos rfl] at h5 ⊢
    refine qE_bind r3 (h5.mono (fun _ _ z => z) fun _ _ z => z.mono (.of s)) fun dw ρ4 w' H4 F4 T4 e4 z4 r4 h6 => ?_
    obtain ⟨dz, ez, q⟩ := Post.ofO h6
    obtain ⟨fp, f4, back⟩ := r4.fp
    exact hg f4 ((z2.mono (.of s)).mono e4) z4 ez fun v' H5 F5 s5 zz f5 => q v' H5 F5 T4 (e1.trans (e2.trans ((Ext.of s).trans (e4.trans (.of s5))))) zz (back H5 F5 s5 f5)
  | false =>
    rw [if_neg Bool.false_ne_true] at h5 ⊢
    exact h5 _ H3 F3 T2 (e1.trans (e2.trans (.of s))) (.bl false) r3
theorem se_chain {op op' : CmpOp} {f g : M.D → M.D → Option M.D} {r r' : R2} (ho : OpR X (compareOp op) r) (hf : Op2 X.K f r) (ho' : OpR X (compareOp op') r') (hg : Op2 X.K g r') (ha : SE X W a ma) (hb : SE X W b mb) (hc : SE X W c mc)
    (hm : lastMarks [op, op'] [b, c] = false := by with_unfolding_all rfl) : SE X W (.Compare a [op, op'] [b, c] pos) (M.eChain f g ma mb mc) := PE.imp (pe_chain ho ho' ha hb hc hm) fun _ _ _ => chain_read hf hg

/-! ### and, or, not -/
variable {rest : List Expr}
theorem se_and (ha : SE X W a ma) (hb : SE X W (.BoolOp .And (b :: rest) pos) mb) : SE X W (.BoolOp .And (a :: b :: rest) pos) (M.eAnd ma mb) := PE.imp (pe_and ha hb) fun σ H Q ⟨ρ, F, T, fr, rel, h⟩ => by
  refine qE_bind rel h fun dx ρ1 v H1 F1 T1 e1 z1 r1 h1 => ?_
  obtain ⟨k, rfl, h2⟩ := Post.asB (Post.bind h1)
  refine ⟨k, z1.bl_inv, ?_⟩
  cases k with
  | true => rw [if_pos rfl] at h2 ⊢; exact ⟨ρ1, F1, T1, fr, r1, h2.mono (fun _ _ z v H' F' T' e => z v H' F' T' (e1.trans e)) fun _ _ z => z⟩
  | false => rw [if_neg Bool.false_ne_true] at h2 ⊢; exact h2 _ _ _ _ e1 (.bl false) r1
theorem se_or (ha : SE X W a ma) (hb : SE X W (.BoolOp .Or (b :: rest) pos) mb) : SE X W (.BoolOp .Or (a :: b :: rest) pos) (M.eOr ma mb) := PE.imp (pe_or ha hb) fun σ H Q ⟨ρ, F, T, fr, rel, h⟩ => by
  refine qE_bind rel h fun dx ρ1 v H1 F1 T1 e1 z1 r1 h1 => ?_
  obtain ⟨k, rfl, h2⟩ := Post.asB (Post.bind h1)
  refine ⟨k, z1.bl_inv, ?_⟩
  cases k with
  | true => rw [if_pos rfl] at h2 ⊢; exact h2 _ _ _ _ e1 (.bl true) r1
  | false => rw [if_neg Bool.false_ne_true] at h2 ⊢; exact ⟨ρ1, F1, T1, fr, r1, h2.mono (fun _ _ z v H' F' T' e => z v H' F' T' (e1.trans e)) fun _ _ z => z⟩
theorem se_one {op} (ha : SE X W a ma) : SE X W (.BoolOp op [a] pos) ma := pe_one ha
theorem se_not (ha : SE X W a ma) : SE X W (.UnaryOp .Not a pos) (M.eNot ma) := PE.imp (pe_not ha) fun σ H Q ⟨ρ, F, T, fr, rel, h⟩ => by
  refine qE_bind rel h fun dx ρ1 v H1 F1 T1 e1 z1 r1 h1 => ?_
  obtain ⟨k, rfl, h2⟩ := Post.asB (Post.bind h1)
  exact ⟨k, z1.bl_inv, h2 _ _ _ _ e1 (.bl _) r1⟩
variable {mt mu : M.MT}
theorem st_e (ha : SE X W a ma) (he : ∀ whole, isTrue a X.env whole = (do let v ← whole; standAt a.pos; holding [v] (truthy v)) := by intro _; rfl) : ST X W a (M.tE ma) := PT.imp (pt_val ha he) fun σ H Q ⟨ρ, F, T, fr, rel, h⟩ => by
  refine qE_bind rel h fun dx ρ1 v H1 F1 T1 e1 z1 r1 h1 => ?_
  obtain ⟨k, rfl, h2⟩ := Post.asB h1
  exact ⟨k, z1.bl_inv, h2 _ _ _ e1 r1⟩
theorem st_cmp {op : CmpOp} {f : M.D → M.D → Option M.D} {r : R2} (ho : OpR X (compareOp op) r) (hf : Op2 X.K f r) (hm : behindInMarks op b = false) (ha : SE X W a ma) (hb : SE X W b mb) : ST X W (.Compare a [op] [b] pos) (M.tE (M.eOp f ma mb)) :=
  PT.imp (pt_cmpR ho ha hb hm) fun σ H Q ⟨ρ, F, T, fr, rel, h⟩ => by
    show tOp r (qE X.K W ma) (qE X.K W mb) σ H fun x H' => ∃ k, x = .bl k ∧ Q k H'
    refine op_read hf ⟨ρ, F, T, fr, rel, (Post.bind h).mono (fun d ρ1 h1 v H1 F1 T1 e z r => ?_) fun _ _ z => z⟩
    obtain ⟨k, rfl, h2⟩ := Post.asB h1
    exact ⟨k, z.bl_inv, h2 _ _ _ e r⟩
theorem st_chain {op op' : CmpOp} {f g : M.D → M.D → Option M.D} {r r' : R2} (ho : OpR X (compareOp op) r) (hf : Op2 X.K f r) (ho' : OpR X (compareOp op') r') (hg : Op2 X.K g r') (ha : SE X W a ma) (hb : SE X W b mb) (hc : SE X W c mc)
    (hm : lastMarks [op, op'] [b, c] = false := by with_unfolding_all rfl) : ST X W (.Compare a [op, op'] [b, c] pos) (M.tE (M.eChain f g ma mb mc)) := PT.imp (pt_chain ho ho' ha hb hc hm) fun σ H Q ⟨ρ, F, T, fr, rel, h⟩ => by
    show tChain r r' (qE X.K W ma) (qE X.K W mb) (qE X.K W mc) σ H fun x H' => ∃ k, x = .bl k ∧ Q k H'
    refine chain_read hf hg ⟨ρ, F, T, fr, rel, (Post.bind h).mono (fun d ρ1 h1 v H1 F1 T1 e z r => ?_) fun _ _ z => z⟩
    obtain ⟨k, rfl, h2⟩ := Post.asB h1
    exact ⟨k, z.bl_inv, h2 _ _ _ e r⟩
abbrev SW (X : Cx) (W : WX) (e : Expr) (m : M.MT) : Prop := PW X e (qT X.K W m)
theorem sw_and1 (ha : ST X W a mt) : SW X W (.BoolOp .And [a] pos) mt := pw_and1 ha
theorem sw_or1 (ha : ST X W a mt) : SW X W (.BoolOp .Or [a] pos) mt := pw_or1 ha
theorem sw_and (ha : ST X W a mt) (hb : SW X W (.BoolOp .And (b :: rest) pos) mu) : SW X W (.BoolOp .And (a :: b :: rest) pos) (M.tAnd mt mu) := PW.imp (pw_and ha hb) fun σ H Q ⟨ρ, F, T, fr, rel, h⟩ => by
  refine qT_bind rel h fun k ρ1 H1 F1 T1 e1 r1 h1 => ?_
  cases k with
  | true => rw [if_pos rfl] at h1 ⊢; exact ⟨ρ1, F1, T1, fr, r1, h1.mono (fun _ _ z H' F' T' e => z H' F' T' (e1.trans e)) fun _ _ z => z⟩
  | false => rw [if_neg Bool.false_ne_true] at h1 ⊢; exact h1 _ _ _ e1 r1
theorem sw_or (ha : ST X W a mt) (hb : SW X W (.BoolOp .Or (b :: rest) pos) mu) : SW X W (.BoolOp .Or (a :: b :: rest) pos) (M.tOr mt mu) := PW.imp (pw_or ha hb) fun σ H Q ⟨ρ, F, T, fr, rel, h⟩ => by
  refine qT_bind rel h fun k ρ1 H1 F1 T1 e1 r1 h1 => ?_
  cases k with
  | true => rw [if_pos rfl] at h1 ⊢; exact h1 _ _ _ e1 r1
  | false => rw [if_neg Bool.false_ne_true] at h1 ⊢; exact ⟨ρ1, F1, T1, fr, r1, h1.mono (fun _ _ z H' F' T' e => z H' F' T' (e1.trans e)) fun _ _ z => z⟩
theorem st_w (h : SW X W a mt) : ST X W a mt := PW.pt h
theorem st_not (ha : ST X W a mt) : ST X W (.UnaryOp .Not a pos) (M.tNot mt) := PT.imp (pt_not ha) fun σ H Q ⟨ρ, F, T, fr, rel, h⟩ => qT_bind rel h fun k ρ1 H1 F1 T1 e1 r1 h1 => h1 _ _ _ e1 r1
theorem se_if (hc : ST X W c mt) (ha : SE X W a ma) (hb : SE X W b mb) : SE X W (.IfExp c a b pos) (M.eIf mt ma mb) := PE.imp (pe_ifExp hc ha hb) fun σ H Q ⟨ρ, F, T, fr, rel, h⟩ => by
  refine qT_bind rel h fun k ρ1 H1 F1 T1 e1 r1 h1 => ?_
  cases k with
  | true => rw [if_pos rfl] at h1 ⊢; exact ⟨ρ1, F1, T1, fr, r1, h1.mono (fun _ _ z v H' F' T' e => z v H' F' T' (e1.trans e)) fun _ _ z => z⟩
  | false => rw [if_neg Bool.false_ne_true] at h1 ⊢; exact ⟨ρ1, F1, T1, fr, r1, h1.mono (fun _ _ z v H' F' T' e => z v H' F' T' (e1.trans e)) fun _ _ z => z⟩

/-! ### displays, slices -/
variable {es : List Expr} {as : M.MA}
theorem sa_nil : SA X W [] M.aNil := PA.imp pa_nil fun σ H Q ⟨ρ, F, T, fr, rel, h⟩ => h [] H F T .refl .nil rel
theorem sa_cons (ha : SE X W a ma) (hr : SA X W es as) (hs : starEach (a :: es) X.env = (false, eval a X.env) :: starEach es X.env := by rfl) : SA X W (a :: es) (M.aCons ma as) := PA.imp (pa_cons ha hr hs) fun σ H Q ⟨ρ, F, T, fr, rel, h⟩ => by
  refine qE_bind rel h fun dx ρ1 v H1 F1 T1 e1 z1 r1 h1 => ?_
  refine qA_bind r1 h1 fun ds ρ2 vs H2 F2 T2 e2 z2 r2 h2 => ?_
  exact h2 _ _ _ _ (e1.trans e2) (.cons (z1.mono e2) z2) r2
theorem se_tup {k} (h : SA X W es as) : SE X W (.Tuple es k pos) (M.eTup as) := PE.imp (pe_tup h) fun σ H Q ⟨ρ, F, T, fr, rel, h⟩ => by
  refine qA_bind rel h fun ds ρ1 vs H1 F1 T1 e1 z1 r1 h1 => ?_
  split at h1
  · rename_i hl
    refine ⟨by rw [z1.length, line_eq]; exact hl, fun p hp => ?_⟩
    obtain ⟨fp, f, back⟩ := r1.fp
    have s : Same F1 (upd F1 p (.tup vs)) := same_new (f.free hp)
    exact h1 _ _ _ _ (e1.trans (.of s)) (.tup (SqT.of upd_same) (z1.mono (.of s))) (back _ _ s (f.new hp))
  · exact h1.elim
theorem se_lst (h : SA X W es as) : SE X W (.List es pos) (M.eLst as) := PE.imp (pe_lst h) fun σ H Q ⟨ρ, F, T, fr, rel, h⟩ => by
  refine qA_bind rel h fun ds ρ1 vs H1 F1 T1 e1 z1 r1 h1 => ?_
  split at h1
  · rename_i hl
    refine ⟨by rw [z1.length, line_eq]; exact hl, fun p hp => ?_⟩
    obtain ⟨fp, f, back⟩ := r1.fp
    have s : Same F1 (upd F1 p (.lst vs)) := same_new (f.free hp)
    exact h1 _ _ _ _ (e1.trans (.of s)) (.lst upd_same (z1.mono (.of s))) (back _ _ s (f.new hp))
  · exact h1.elim
abbrev SP_ (X : Cx) (W : WX) (e : Option Expr) (m : M.MP) : Prop := PO X e (qP X.K W m)
theorem sp_no : SP_ X W none M.pNo := PO.imp po_none fun σ H Q ⟨ρ, F, T, fr, rel, h⟩ => h _ _ _ .refl rel
theorem sp_so (ha : SE X W a ma) : SP_ X W (some a) (M.pSo ma) := PO.imp (po_some ha) fun σ H Q ⟨ρ, F, T, fr, rel, h⟩ => by
  refine qE_bind rel h fun dx ρ1 v H1 F1 T1 e1 z1 r1 h1 => ?_
  split at h1
  · exact ⟨_, z1.int_inv, h1 _ _ _ e1 r1⟩
  · exact h1.elim
theorem se_sl {r : V → Option Int → Option Int → Hp → VK → Prop} {lo hi : Option Expr} {ml mh : M.MP} {p2 : Pos} (ho : SlR X r) (hf : OpSl X.K r) (ha : SE X W a ma) (hl : SP_ X W lo ml) (hh : SP_ X W hi mh) : SE X W (.Subscript a (.Slice lo hi none p2) pos) (M.eSl ma ml mh) :=
  PE.imp (pe_slice ho ha hl hh) fun σ H Q ⟨ρ, F, T, fr, rel, h⟩ => by
    refine qE_bind rel h fun dx ρ1 v H1 F1 T1 e1 z1 r1 h1 => ?_
    refine qP_bind r1 h1 fun l ρ2 H2 F2 T2 e2 r2 h2 => ?_
    refine qP_bind r2 h2 fun u ρ3 H3 F3 T3 e3 r3 h3 => ?_
    obtain ⟨dz, ez, q⟩ := Post.ofO h3
    obtain ⟨fp, f3, back⟩ := r3.fp
    exact hf f3 ((z1.mono e2).mono e3) ez fun v' H4 F4 s zz f4 => q v' H4 F4 T3 (e1.trans (e2.trans (e3.trans (.of s)))) zz (back H4 F4 s f4)
end
end S

/-! Calls of built-ins; what is walked; targets; comprehensions. -/
namespace S
open PySem PySem.Spec PyProof.Rows L2
section
variable (K : PySem.W.Frag)
def Bi1 (f : M.D → Option M.D) (r : List V → Hp → VK → Prop) : Prop := ∀ {F H : Hp} {T : List Addr} {fp : Fp} {x : V} {dx dz : M.D} {Q : VK}, FpH F H fp → Fz K F T x dx → f dx = some dz → Grown K F T fp dz Q → r [x] H Q
def Bi2 (f : M.D → M.D → Option M.D) (r : List V → Hp → VK → Prop) : Prop := ∀ {F H : Hp} {T : List Addr} {fp : Fp} {x y : V} {dx dy dz : M.D} {Q : VK}, FpH F H fp → Fz K F T x dx → Fz K F T y dy → f dx dy = some dz → Grown K F T fp dz Q → r [x, y] H Q
end
section
variable {X : Cx} {W : WX} {K : PySem.W.Frag} {pos p : Pos} {x : Str} {id : String} {a b : Expr} {ma mb : M.ME} {σ : St} {H : Hp} {Q : VK} {r : List V → Hp → VK → Prop}
theorem b1_read {f : M.D → Option M.D} (hf : Bi1 K f r) (h : qE K W (M.eUn f ma) σ H Q) : tCB r (tCons (qE K W ma) tNil) σ H Q := by
  obtain ⟨ρ, F, T, fr, rel, h⟩ := h
  refine qE_bind rel h fun dx ρ1 v H1 F1 T1 e1 z1 r1 h1 => ?_
  obtain ⟨dz, ez, q⟩ := Post.ofO h1
  obtain ⟨fp, f2, back⟩ := r1.fp
  exact hf f2 z1 ez fun v' H3 F3 s zz f3 => q v' H3 F3 T1 (e1.trans (.of s)) zz (back H3 F3 s f3)
theorem b2_read {f : M.D → M.D → Option M.D} (hf : Bi2 K f r) (h : qE K W (M.eOp f ma mb) σ H Q) : tCB r (tCons (qE K W ma) (tCons (qE K W mb) tNil)) σ H Q := by
  obtain ⟨ρ, F, T, fr, rel, h⟩ := h
  refine qE_bind rel h fun dx ρ1 v H1 F1 T1 e1 z1 r1 h1 => ?_
  refine qE_bind r1 h1 fun dy ρ2 u H2 F2 T2 e2 z2 r2 h2 => ?_
  obtain ⟨dz, ez, q⟩ := Post.ofO h2
  obtain ⟨fp, f2, back⟩ := r2.fp
  exact hf f2 (z1.mono e2) z2 ez fun v' H3 F3 s zz f3 => q v' H3 F3 T2 (e1.trans (e2.trans (.of s))) zz (back H3 F3 s f3)
theorem se_b1 {f : M.D → Option M.D} (hc : CallR X (.builtin id) r) (hf : Bi1 X.K f r) (hg : Gl X x) (hm : X.mg x = none) (hv : bootBuiltins x = some (.builtin id)) (ha : SE X W a ma) (hn : x ≠ "__name__" := by decide) (hdb : (x == ("__debug__" : Str)) = false := by decide)
    (he : starEach [a] X.env = (false, eval a X.env) :: starEach [] X.env := by rfl) (hpl : (backTo pos (starEach [] X.env)).any (·.1) = false := by rfl) : SE X W (.Call (.Name x p) [a] [] pos) (M.eUn f ma) := PE.imp (pe_callB hc hg hm hv (pa_cons ha pa_nil he) hn hdb he hpl) fun _ _ _ => b1_read hf
theorem se_t1 {f : M.D → Option M.D} (hc : CallR X (.type id) r) (hf : Bi1 X.K f r) (hg : Gl X x) (hm : X.mg x = none) (hv : bootBuiltins x = some (.type id)) (ha : SE X W a ma) (hn : x ≠ "__name__" := by decide) (hdb : (x == ("__debug__" : Str)) = false := by decide)
    (he : starEach [a] X.env = (false, eval a X.env) :: starEach [] X.env := by rfl) (hpl : (backTo pos (starEach [] X.env)).any (·.1) = false := by rfl) : SE X W (.Call (.Name x p) [a] [] pos) (M.eUn f ma) := PE.imp (pe_callTy hc hg hm hv (pa_cons ha pa_nil he) hn hdb he hpl) fun _ _ _ => b1_read hf
theorem se_b2 {f : M.D → M.D → Option M.D} (hc : CallR X (.builtin id) r) (hf : Bi2 X.K f r) (hg : Gl X x) (hm : X.mg x = none) (hv : bootBuiltins x = some (.builtin id)) (ha : SE X W a ma) (hb : SE X W b mb) (hn : x ≠ "__name__" := by decide) (hdb : (x == ("__debug__" : Str)) = false := by decide)
    (he : starEach [a, b] X.env = (false, eval a X.env) :: starEach [b] X.env := by rfl) (he2 : starEach [b] X.env = (false, eval b X.env) :: starEach [] X.env := by rfl) (hpl : (backTo pos (starEach [b] X.env)).any (·.1) = false := by rfl) : SE X W (.Call (.Name x p) [a, b] [] pos) (M.eOp f ma mb) := PE.imp (pe_callB hc hg hm hv (pa_cons ha (pa_cons hb pa_nil he2) he) hn hdb he hpl) fun _ _ _ => b2_read hf

/-! the rules by data -/
theorem c_len : Bi1 K M.pLen (rLenU K) := by
  intro F H T fp x dx dz Q f hx h k
  cases dx <;> try (cases h; done)
  · obtain ⟨rfl, o1⟩ := hx.str_inv
    cases h
    refine .inl ⟨_, rfl, o1.len, ?_⟩
    rw [sx_len]
    exact k.here f (.int _)
  · obtain ⟨a, vs, rfl, ha, za⟩ := hx.tup_inv
    cases h
    refine .inr (.inl ⟨a, vs, rfl, .inr (seqT f.low ha), ?_⟩)
    rw [za.length]
    exact k.here f (.int _)
  · obtain ⟨a, vs, rfl, ha, za⟩ := hx.lst_inv
    cases h
    refine .inr (.inl ⟨a, vs, rfl, .inl (SqL.of (f.low _ _ ha)), ?_⟩)
    rw [za.length]
    exact k.here f (.int _)
  · cases hx with
    | dct ha za =>
      cases h
      refine .inr (.inr ⟨_, _, rfl, f.low _ _ ha, ?_⟩)
      refine k.here f ?_
      rw [List.length_map]
      exact .int _
theorem bools_inv {F : Hp} {T : List Addr} : ∀ {vs : List V} {ds : List M.D} {bs : List Bool}, FzA K F T vs ds → M.bools ds = some bs → vs = bs.map V.bl
  | _, _, bs, .nil, h => by cases h; rfl
  | _, d :: ds, bs, .cons a r, h => by
    cases d <;> try (cases h; done)
    rename_i b
    cases q : M.bools ds with
    | none => simp only [M.bools, q] at h; cases h
    | some cs =>
      simp only [M.bools, q, Option.map_some] at h
      cases h
      rw [a.bl_inv, bools_inv r q]
      rfl
theorem c_all : Bi1 K M.pAll (rAll K) := by
  intro F H T fp x dx dz Q f hx h k
  cases dx <;> try (cases h; done)
  obtain ⟨a, vs, rfl, ha, za⟩ := hx.lst_inv
  rename_i ds
  cases q : M.bools ds with
  | none => simp only [M.pAll, q] at h; cases h
  | some bs =>
    simp only [M.pAll, q, Option.map_some] at h
    cases h
    exact ⟨a, bs, rfl, by rw [← bools_inv za q]; exact SqL.of (f.low _ _ ha), k.here f (.bl _)⟩
theorem c_any : Bi1 K M.pAny (rAny K) := by
  intro F H T fp x dx dz Q f hx h k
  cases dx <;> try (cases h; done)
  obtain ⟨a, vs, rfl, ha, za⟩ := hx.lst_inv
  rename_i ds
  cases q : M.bools ds with
  | none => simp only [M.pAny, q] at h; cases h
  | some bs =>
    simp only [M.pAny, q, Option.map_some] at h
    cases h
    exact ⟨a, bs, rfl, by rw [← bools_inv za q]; exact SqL.of (f.low _ _ ha), k.here f (.bl _)⟩
theorem c_int : Bi1 K M.pInt rInt1 := by
  intro F H T fp x dx dz Q f hx h k
  cases dx <;> try (cases h; done)
  · cases hx; cases h
    exact .inr ⟨_, rfl, k.here f (.int _)⟩
  · cases hx; cases h
    exact .inl ⟨_, rfl, k.here f (.int _)⟩
theorem c_abs : Bi1 K M.pAbs rAbs1 := by
  intro F H T fp x dx dz Q f hx h k
  cases dx <;> try (cases h; done)
  cases hx; cases h
  exact ⟨_, rfl, k.here f (.int _)⟩
theorem c_max2 : Bi2 K M.pMax2 rMax2 := by
  intro F H T fp x y dx dy dz Q f hx hy h k
  cases dx <;> cases dy <;> try (cases h; done)
  cases hx; cases hy; cases h
  exact ⟨_, _, rfl, k.here f (.int _)⟩
theorem c_min2 : Bi2 K M.pMin2 rMin2 := by
  intro F H T fp x y dx dy dz Q f hx hy h k
  cases dx <;> cases dy <;> try (cases h; done)
  cases hx; cases hy; cases h
  exact ⟨_, _, rfl, k.here f (.int _)⟩
theorem c_tuple : Bi1 K M.pTuple (rTupleU K) := by
  intro F H T fp x dx dz Q f hx h k
  cases dx <;> try (cases h; done)
  · obtain ⟨a, vs, rfl, ha, za⟩ := hx.tup_inv
    cases h
    exact ⟨a, vs, rfl, .inr ⟨seqT f.low ha, k.here f (.tup ha za)⟩⟩
  · obtain ⟨a, vs, rfl, ha, za⟩ := hx.lst_inv
    cases h
    exact ⟨a, vs, rfl, .inl ⟨SqL.of (f.low _ _ ha), fun l hl => k.newT f za hl⟩⟩
theorem c_list : Bi1 K M.pListB (rListU K) := by
  intro F H T fp x dx dz Q f hx h k
  cases dx <;> try (cases h; done)
  · obtain ⟨a, vs, rfl, ha, za⟩ := hx.tup_inv
    cases h
    exact ⟨a, vs, rfl, .inr (seqT f.low ha), fun l hl => k.newL f za hl⟩
  · obtain ⟨a, vs, rfl, ha, za⟩ := hx.lst_inv
    cases h
    exact ⟨a, vs, rfl, .inl (SqL.of (f.low _ _ ha)), fun l hl => k.newL f za hl⟩
theorem tyx_of {F H : Hp} {T : List Addr} {v : V} {d : M.D} {n : String} (s : Same F H) (h : Fz K F T v d) (e : M.tyn d = some n) : TyX K H v (.type n) := by
  cases h with
  | non => cases e; exact .base .non
  | bl b => cases e; exact .base (.bl b)
  | int i => cases e; exact .base (.int i)
  | str z => cases e; exact .base (.str _)
  | lst h1 _ => cases e; exact tyL (SqL.of (s _ _ h1))
  | tup h1 _ => cases e; exact tyT (seqT s h1)
  | dct h1 _ => cases e; exact .base (.dK (s _ _ h1))
  | obj _ => cases e
  | ty _ => cases e
  | fn _ => cases e
  | scr _ _ => cases e
theorem kit_all : ∀ n ∈ ["NoneType", "bool", "int", "str", "tuple", "list", "dict"], ∀ t ∈ ["bool", "int", "str", "tuple", "list", "dict"], kitB n t = some (n == t || (n == "bool" && t == "int")) := by decide +kernel
theorem tyn_mem {d : M.D} {n : String} (e : M.tyn d = some n) : n ∈ ["NoneType", "bool", "int", "str", "tuple", "list", "dict"] := by
  cases d <;> first | (cases e; done) | (cases e; decide)
theorem c_isi {t : String} (ht : t ∈ ["bool", "int", "str", "tuple", "list", "dict"]) : Bi2 K (fun d e => match e with | .ty u => if u = t then M.pIsi d (.ty t) else none | _ => none) (rIsi K) := by
  intro F H T fp x y dx dy dz Q f hx hy h k
  cases dy <;> try (cases h; done)
  rename_i u
  by_cases e : u = t
  · subst e
    simp only [if_pos] at h
    cases hy
    cases q : M.tyn dx with
    | none => simp only [M.pIsi, q] at h; cases h
    | some n =>
      simp only [M.pIsi, q, Option.map_some] at h
      cases h
      exact w_isi (tyx_of f.low hx q) (kit_ty (kit_all n (tyn_mem q) u ht)) (k.here f (.bl _))
  · simp only [if_neg e] at h; cases h

/-! ### what is walked -/
/-- the turns give the items, while what stands in F stays -/
def ItOk (K : PySem.W.Frag) (J : It) (ds : List M.D) (F : Hp) (T : List Addr) : Prop := ∀ F' T' H' fp i, Ext F T F' T' → FpH F' H' fp → i ≤ ds.length →
  (i = ds.length → J.stop i H') ∧ ∀ d, ds[i]? = some d → J.go i H' ∧ ∀ x H2, J.yld i H' x H2 → ∃ F2, Same F' F2 ∧ Fz K F2 T' x d ∧ FpH F2 H2 fp
theorem ItOk.mono {J : It} {ds : List M.D} {F F' : Hp} {T T' : List Addr} (h : ItOk K J ds F T) (e : Ext F T F' T') : ItOk K J ds F' T' := fun F2 T2 H2 fp i e2 => h F2 T2 H2 fp i (e.trans e2)
def qI (K : PySem.W.Frag) (W : WX) (m : M.MI) : TI := fun σ H R => ∃ ρ F T fr, Rel K ρ σ H F T fr ∧
  Post (m ρ) (fun ds ρ' => ∀ J H' F' T', Ext F T F' T' → ItOk K J ds F' T' → Rel K ρ' σ H' F' T' fr → R J H') (EX K W σ F T fr)
abbrev SI (X : Cx) (W : WX) (tg e : Expr) (m : M.MI) : Prop := PI X tg e (qI X.K W m)
theorem PI.imp {tg e : Expr} {t t' : TI} (h : PI X tg e t) (i : ∀ σ H Q, t' σ H Q → t σ H Q) : PI X tg e t' := ⟨fun pins s σ H Q I q => h.run pins s σ H Q I (i σ H Q q)⟩
theorem it_list {a : Addr} {vs : List V} {ds : List M.D} {F : Hp} {T : List Addr} (ha : F a = some (.lst vs)) (z : FzA K F T vs ds) : ItOk K (Itl K a) ds F T := fun F' T' H' fp i e f hi => by
  have h' : SqL K H' a vs := SqL.of (f.low _ _ (e.f _ _ ha))
  refine ⟨fun q => ⟨vs, h', by rw [z.length]; omega⟩, fun d hd => ?_⟩
  obtain ⟨v, h1, h2⟩ := z.get hd
  refine ⟨⟨vs, v, h', h1⟩, fun x H2 y => ?_⟩
  obtain ⟨rfl, y⟩ := y
  have := y vs h'
  rw [h1] at this
  cases this
  exact ⟨F', fun _ _ e => e, h2.mono e, f⟩
theorem it_tup {a : Addr} {vs : List V} {ds : List M.D} {F : Hp} {T : List Addr} (ha : SqT K F a vs) (z : FzA K F T vs ds) : ItOk K (Itt K a) ds F T := fun F' T' H' fp i e f hi => by
  have h' : SqT K H' a vs := seqT f.low (seqT e.f ha)
  refine ⟨fun q => ⟨vs, h', by rw [z.length]; omega⟩, fun d hd => ?_⟩
  obtain ⟨v, h1, h2⟩ := z.get hd
  refine ⟨⟨vs, v, h', h1⟩, fun x H2 y => ?_⟩
  obtain ⟨rfl, y⟩ := y
  have := y vs h'
  rw [h1] at this
  cases this
  exact ⟨F', fun _ _ e => e, h2.mono e, f⟩
theorem sx_get (s : M.Tx) (i : Nat) : (sx s).cps[i]? = s[i]? := by simp [sx]
theorem it_str {s : M.Tx} {F : Hp} {T : List Addr} (o : okT s) : ItOk K (Its (sx s)) (s.map M.chD) F T := fun F' T' H' fp i e f hi => by
  have el : (sx s).cps.size = s.length := sx_len s
  rw [List.length_map] at hi ⊢
  refine ⟨fun q => by show (sx s).cps.size ≤ i; omega, fun d hd => ?_⟩
  rw [List.getElem?_map] at hd
  cases q : s[i]? with
  | none => rw [q] at hd; cases hd
  | some c =>
    rw [q] at hd
    cases hd
    refine ⟨by show i < (sx s).cps.size; have := (List.getElem?_eq_some_iff.mp q).1; omega, fun x H2 y => ?_⟩
    obtain ⟨rfl, c', h1, rfl⟩ := y
    rw [sx_get, q] at h1
    cases h1
    exact ⟨F', fun _ _ e => e, fz_ch (o.1 c (List.mem_of_getElem? q)), f⟩
theorem it_rng {lo : Int} {n : Nat} {F : Hp} {T : List Addr} : ItOk K (Itr lo n) (M.rgI lo n) F T := fun F' T' H' fp i e f hi => by
  unfold M.rgI at hi ⊢
  rw [List.length_map, List.length_range] at hi ⊢
  refine ⟨fun q => by show n ≤ i; omega, fun d hd => ?_⟩
  rw [List.getElem?_map] at hd
  by_cases h : i < n
  · rw [List.getElem?_range h] at hd
    cases hd
    refine ⟨h, fun x H2 y => ?_⟩
    obtain ⟨rfl, rfl⟩ := y
    exact ⟨F', fun _ _ e => e, .int _, f⟩
  · rw [List.getElem?_eq_none (by rw [List.length_range]; omega)] at hd
    cases hd
theorem pi_seq {tg e : Expr} {te : TE} (h : PE X e te) : PI X tg e (fun σ H R => iStr te σ H R ∨ iList X.K te σ H R ∨ iTup X.K te σ H R) := pi_or (pi_str h) (pi_or (pi_list h) (pi_tup h))
theorem qE_of {m : M.ME} {ρ ρ1 : M.PSt} {F : Hp} {T : List Addr} {fr : Fp} {d : M.D} (rel : Rel K ρ σ H F T fr) (em : m ρ = .ok d ρ1) (h : ∀ v H' F' T', Ext F T F' T' → Fz K F' T' v d → Rel K ρ1 σ H' F' T' fr → Q v H') : qE K W m σ H Q :=
  ⟨ρ, F, T, fr, rel, by rw [em]; exact h⟩
theorem si_seq {tg : Expr} (h : SE X W a ma) : SI X W tg a (M.iSeq ma) := PI.imp (pi_seq h) fun σ H R ⟨ρ, F, T, fr, rel, q⟩ => by
  have q2 := Post.bind q
  cases em : ma ρ with
  | bad => rw [em] at q2; exact q2.elim
  | exc x ρ1 =>
    rw [em] at q2
    exact .inl ⟨ρ, F, T, fr, rel, by rw [em]; exact q2⟩
  | ok d ρ1 =>
    rw [em] at q2
    obtain ⟨ds, e1, q3⟩ := Post.ofO (show Post _ _ _ from q2)
    cases d <;> try (cases e1; done)
    · cases e1
      refine .inl (qE_of rel em fun v H' F' T' e z r => ?_)
      obtain ⟨rfl, o⟩ := z.str_inv
      exact ⟨_, rfl, q3 _ _ _ _ e (it_str o) r⟩
    · cases e1
      refine .inr (.inr (qE_of rel em fun v H' F' T' e z r => ?_))
      obtain ⟨p, vs, rfl, ha, za⟩ := z.tup_inv
      obtain ⟨fp, f, _⟩ := r.fp
      exact ⟨p, rfl, ⟨vs, seqT f.low ha⟩, q3 _ _ _ _ e (it_tup ha za) r⟩
    · cases e1
      refine .inr (.inl (qE_of rel em fun v H' F' T' e z r => ?_))
      obtain ⟨p, vs, rfl, ha, za⟩ := z.lst_inv
      obtain ⟨fp, f, _⟩ := r.fp
      exact ⟨p, rfl, ⟨vs, SqL.of (f.low _ _ ha)⟩, q3 _ _ _ _ e (it_list ha za) r⟩
theorem bd_of {i : Int} (h : M.bd62 i = true) : -(2 ^ 62) ≤ i ∧ i < 2 ^ 62 := by
  unfold M.bd62 at h
  simpa [Bool.and_eq_true] using h
theorem si_range1 {tg : Expr} (hg : Gl X "range") (hm : X.mg "range" = none) (ha : SE X W a ma) (hs : starEach [a] X.env = [(false, eval a X.env)] := by rfl) : SI X W tg (.Call (.Name "range" p) [a] [] pos) (M.iRange1 ma) :=
  PI.imp (pi_range1 hg hm (pa_cons ha pa_nil hs) hs) fun σ H R ⟨ρ, F, T, fr, rel, q⟩ => by
    refine qE_bind rel q fun dx ρ1 v H1 F1 T1 e1 z1 r1 h1 => ?_
    obtain ⟨ds, e2, q2⟩ := Post.ofO h1
    unfold M.pRange1 at e2
    split at e2
    · split at e2
      · rename_i hb
        cases e2
        cases z1
        obtain ⟨b1, b2⟩ := bd_of hb
        exact ⟨_, rfl, b1, b2, q2 _ _ _ _ e1 it_rng r1⟩
      · cases e2
    · cases e2
theorem si_range2 {tg : Expr} (hg : Gl X "range") (hm : X.mg "range" = none) (ha : SE X W a ma) (hb : SE X W b mb) (hs : starEach [a, b] X.env = [(false, eval a X.env), (false, eval b X.env)] := by rfl) (hs2 : starEach [b] X.env = [(false, eval b X.env)] := by rfl) :
    SI X W tg (.Call (.Name "range" p) [a, b] [] pos) (M.iRange2 ma mb) :=
  PI.imp (pi_range2 hg hm (pa_cons ha (pa_cons hb pa_nil hs2) (hs.trans (by rw [hs2]))) hs hs2) fun σ H R ⟨ρ, F, T, fr, rel, q⟩ => by
    refine qE_bind rel q fun dx ρ1 v H1 F1 T1 e1 z1 r1 h1 => ?_
    refine qE_bind r1 h1 fun dy ρ2 u H2 F2 T2 e2 z2 r2 h2 => ?_
    obtain ⟨ds, e3, q2⟩ := Post.ofO h2
    unfold M.pRange2 at e3
    split at e3
    · split at e3
      · rename_i hb
        cases e3
        cases z1
        cases z2
        obtain ⟨b1, b2⟩ := bd_of hb.1
        obtain ⟨b3, b4⟩ := bd_of hb.2
        exact ⟨_, _, rfl, ⟨b1, b2, b3, b4⟩, q2 _ _ _ _ (e1.trans e2) it_rng r2⟩
      · cases e3
    · cases e3
theorem zipD_len : ∀ (a b : List M.D), (M.zipD a b).length = min a.length b.length
  | [], _ => by simp [M.zipD]
  | _ :: _, [] => by simp [M.zipD]
  | x :: a, y :: b => by
    show (M.zipD a b).length + 1 = _
    rw [zipD_len a b]
    simp only [List.length_cons]
    omega
theorem zipD_get : ∀ (a b : List M.D) (i : Nat) (d : M.D), (M.zipD a b)[i]? = some d → ∃ x y, a[i]? = some x ∧ b[i]? = some y ∧ d = .tup [x, y]
  | [], _, i, d, h => by simp [M.zipD] at h
  | _ :: _, [], i, d, h => by simp [M.zipD] at h
  | x :: a, y :: b, 0, d, h => ⟨x, y, rfl, rfl, (Option.some.inj h).symm⟩
  | x :: a, y :: b, i + 1, d, h => zipD_get a b i d h
theorem it_pair {J : It} {as bs : List M.D} {F : Hp} {T : List Addr} (hs : ∀ F' T' H' fp i, Ext F T F' T' → FpH F' H' fp → i = min as.length bs.length → J.stop i H')
    (hy : ∀ F' T' H' fp i dx dy, Ext F T F' T' → FpH F' H' fp → as[i]? = some dx → bs[i]? = some dy → J.go i H' ∧ ∀ v H2, J.yld i H' v H2 → ∃ p x y, v = .ref p ∧ H' p = none ∧ H2 = upd H' p (.tup [x, y]) ∧ Fz K F' T' x dx ∧ Fz K F' T' y dy) : ItOk K J (M.zipD as bs) F T := fun F' T' H' fp i e f hi => by
  rw [zipD_len] at hi ⊢
  refine ⟨fun q => hs F' T' H' fp i e f q, fun d hd => ?_⟩
  obtain ⟨dx, dy, h1, h2, rfl⟩ := zipD_get _ _ _ _ hd
  obtain ⟨g, y⟩ := hy F' T' H' fp i dx dy e f h1 h2
  refine ⟨g, fun v H2 q => ?_⟩
  obtain ⟨p, x, y', rfl, hp, rfl, zx, zy⟩ := y v H2 q
  have s : Same F' (upd F' p (.tup [x, y'])) := same_new (f.free hp)
  exact ⟨_, s, .tup (SqT.of upd_same) (.cons (zx.mono (.of s)) (.cons (zy.mono (.of s)) .nil)), f.new hp⟩
theorem it_zipS {s t : M.Tx} {F : Hp} {T : List Addr} (o : okT s) (o2 : okT t) : ItOk K (ItP (chS (sx s)) (chS (sx t)) (min (sx s).cps.size (sx t).cps.size)) (M.zipD (s.map M.chD) (t.map M.chD)) F T := by
  have e1 : (sx s).cps.size = s.length := sx_len s
  have e2 : (sx t).cps.size = t.length := sx_len t
  refine it_pair (fun F' T' H' fp i e f hi => ?_) fun F' T' H' fp i dx dy e f h1 h2 => ?_
  · rw [List.length_map, List.length_map] at hi
    show i = min (sx s).cps.size (sx t).cps.size
    omega
  · rw [List.getElem?_map] at h1 h2
    cases q1 : s[i]? with
    | none => rw [q1] at h1; cases h1
    | some c =>
      cases q2 : t[i]? with
      | none => rw [q2] at h2; cases h2
      | some d =>
        rw [q1] at h1
        rw [q2] at h2
        cases h1
        cases h2
        have l1 := (List.getElem?_eq_some_iff.mp q1).1
        have l2 := (List.getElem?_eq_some_iff.mp q2).1
        refine ⟨by show i < min (sx s).cps.size (sx t).cps.size; omega, fun v H2 y => ?_⟩
        obtain ⟨p, x, y', rfl, hp, rfl, c1, c2⟩ := y
        unfold chS at c1 c2
        rw [sx_cps, q1] at c1
        rw [sx_cps, q2] at c2
        cases c1
        cases c2
        exact ⟨p, _, _, rfl, hp, rfl, fz_ch (o.1 c (List.mem_of_getElem? q1)), fz_ch (o2.1 d (List.mem_of_getElem? q2))⟩
theorem it_zipL {a b : Addr} {vs ws : List V} {ds es : List M.D} {F : Hp} {T : List Addr} (ha : F a = some (.lst vs)) (z : FzA K F T vs ds) (hb : F b = some (.lst ws)) (z2 : FzA K F T ws es) : ItOk K (Itz K a b) (M.zipD ds es) F T := by
  refine it_pair (fun F' T' H' fp i e f hi => ?_) fun F' T' H' fp i dx dy e f h1 h2 => ?_
  · exact ⟨vs, ws, SqL.of (f.low _ _ (e.f _ _ ha)), SqL.of (f.low _ _ (e.f _ _ hb)), by rw [z.length, z2.length]; omega⟩
  · obtain ⟨x, x1, x2⟩ := z.get h1
    obtain ⟨y, y1, y2⟩ := z2.get h2
    have a1 : SqL K H' a vs := SqL.of (f.low _ _ (e.f _ _ ha))
    have b1 : SqL K H' b ws := SqL.of (f.low _ _ (e.f _ _ hb))
    refine ⟨⟨vs, ws, x, y, a1, b1, x1, y1⟩, fun v H2 q => ?_⟩
    obtain ⟨p, x', y', rfl, hp, rfl, q1, q2⟩ := q
    have := q1 vs a1
    rw [x1] at this
    cases this
    have := q2 ws b1
    rw [y1] at this
    cases this
    exact ⟨p, _, _, rfl, hp, rfl, x2.mono e, y2.mono e⟩
theorem it_zipT {a b : Addr} {vs ws : List V} {ds es : List M.D} {F : Hp} {T : List Addr} (ha : SqT K F a vs) (z : FzA K F T vs ds) (hb : SqT K F b ws) (z2 : FzA K F T ws es) : ItOk K (RZ.ItzT K a b) (M.zipD ds es) F T := by
  refine it_pair (fun F' T' H' fp i e f hi => ?_) fun F' T' H' fp i dx dy e f h1 h2 => ?_
  · exact ⟨vs, ws, seqT f.low (seqT e.f ha), seqT f.low (seqT e.f hb), by rw [z.length, z2.length]; omega⟩
  · obtain ⟨x, x1, x2⟩ := z.get h1
    obtain ⟨y, y1, y2⟩ := z2.get h2
    have a1 : SqT K H' a vs := seqT f.low (seqT e.f ha)
    have b1 : SqT K H' b ws := seqT f.low (seqT e.f hb)
    refine ⟨⟨vs, ws, x, y, a1, b1, x1, y1⟩, fun v H2 q => ?_⟩
    obtain ⟨p, x', y', rfl, hp, rfl, q1, q2⟩ := q
    have := q1 vs a1
    rw [x1] at this
    cases this
    have := q2 ws b1
    rw [y1] at this
    cases this
    exact ⟨p, _, _, rfl, hp, rfl, x2.mono e, y2.mono e⟩
theorem zipB_eq {x y : M.D} {ds : List M.D} (h : M.zipB x y = some ds) : M.pZip x y = some ds := by
  unfold M.zipB at h
  split at h <;> first | exact h | cases h
theorem si_zip {elts : List Expr} {kk : Nat} {tpos : Pos} (hg : Gl X "zip") (hm : X.mg "zip" = none) (ha : SE X W a ma) (hb : SE X W b mb)
    (hs : starEach [a, b] X.env = (false, eval a X.env) :: starEach [b] X.env := by rfl) (hs2 : starEach [b] X.env = (false, eval b X.env) :: starEach [] X.env := by rfl) (hpl : (backTo pos (starEach [b] X.env)).any (·.1) = false := by rfl) :
    SI X W (.Tuple elts kk tpos) (.Call (.Name "zip" p) [a, b] [] pos) (M.iZip ma mb) :=
  PI.imp (pi_zipU hg hm (pa_cons ha (pa_cons hb pa_nil hs2) hs) hs hpl) fun σ H R ⟨ρ, F, T, fr, rel, q⟩ => by
    -- the kind of both is known ahead
    have fin : ∀ (isS : Bool), (∀ x ρ1, ma ρ = .ok x ρ1 → ∀ y ρ2, mb ρ1 = .ok y ρ2 → (isS = true ↔ ∃ s, x = .str s)) → iZipU X.K (tCons (qE X.K W ma) (tCons (qE X.K W mb) tNil)) σ H R := by
      intro isS hS
      have q1 := Post.bind q
      have body : ∀ (G : List V → Hp → Prop), (∀ x y u v H2 F2 T2 ds ρ2, Ext F T F2 T2 → Fz X.K F2 T2 u x → Fz X.K F2 T2 v y → M.zipB x y = some ds → Rel X.K ρ2 σ H2 F2 T2 fr → (isS = true ↔ ∃ s, x = .str s) →
          (∀ J H' F' T', Ext F T F' T' → ItOk X.K J ds F' T' → Rel X.K ρ2 σ H' F' T' fr → R J H') → G [u, v] H2) → tCons (qE X.K W ma) (tCons (qE X.K W mb) tNil) σ H G := by
        intro G hG
        refine ⟨ρ, F, T, fr, rel, ?_⟩
        cases em : ma ρ with
        | bad => rw [em] at q1; exact q1.elim
        | exc x ρ1 => rw [em] at q1; exact q1
        | ok x ρ1 =>
          rw [em] at q1
          have q2 := Post.bind (show Post ((mb ρ1).bind _) _ _ from q1)
          intro u H1 F1 T1 e1 z1 r1
          refine ⟨ρ1, F1, T1, fr, r1, ?_⟩
          cases en : mb ρ1 with
          | bad => rw [en] at q2; exact q2.elim
          | exc y ρ2 => rw [en] at q2; exact EX.mono (show EX X.K W σ F T fr y ρ2 from q2) e1
          | ok y ρ2 =>
            rw [en] at q2
            obtain ⟨ds, e3, q3⟩ := Post.ofO (show Post (M.ofO _ _) _ _ from q2)
            intro v H2 F2 T2 e2 z2 r2
            exact hG x y u v H2 F2 T2 ds ρ2 (e1.trans e2) (z1.mono e2) z2 e3 r2 (hS x ρ1 em y ρ2 en) q3
      cases isS with
      | true =>
        refine .inl (body _ fun x y u v H2 F2 T2 ds ρ2 e z1 z2 hz r2 hk q3 => ?_)
        obtain ⟨s, rfl⟩ := hk.mp rfl
        cases y <;> try (cases hz; done)
        obtain ⟨rfl, o1⟩ := z1.str_inv
        obtain ⟨rfl, o2⟩ := z2.str_inv
        cases hz
        exact ⟨_, _, rfl, q3 _ _ _ _ e (it_zipS o1 o2) r2⟩
      | false =>
        refine .inr (body _ fun x y u v H2 F2 T2 ds ρ2 e z1 z2 hz r2 hk q3 => ?_)
        obtain ⟨fp, f, _⟩ := r2.fp
        cases x <;> cases y <;> try (cases hz; done)
        · exact absurd (hk.mpr ⟨_, rfl⟩) Bool.false_ne_true
        · obtain ⟨a1, vs, rfl, ha, za⟩ := z1.tup_inv
          obtain ⟨b1, ws, rfl, hb, zb⟩ := z2.tup_inv
          cases hz
          exact ⟨a1, b1, vs, ws, rfl, .inr ⟨seqT f.low ha, seqT f.low hb, q3 _ _ _ _ e (it_zipT ha za hb zb) r2⟩⟩
        · obtain ⟨a1, vs, rfl, ha, za⟩ := z1.lst_inv
          obtain ⟨b1, ws, rfl, hb, zb⟩ := z2.lst_inv
          cases hz
          exact ⟨a1, b1, vs, ws, rfl, .inl ⟨SqL.of (f.low _ _ ha), SqL.of (f.low _ _ hb), q3 _ _ _ _ e (it_zipL ha za hb zb) r2⟩⟩
    cases em : ma ρ with
    | ok x ρ1 =>
      by_cases hx : ∃ s, x = .str s
      · exact fin true fun x' ρ1' e y ρ2 _ => by rw [em] at e; cases e; exact ⟨fun _ => hx, fun _ => rfl⟩
      · exact fin false fun x' ρ1' e y ρ2 _ => by rw [em] at e; cases e; exact ⟨fun z => (nomatch z), fun z => absurd z hx⟩
    | exc x ρ1 => exact fin true fun x' ρ1' e => by rw [em] at e; cases e
    | bad => exact fin true fun x' ρ1' e => by rw [em] at e; cases e
end
end S

/-! Targets, comprehensions, statements, loops, defs. -/
namespace S
open PySem PySem.Spec PyProof.Rows L2
section
variable {K : PySem.W.Frag} {F F' H H' : Hp} {T T' : List Addr} {fp fq fr : Fp} {ρ : M.PSt} {σ : St} {W : WX}
/-! ### targets -/
theorem wipe_set {i : Nat} {x : Option V} : ∀ (is : List Nat) (σ : St), (wipe (σ.set i x) is).set i none = (wipe σ is).set i none
  | [], σ => by show (σ.set i x).set i none = σ.set i none; rw [List.set_set]
  | k :: is, σ => by
    show ((wipe (σ.set i x) is).set k none).set i none = ((wipe σ is).set k none).set i none
    by_cases h : k = i
    · subst h
      rw [List.set_set, List.set_set, wipe_set is σ]
    · rw [List.set_comm _ _ h, wipe_set is σ, List.set_comm _ _ h]
theorem FzA.cons_inv {vs : List V} {d : M.D} {ds : List M.D} (h : FzA K F T vs (d :: ds)) : ∃ v r, vs = v :: r ∧ Fz K F T v d ∧ FzA K F T r ds := by
  cases h with
  | cons a b => exact ⟨_, _, rfl, a, b⟩
theorem RpA.of_fz : ∀ {vs : List V} {ds : List M.D}, FzA K F T vs ds → RpA K F T vs (ds.map .fz) []
  | _, _, .nil => .nil
  | _, _, .cons z r => RpA.cons (fp := []) (fq := []) (.fz z) (RpA.of_fz r)
def qG (K : PySem.W.Frag) (sl : List Nat) (m : M.MG) : TG := fun v σ H Q => ∃ ρ F T fr d ρ', Rel K ρ σ H F T fr ∧ Fz K F T v d ∧ m d ρ = some ρ' ∧ ∀ σ', wipe σ' sl = wipe σ sl → Rel K ρ' σ' H F T fr → Q σ' H
def qGs (K : PySem.W.Frag) (is : List Nat) : TGs := fun vs σ H Q => ∃ ρ F T fr ds ρ', Rel K ρ σ H F T fr ∧ FzA K F T vs ds ∧ M.gNs is ds ρ = some ρ' ∧ ∀ σ', wipe σ' is = wipe σ is → Rel K ρ' σ' H F T fr → Q σ' H
abbrev SG (X : Cx) (tg : Expr) (sl : List Nat) (m : M.MG) : Prop := PG X tg (qG X.K sl m)
abbrev SGs (X : Cx) (ts : List Expr) (is : List Nat) : Prop := PGs X ts (qGs X.K is)
theorem PG.imp {X : Cx} {tg : Expr} {t t' : TG} (h : PG X tg t) (i : ∀ v σ H Q, t' v σ H Q → t v σ H Q) : PG X tg t' := ⟨fun pins s σ H v u Q I r q => h.run pins s σ H v u Q I r (i v σ H Q q)⟩
theorem PGs.imp {X : Cx} {tg : List Expr} {t t' : TGs} (h : PGs X tg t) (i : ∀ v σ H Q, t' v σ H Q → t v σ H Q) : PGs X tg t' := ⟨fun pins s σ H v u Q I r q => h.run pins s σ H v u Q I r (i v σ H Q q)⟩
/-- data is put into a slot -/
theorem Rel.put (rel : Rel K ρ σ H F T fr) {i : Nat} (hi : i < ρ.env.length) {v : V} {o : M.O} {f2 fr' : Fp} (q : Rp K F T v o f2) (p : Part (f2 ++ fr') fr) : Rel K ⟨ρ.env.set i (some o), ρ.w⟩ (σ.set i (some v)) H F T fr' := by
  obtain ⟨fe, fw, re, rw, f⟩ := rel
  obtain ⟨fq, h1, h2⟩ := re.put hi q
  refine ⟨fq, fw, h1, rw, f.part ?_⟩
  have p1 : Part (fq ++ (fw ++ fr')) ((fe ++ f2) ++ (fw ++ fr')) := .app h2 .refl
  refine p1.trans ?_
  refine Part.trans (b := fe ++ (fw ++ (f2 ++ fr'))) ?_ (.app .refl (.app .refl p))
  constructor
  · intro e h
    simp only [List.mem_append] at *
    grind
  · intro x
    simp only [keys, List.map_append, List.count_append] at *
    omega
theorem Part.nilL {a : Fp} : Part ([] ++ a) a := ⟨fun _ h => h, fun _ => Nat.le_refl _⟩
theorem sg_n {X : Cx} {pos : Pos} {x : Str} (i : Nat) (hN : X.N.Nodup) (hi : X.N[i]? = some x) (hx : Loc X.env.scope x) (hf : X.fn x = true ∨ X.env.scope.names.lookup x = some .local) : SG X (.Name x pos) [i] (M.gN i) :=
  PG.imp (pg_name hN hi hx hf) fun v σ H Q ⟨ρ, F, T, fr, d, ρ', rel, z, e, q⟩ => by
    unfold M.gN at e
    split at e
    · rename_i hl
      cases e
      refine q _ ?_ (rel.put hl (.fz z) .nilL)
      show (σ.set i (some v)).set i none = σ.set i none
      rw [List.set_set]
    · cases e
theorem sgs_nil {X : Cx} : SGs X [] [] := PGs.imp pgs_nil fun vs σ H Q ⟨ρ, F, T, fr, ds, ρ', rel, z, e, q⟩ => by
  cases ds with
  | nil =>
    cases z
    cases e
    exact ⟨rfl, q _ rfl rel⟩
  | cons d ds => cases e
theorem sgs_cons {X : Cx} {e : Expr} {es : List Expr} {i : Nat} {is : List Nat} (hs : (assignEach (e :: es) X.env).map (·.2) = assign e X.env :: (assignEach es X.env).map (·.2)) (h1 : SG X e [i] (M.gN i)) (h2 : SGs X es is) : SGs X (e :: es) (i :: is) :=
  PGs.imp (pgs_cons h1 h2 hs) fun vs σ H Q ⟨ρ, F, T, fr, ds, ρ', rel, z, e, q⟩ => by
    cases ds with
    | nil => cases e
    | cons d ds =>
      obtain ⟨v, r, rfl, z, zs⟩ := z.cons_inv
      · cases e1 : M.gN i d ρ with
        | none => simp only [M.gNs, e1] at e; cases e
        | some ρ1 =>
          simp only [M.gNs, e1, Option.bind_some] at e
          refine ⟨v, r, rfl, ρ, F, T, fr, d, ρ1, rel, z, e1, fun σ1 w1 r1 => ⟨ρ1, F, T, fr, ds, ρ', r1, zs, e, fun σ2 w2 r2 => q σ2 ?_ r2⟩⟩
          show (wipe σ2 is).set i none = (wipe σ is).set i none
          rw [w2]
          have w1' : σ1.set i none = σ.set i none := w1
          rw [← wipe_set (x := none) is σ1, w1', wipe_set is σ]
theorem sg_t {X : Cx} {es : List Expr} {k} {pos : Pos} {n : Nat} {is : List Nat} (hc : X.calm = true) (hn : (assignEach es X.env).length = n) (hst : (assignEach es X.env).findIdx? (·.1) = none) (hl : is.length = n) (h : SGs X es is) : SG X (.Tuple es k pos) is (M.gT is) :=
  PG.imp (pg_tup hc h hn hst) fun v σ H Q ⟨ρ, F, T, fr, d, ρ', rel, z, e, q⟩ => by
    cases d with
    | tup ds =>
      obtain ⟨a, vs, rfl, ha, za⟩ := z.tup_inv
      obtain ⟨fp, f, _⟩ := rel.fp
      refine ⟨a, vs, rfl, seqT f.low ha, ?_, ρ, F, T, fr, ds, ρ', rel, za, e, q⟩
      rw [za.length, ← hl]
      have : ∀ (is : List Nat) (ds : List M.D) (ρ ρ' : M.PSt), M.gNs is ds ρ = some ρ' → ds.length = is.length := by
        intro is
        induction is with
        | nil => intro ds ρ ρ' h; cases ds with | nil => rfl | cons d ds => cases h
        | cons i is ih =>
          intro ds ρ ρ' h
          cases ds with
          | nil => cases h
          | cons d ds =>
            cases e1 : M.gN i d ρ with
            | none => simp only [M.gNs, e1] at h; cases h
            | some ρ1 =>
              simp only [M.gNs, e1, Option.bind_some] at h
              exact congrArg (· + 1) (ih ds ρ1 ρ' h)
      exact this is ds ρ ρ' e
    | _ => cases e

/-! ### comprehensions -/
theorem RpE.wiped {env : List (Option M.O)} (r : RpE K F T σ env fp) : ∀ is : List Nat, ∃ fq, RpE K F T (wipe σ is) (M.wipeE is env) fq ∧ Part fq fp
  | [] => ⟨fp, r, .refl⟩
  | i :: is => by
    obtain ⟨fq, h1, h2⟩ := r.wiped is
    obtain ⟨fq2, h3, h4⟩ := h1.drop i none
    exact ⟨fq2, h3, h4.trans h2⟩
theorem wipe_get {σ : St} : ∀ {is : List Nat} {j : Nat}, j ∉ is → (wipe σ is)[j]? = σ[j]?
  | [], _, _ => rfl
  | i :: is, j, h => by
    have h' : j ≠ i ∧ j ∉ is := by simpa using h
    show ((wipe σ is).set i none)[j]? = _
    rw [List.getElem?_set_ne (Ne.symm h'.1), wipe_get h'.2]
theorem wipe_in {σ : St} : ∀ {is : List Nat} {j : Nat}, j ∈ is → j < σ.length → (wipe σ is)[j]? = some none
  | i :: is, j, h, hl => by
    show ((wipe σ is).set i none)[j]? = _
    by_cases e : i = j
    · subst e
      rw [List.getElem?_set_self (by rw [wipe_length]; exact hl)]
    · rw [List.getElem?_set_ne e]
      refine wipe_in ?_ hl
      rcases List.mem_cons.mp h with h | h
      · exact absurd h.symm e
      · exact h
theorem wipe_idem {σ : St} (is : List Nat) : wipe (wipe σ is) is = wipe σ is := by
  refine List.ext_getElem? fun j => ?_
  by_cases h : j ∈ is
  · by_cases hl : j < σ.length
    · rw [wipe_in h hl, wipe_in h (by rw [wipe_length]; exact hl)]
    · rw [List.getElem?_eq_none (by rw [wipe_length, wipe_length]; omega), List.getElem?_eq_none (by rw [wipe_length]; omega)]
  · rw [wipe_get h]
theorem wipeE_none {env : List (Option M.O)} : ∀ {is : List Nat} {j : Nat} {o : M.O}, (M.wipeE is env)[j]? = some (some o) → j ∉ is
  | [], _, _, _ => by simp
  | i :: is, j, o, h => by
    have h : ((M.wipeE is env).set i none)[j]? = some (some o) := h
    by_cases hj : i = j
    · subst hj
      by_cases hl : i < (M.wipeE is env).length
      · rw [List.getElem?_set_self hl] at h; cases h
      · rw [List.getElem?_eq_none (by simpa using hl)] at h; cases h
    · rw [List.getElem?_set_ne hj] at h
      have := wipeE_none h
      simp only [List.mem_cons, not_or]
      exact ⟨Ne.symm hj, this⟩
/-- only the slots that hold something matter -/
theorem RpE.other {env : List (Option M.O)} {σ' : St} (r : RpE K F T σ env fp) (hl : σ'.length = σ.length) (h : ∀ (j : Nat) (o : M.O), env[j]? = some (some o) → σ'[j]? = σ[j]?) : RpE K F T σ' env fp := by
  induction r generalizing σ' with
  | nil =>
    cases σ' with
    | nil => exact .nil
    | cons _ _ => cases hl
  | off r ih =>
    cases σ' with
    | nil => cases hl
    | cons y σ' => exact .off (ih (Nat.succ.inj hl) fun j o e => h (j + 1) o e)
  | on q r ih =>
    cases σ' with
    | nil => cases hl
    | cons y σ' =>
      have e : y = _ := Option.some.inj (h 0 _ rfl)
      subst e
      exact .on q (ih (Nat.succ.inj hl) fun j o e => h (j + 1) o e)
theorem RpE.backed {env0 : List (Option M.O)} (h0 : ∀ (i : Nat) (d : M.D), env0[i]? = some (some (M.O.fz d)) → ∃ v, σ[i]? = some (some v) ∧ Fz K F T v d) : ∀ (is : List Nat) {env : List (Option M.O)} {fp : Fp}, RpE K F T σ env fp → ∃ fq, RpE K F T σ (M.back env0 is env) fq ∧ Part fq fp
  | [], env, fp, r => ⟨fp, r, .refl⟩
  | i :: is, env, fp, r => by
    obtain ⟨fq, h1, h2⟩ := RpE.backed h0 is r
    unfold M.back
    split
    · rename_i d e
      obtain ⟨v, hv, z⟩ := h0 i d e
      obtain ⟨f2, h3, h4⟩ := h1.put0 hv (.fz z)
      refine ⟨f2, h3, h4.trans ?_⟩
      rw [List.append_nil]
      exact h2
    · obtain ⟨f2, h3, h4⟩ := h1.drop0 i
      exact ⟨f2, h3, h4.trans h2⟩
theorem RpE.data {env : List (Option M.O)} (r : RpE K F T σ env fp) {i : Nat} {d : M.D} (h : env[i]? = some (some (.fz d))) : ∃ v, σ[i]? = some (some v) ∧ Fz K F T v d := by
  obtain ⟨v, f1, f2, f3, h1, _, h3, _⟩ := r.get h
  cases h3 with
  | fz z => exact ⟨v, h1, z⟩
abbrev W0 : WX := fun _ _ _ _ => False
theorem Post.noX {α : Type} {r : M.Res α} {P : α → M.PSt → Prop} {Y Y' : Wx} (h : Post (M.noX r) P Y) : Post r P Y' := by
  cases r with
  | ok a ρ => exact h
  | exc x ρ => exact h.elim
  | bad => exact h
def LcInv (K : PySem.W.Frag) (sl : List Nat) (g : M.MG) (t : M.MT) (e : M.ME) (ds : List M.D) (σ : St) (D : Addr) (fr : Fp) (F1 : Hp) (T1 : List Addr) (P : List M.D → M.PSt → Prop) (Y : Wx) (i : Nat) (H : Hp) : Prop :=
  i ≤ ds.length ∧ ∃ ρ' F' T' acc vacc, Ext F1 T1 F' T' ∧ FzA K F' T' vacc acc ∧ Rel K ⟨M.wipeE sl ρ'.env, ρ'.w⟩ (wipe σ sl) H F' T' ((D, .lst vacc) :: fr) ∧ Post (M.lcL sl g t e (ds.drop i) acc ρ') P Y
theorem Rel.wiped (r : Rel K ρ σ H F T fr) (is : List Nat) : Rel K ⟨M.wipeE is ρ.env, ρ.w⟩ (wipe σ is) H F T fr := by
  obtain ⟨fe, fw, re, rw, f⟩ := r
  obtain ⟨fq, h1, h2⟩ := re.wiped is
  exact ⟨fq, fw, h1, rw, f.part (.app h2 .refl)⟩
theorem Rel.own (r : Rel K ρ σ H F T fr) {p : Addr} {o : HO} (hp : H p = none) : Rel K ρ σ (upd H p o) F T ((p, o) :: fr) := by
  obtain ⟨fe, fw, re, rw, f⟩ := r
  refine ⟨fe, fw, re, rw, (f.own hp).part ?_⟩
  constructor
  · intro e h
    simp only [List.mem_append, List.mem_cons] at *
    grind
  · intro x
    simp only [keys, List.map_append, List.map_cons, List.count_append, List.count_cons] at *
    omega
theorem Rel.at_ (r : Rel K ρ σ H F T fr) {e : Addr × HO} (h : e ∈ fr) : H e.1 = some e.2 := by
  obtain ⟨fe, fw, re, rw, f⟩ := r
  exact (f.at_ e (List.mem_append_right _ (List.mem_append_right _ h))).1
theorem Rel.write {p : Addr} {o o' : HO} (r : Rel K ρ σ H F T ((p, o) :: fr)) : Rel K ρ σ (upd H p o') F T ((p, o') :: fr) := by
  obtain ⟨fe, fw, re, rw, f⟩ := r
  have f' : FpH F H ((fe ++ fw) ++ ((p, o) :: fr)) := by rw [List.append_assoc]; exact f
  refine ⟨fe, fw, re, rw, ?_⟩
  have := f'.write (o' := o')
  rw [List.append_assoc] at this
  exact this
theorem lc_read {sl : List Nat} {it : M.MI} {g : M.MG} {t : M.MT} {e : M.ME} {Q : VK} (h : qO K W (M.oLc sl it g t e) σ H Q) : tLc (qI K W it) (qG K sl g) (qT K W0 t) (qE K W0 e) sl σ H Q := by
  obtain ⟨ρ, F, T, fr, rel, h⟩ := h
  refine ⟨ρ, F, T, fr, rel, (Post.bind h).mono (fun ds ρ1 h1 J H1 F1 T1 e1 io r1 => ?_) fun _ _ z => z⟩
  intro D hD
  have h2 := Post.bind h1
  -- the loop's word
  refine ⟨fun i m H => m = ds.length - i ∧ LcInv K sl g t e ds σ D fr F1 T1 _ _ i H, ⟨ds.length, by simp, Nat.zero_le _, ρ1, F1, T1, [], [], .refl, .nil, (r1.wiped sl).own hD, h2⟩, ?_⟩
  rintro i m H2 ⟨rfl, hi, ρ2, F2, T2, acc, vacc, e2, za, r2, h3⟩
  have hH : H2 D = some (.lst vacc) := r2.at_ (e := (D, .lst vacc)) List.mem_cons_self
  obtain ⟨fp2, f2, _⟩ := r2.fp
  by_cases hl : i = ds.length
  · refine .inl ⟨(io F2 T2 H2 fp2 i e2 f2 hi).1 hl, ?_⟩
    rw [hl, List.drop_length] at h3
    have h4 : Post (M.lcL sl g t e [] acc ρ2) _ _ := h3
    unfold M.lcL at h4
    have h5 := h4
    refine h5 (.ref D) H2 F2 T2 ((D, .lst vacc) :: []) (e1.trans e2) ?_ ?_
    · exact .lst (RpA.of_fz za)
    · obtain ⟨fe, fw, re, rw, f⟩ := r2
      have re1 : RpE K F2 T2 σ (M.wipeE sl ρ2.env) fe := by
        refine re.other ?_ fun j o hj => (wipe_get (wipeE_none hj)).symm
        rw [wipe_length]
      obtain ⟨fe0, fw0, re0, rw0, f0⟩ := r1
      obtain ⟨fq, h6, h7⟩ := RpE.backed (env0 := ρ1.env) (fun i d hd => by
        obtain ⟨v, hv, z⟩ := re0.data hd
        exact ⟨v, hv, z.mono e2⟩) sl re1
      exact ⟨fq, fw, h6, rw, f.part (.app h7 .refl)⟩
  · have hlt : i < ds.length := by omega
    have hd : ds[i]? = some ds[i] := List.getElem?_eq_getElem hlt
    obtain ⟨go, yl⟩ := (io F2 T2 H2 fp2 i e2 f2 hi).2 _ hd
    refine .inr ⟨go, LcInv K sl g t e ds σ D fr F1 T1 _ _ (i + 1), fun H' n => ⟨ds.length - (i + 1), by omega, rfl, n⟩, fun x H3 y => ?_⟩
    obtain ⟨fe, fw, re, rw, f⟩ := id r2
    obtain ⟨yg, yh⟩ := (io F2 T2 H2 _ i e2 f hi).2 _ hd
    obtain ⟨F3, s3, zx, f3⟩ := yh x H3 y
    have r3 : Rel K ⟨M.wipeE sl ρ2.env, ρ2.w⟩ (wipe σ sl) H3 F3 T2 ((D, .lst vacc) :: fr) := ⟨fe, fw, re.mono (.of s3), rw.mono (.of s3), f3⟩
    rw [List.drop_eq_getElem_cons hlt] at h3
    unfold M.lcL at h3
    cases eg : g ds[i] ⟨M.wipeE sl ρ2.env, ρ2.w⟩ with
    | none => rw [eg] at h3; exact h3.elim
    | some ρ3 =>
      rw [eg] at h3
      refine ⟨_, F3, T2, _, ds[i], ρ3, r3, zx, eg, fun σ4 w4 r4 => ?_⟩
      rw [wipe_idem] at w4
      refine ⟨w4, ?_⟩
      have h4 := Post.bind h3
      refine ⟨ρ3, F3, T2, _, r4, (Post.noX h4).mono (fun b ρ5 h5 H5 F5 T5 e5 r5 => ?_) fun _ _ z => z⟩
      cases b with
      | false =>
        rw [if_neg Bool.false_ne_true]
        refine ⟨hlt, ρ5, F5, T5, acc, vacc, e2.trans ((Ext.of s3).trans e5), (za.mono (.of s3)).mono e5, ?_, h5⟩
        rw [← w4]
        exact r5.wiped sl
      | true =>
        rw [if_pos rfl] at h5 ⊢
        have h6 := Post.bind h5
        refine ⟨ρ5, F5, T5, _, r5, (Post.noX h6).mono (fun d ρ6 h7 y6 H6 F6 T6 e6 z6 r6 => ?_) fun _ _ z => z⟩
        split at h7
        · rename_i hacc
          have hH6 : H6 D = some (.lst vacc) := r6.at_ (e := (D, .lst vacc)) List.mem_cons_self
          refine ⟨vacc, hH6, by rw [line_eq, za.length]; exact hacc, hlt, ρ6, F6, T6, acc ++ [d], vacc ++ [y6], e2.trans ((Ext.of s3).trans (e5.trans e6)), (((za.mono (.of s3)).mono e5).mono e6).append (.cons z6 .nil), ?_, h7⟩
          rw [← w4]
          exact (r6.wiped sl).write
        · exact h7.elim
end
section
variable {X : Cx} {W : WX} {pos : Pos} {elt tg iter : Expr} {ifs : List Expr} {scope : Scope} {own : List (Str × Nat)} {sl : List Nat} {it : M.MI} {g : M.MG} {t : M.MT} {e : M.ME}
theorem spts_nil {X : Cx} {W : WX} : PTs X [] (qT X.K W M.tT) := ⟨fun _ _ _ H Q I ⟨ρ, F, T, fr, rel, h⟩ => wpAny_tests_nil ⟨H, I, h _ _ _ .refl rel⟩⟩
theorem spts_one {X : Cx} {W : WX} {c : Expr} {m : M.MT} (h : ST X W c m) : PTs X [c] (qT X.K W m) := pts_one h
theorem so_lc (hc : X.calm = true) (hN : X.N.Nodup) (hi : SI X W tg iter it) (ok : BlkOk X.N X.env.scope scope own) (hsl : sl = own.map (·.2))
    (hg : ∀ (s : Shared) (H : Hp) (C : Addr) (cl : List (Str × Addr)) (fp : List Addr), SG (X.blk s H scope (compEnvC scope cl C X.env) fp) tg sl g) (ht : ∀ (s : Shared) (H : Hp) (C : Addr) (cl : List (Str × Addr)) (fp : List Addr), PTs (X.blk s H scope (compEnvC scope cl C X.env) fp) ifs (qT X.K W0 t))
    (he : ∀ (s : Shared) (H : Hp) (C : Addr) (cl : List (Str × Addr)) (fp : List Addr), SE (X.blk s H scope (compEnvC scope cl C X.env) fp) W0 elt e) (hs : ∀ x, foldedSetIterable iter X.env x = pure x := by intro _; rfl) :
    SO X W (.ListComp elt [⟨tg, iter, ifs, 0⟩] scope pos) (M.oLc sl it g t e) := by
  subst hsl
  exact PE.imp (pe_lc hc hN hi ok hg ht he hs) fun σ H Q h => lc_read h
/-- data of what one holder knows -/
theorem qO_frz {K : PySem.W.Frag} {m : M.MO} {σ : St} {H : Hp} {Q : VK} (h : qE K W (M.eO m) σ H Q) : qO K W m σ H Q := by
  obtain ⟨ρ, F, T, fr, rel, h⟩ := h
  refine ⟨ρ, F, T, fr, rel, (Post.bind h).mono (fun o ρ1 h1 v H1 F1 T1 fp e1 z1 r1 => ?_) fun _ _ z => z⟩
  obtain ⟨G, s, z, r⟩ := r1.frozen z1
  exact h1 v H1 G T1 (e1.trans (.of s)) z r
theorem se_o {a : Expr} {m : M.MO} (h : SO X W a m) : SE X W a (M.eO m) := PE.imp h fun σ H Q h => qO_frz h
theorem so_e {a : Expr} {m : M.ME} (h : SE X W a m) : SO X W a (M.oE m) := PE.imp h fun σ H Q ⟨ρ, F, T, fr, rel, h⟩ => qE_bind rel h fun d ρ1 v H1 F1 T1 e1 z1 r1 h1 => h1 v H1 F1 T1 [] e1 (.fz z1) r1
theorem lc_frz (xs : List M.D) : M.frz (.lst (xs.map .fz)) = .lst xs := by
  show M.D.lst (M.frzs _) = _
  rw [M.frzs_fz]
theorem se_lc (hc : X.calm = true) (hN : X.N.Nodup) (hi : SI X W tg iter it) (ok : BlkOk X.N X.env.scope scope own) (hsl : sl = own.map (·.2))
    (hg : ∀ (s : Shared) (H : Hp) (C : Addr) (cl : List (Str × Addr)) (fp : List Addr), SG (X.blk s H scope (compEnvC scope cl C X.env) fp) tg sl g) (ht : ∀ (s : Shared) (H : Hp) (C : Addr) (cl : List (Str × Addr)) (fp : List Addr), PTs (X.blk s H scope (compEnvC scope cl C X.env) fp) ifs (qT X.K W0 t))
    (he : ∀ (s : Shared) (H : Hp) (C : Addr) (cl : List (Str × Addr)) (fp : List Addr), SE (X.blk s H scope (compEnvC scope cl C X.env) fp) W0 elt e) (hs : ∀ x, foldedSetIterable iter X.env x = pure x := by intro _; rfl) :
    SE X W (.ListComp elt [⟨tg, iter, ifs, 0⟩] scope pos) (M.eLc sl it g t e) := by
  have h := se_o (so_lc (pos := pos) hc hN hi ok hsl hg ht he hs)
  have eq : M.eO (M.oLc sl it g t e) = M.eLc sl it g t e := by
    funext ρ
    show ((it ρ).bind fun xs ρ1 => _).bind _ = (it ρ).bind _
    cases it ρ with
    | bad => rfl
    | exc x ρ1 => rfl
    | ok xs ρ1 =>
      show ((M.lcL sl g t e xs [] ρ1).bind _).bind _ = (M.lcL sl g t e xs [] ρ1).bind _
      cases M.lcL sl g t e xs [] ρ1 with
      | bad => rfl
      | exc x ρ2 => rfl
      | ok ys ρ2 =>
        show M.Res.ok (M.frz (.lst (ys.map .fz))) _ = M.Res.ok (M.D.lst ys) _
        rw [lc_frz]
  rw [eq] at h
  exact h
end
end S

/-! Statements, loops, exceptions, defs and their calls. -/
namespace S
open PySem PySem.Spec PyProof.Rows L2
section
variable {K : PySem.W.Frag} {F F' H H' : Hp} {T T' : List Addr} {fp fq fr : Fp} {ρ : M.PSt} {σ : St} {W : WX} {D : Ends} {Q : VK}
theorem PostS.mono {r : M.Out} (h : PostS K W D F T fr r) (e : Ext F T F' T') : PostS K W D F' T' fr r := by
  cases r with
  | nx ρ => exact fun σ' H' F2 T2 e2 => h σ' H' F2 T2 (e.trans e2)
  | bk ρ => exact fun σ' H' F2 T2 e2 => h σ' H' F2 T2 (e.trans e2)
  | ct ρ => exact fun σ' H' F2 T2 e2 => h σ' H' F2 T2 (e.trans e2)
  | rt o w => exact fun v H' F2 T2 fp e2 => h v H' F2 T2 fp (e.trans e2)
  | exc x ρ => exact fun σ' cls dd H' F2 T2 e2 => h σ' cls dd H' F2 T2 (e.trans e2)
  | bad => exact h
theorem PostS.imp {r : M.Out} {D' : Ends} {W' : WX} (h : PostS K W D F T fr r) (h1 : ∀ σ H, D.nx σ H → D'.nx σ H) (h2 : ∀ σ H, D.bk σ H → D'.bk σ H) (h3 : ∀ σ H, D.ct σ H → D'.ct σ H) (h4 : ∀ v H, D.rt v H → D'.rt v H) (h5 : ∀ c d σ H, W c d σ H → W' c d σ H) : PostS K W' D' F T fr r := by
  cases r with
  | nx ρ => exact fun σ' H' F2 T2 e2 r => h1 _ _ (h σ' H' F2 T2 e2 r)
  | bk ρ => exact fun σ' H' F2 T2 e2 r => h2 _ _ (h σ' H' F2 T2 e2 r)
  | ct ρ => exact fun σ' H' F2 T2 e2 r => h3 _ _ (h σ' H' F2 T2 e2 r)
  | rt o w => exact fun v H' F2 T2 fp e2 z r => h4 _ _ (h v H' F2 T2 fp e2 z r)
  | exc x ρ => exact fun σ' cls dd H' F2 T2 e2 z r => h5 _ _ _ _ (h σ' cls dd H' F2 T2 e2 z r)
  | bad => exact h
/-- a reading's end, seen as a statement's -/
theorem out_post {α : Type} {r : M.Res α} {f : α → M.PSt → M.Out} (h : PostS K W D F T fr (r.out f)) : Post r (fun a ρ' => PostS K W D F T fr (f a ρ')) (EX K W σ F T fr) := by
  cases r with
  | ok a ρ => exact h
  | exc x ρ => exact fun cls dd H' F' T' e z r => h σ cls dd H' F' T' e z r
  | bad => exact h
theorem sE_bind {m : M.ME} {k : M.D → M.PSt → M.Out} (rel : Rel K ρ σ H F T fr) (h : PostS K W D F T fr ((m ρ).out k))
    (q : ∀ d ρ1 v H1 F1 T1, Ext F T F1 T1 → Fz K F1 T1 v d → Rel K ρ1 σ H1 F1 T1 fr → PostS K W D F1 T1 fr (k d ρ1) → Q v H1) : qE K W m σ H Q :=
  ⟨ρ, F, T, fr, rel, (out_post h).mono (fun d ρ1 h1 v H1 F1 T1 e z r => q d ρ1 v H1 F1 T1 e z r (h1.mono e)) fun _ _ z => z⟩
theorem sO_bind {m : M.MO} {k : M.O → M.PSt → M.Out} (rel : Rel K ρ σ H F T fr) (h : PostS K W D F T fr ((m ρ).out k))
    (q : ∀ o ρ1 v H1 F1 T1 fp, Ext F T F1 T1 → Rp K F1 T1 v o fp → Rel K ρ1 σ H1 F1 T1 (fp ++ fr) → PostS K W D F1 T1 fr (k o ρ1) → Q v H1) : qO K W m σ H Q :=
  ⟨ρ, F, T, fr, rel, (out_post h).mono (fun d ρ1 h1 v H1 F1 T1 fp e z r => q d ρ1 v H1 F1 T1 fp e z r (h1.mono e)) fun _ _ z => z⟩
theorem sT_bind {m : M.MT} {k : Bool → M.PSt → M.Out} {Q : Bool → Hp → Prop} (rel : Rel K ρ σ H F T fr) (h : PostS K W D F T fr ((m ρ).out k))
    (q : ∀ b ρ1 H1 F1 T1, Ext F T F1 T1 → Rel K ρ1 σ H1 F1 T1 fr → PostS K W D F1 T1 fr (k b ρ1) → Q b H1) : qT K W m σ H Q :=
  ⟨ρ, F, T, fr, rel, (out_post h).mono (fun d ρ1 h1 H1 F1 T1 e r => q d ρ1 H1 F1 T1 e r (h1.mono e)) fun _ _ z => z⟩
theorem sI_bind {m : M.MI} {k : List M.D → M.PSt → M.Out} {R : It → Hp → Prop} (rel : Rel K ρ σ H F T fr) (h : PostS K W D F T fr ((m ρ).out k))
    (q : ∀ ds ρ1 J H1 F1 T1, Ext F T F1 T1 → ItOk K J ds F1 T1 → Rel K ρ1 σ H1 F1 T1 fr → PostS K W D F1 T1 fr (k ds ρ1) → R J H1) : qI K W m σ H R :=
  ⟨ρ, F, T, fr, rel, (out_post h).mono (fun d ρ1 h1 J H1 F1 T1 e z r => q d ρ1 J H1 F1 T1 e z r (h1.mono e)) fun _ _ z => z⟩
/-- the slots are forgotten -/
theorem Rel.noenv (r : Rel K ρ σ H F T fr) : Rel K ⟨[], ρ.w⟩ [] H F T fr := by
  obtain ⟨fe, fw, re, rw, f⟩ := r
  exact ⟨[], fw, .nil, rw, f.part (.app .nil .refl)⟩
end
section
variable {X : Cx} {W : WX} {pos : Pos} {a b c : Expr} {st : Stmt} {rest body : List Stmt} {ma mb : M.ME} {mo : M.MO} {mt : M.MT} {m1 m2 : M.MS} {D : Ends} {σ : St} {H : Hp}
theorem ss_nil : SSs X W [] M.sPass := PSs.imp pss_nil fun D σ H ⟨ρ, F, T, fr, rel, h⟩ => h σ H F T .refl rel
theorem ss_one (h : SS X W st m1) : SSs X W [st] m1 := pss_one h
theorem ss_cons (h1 : SS X W st m1) (h2 : SSs X W rest m2) : SSs X W (st :: rest) (M.sSeq m1 m2) := PSs.imp (pss_cons h1 h2) fun D σ H ⟨ρ, F, T, fr, rel, h⟩ => by
  refine ⟨ρ, F, T, fr, rel, ?_⟩
  unfold M.sSeq at h
  cases e : m1 ρ with
  | nx ρ1 => rw [e] at h; exact fun σ1 H1 F1 T1 e1 r1 => ⟨ρ1, F1, T1, fr, r1, PostS.mono h e1⟩
  | bk ρ1 => rw [e] at h; exact h
  | ct ρ1 => rw [e] at h; exact h
  | rt o w => rw [e] at h; exact h
  | exc x ρ1 => rw [e] at h; exact h
  | bad => rw [e] at h; exact h
theorem ss_pass : SS X W (.Pass pos) M.sPass := PS.imp ps_pass fun D σ H ⟨ρ, F, T, fr, rel, h⟩ => h σ H F T .refl rel
theorem ss_break : SS X W (.Break pos) M.sBreak := PS.imp ps_break fun D σ H ⟨ρ, F, T, fr, rel, h⟩ => h σ H F T .refl rel
theorem ss_continue : SS X W (.Continue pos) M.sCont := PS.imp ps_continue fun D σ H ⟨ρ, F, T, fr, rel, h⟩ => h σ H F T .refl rel
theorem ss_doc {x j pos pos'} : SS X W (.Expr (.Constant (.str x) j pos) pos') M.sPass := PS.imp ps_doc fun D σ H ⟨ρ, F, T, fr, rel, h⟩ => h σ H F T .refl rel
theorem ss_expr (ha : SE X W a ma) (hs : swapsWith a none pos.line X.env = pure false := by rfl) : SS X W (.Expr a pos) (M.sExpr ma) := PS.imp (ps_expr ha hs) fun D σ H ⟨ρ, F, T, fr, rel, h⟩ =>
  sE_bind rel h fun d ρ1 v H1 F1 T1 e1 z1 r1 h1 => h1 σ H1 F1 T1 .refl r1
theorem ss_ret (ha : SO X W a mo) : SS X W (.Return (some a) pos) (M.sRet mo) := PS.imp (ps_ret ha) fun D σ H ⟨ρ, F, T, fr, rel, h⟩ =>
  sO_bind rel h fun o ρ1 v H1 F1 T1 fp e1 z1 r1 h1 => h1 v H1 F1 T1 fp .refl z1 r1.noenv
theorem ss_retN : SS X W (.Return none pos) M.sRetN := PS.imp ps_retN fun D σ H ⟨ρ, F, T, fr, rel, h⟩ => h .non H F T [] .refl (.fz .non) rel.noenv
theorem ss_if (hc : ST X W c mt) (ha : SSs X W rest m1) (hb : SSs X W body m2) : SS X W (.If c rest body pos) (M.sIf mt m1 m2) := PS.imp (ps_if hc ha hb) fun D σ H ⟨ρ, F, T, fr, rel, h⟩ => by
  refine sT_bind rel h fun k ρ1 H1 F1 T1 e1 r1 h1 => ?_
  cases k with
  | true => rw [if_pos rfl] at h1 ⊢; exact ⟨ρ1, F1, T1, fr, r1, h1⟩
  | false => rw [if_neg Bool.false_ne_true] at h1 ⊢; exact ⟨ρ1, F1, T1, fr, r1, h1⟩
theorem ss_set {i : Nat} {x : Str} {pos' : Pos} (hN : X.N.Nodup) (hi : X.N[i]? = some x) (hx : Loc X.env.scope x) (ha : SO X W a mo) (hs : swapsWith a (some (.Name x pos')) pos.line X.env = pure false := by rfl) (hf : X.fn x = true ∨ X.env.scope.names.lookup x = some .local := by first | exact .inl rfl | exact .inr rfl | assumption) :
    SS X W (.Assign [.Name x pos'] a pos) (M.sSet i mo) := PS.imp (ps_set hN hi hx ha hs hf) fun D σ H ⟨ρ, F, T, fr, rel, h⟩ => by
  refine sO_bind rel h fun o ρ1 v H1 F1 T1 fp e1 z1 r1 h1 => ?_
  unfold M.setE at h1
  split at h1
  · rename_i hl
    exact h1 _ H1 F1 T1 .refl (r1.put hl z1 .refl)
  · exact h1.elim
/-- name = [..] -/
theorem ss_setLc {i : Nat} {y : Str} {py : Pos} {elt tg iter : Expr} {ifs : List Expr} {scope : Scope} {own : List (Str × Nat)} {spos : Pos} {sl : List Nat} {it : M.MI} {g : M.MG} {t : M.MT} {e : M.ME} (hc : X.calm = true) (hN : X.N.Nodup) (hy : X.N[i]? = some y) (hyl : X.env.scope.names.lookup y = some .local)
    (hsw : swapsWith (.ListComp elt [⟨tg, iter, ifs, 0⟩] scope pos) (some (.Name y py)) spos.line X.env = pure true) (hi : SI X W tg iter it) (ok : BlkOk X.N X.env.scope scope own) (hsl : sl = own.map (·.2))
    (hg : ∀ (s : Shared) (H : Hp) (C : Addr) (cl : List (Str × Addr)) (fp : List Addr), SG (X.blk s H scope (compEnvC scope cl C X.env) fp) tg sl g) (ht : ∀ (s : Shared) (H : Hp) (C : Addr) (cl : List (Str × Addr)) (fp : List Addr), PTs (X.blk s H scope (compEnvC scope cl C X.env) fp) ifs (qT X.K W0 t))
    (he : ∀ (s : Shared) (H : Hp) (C : Addr) (cl : List (Str × Addr)) (fp : List Addr), SE (X.blk s H scope (compEnvC scope cl C X.env) fp) W0 elt e) (hs : ∀ x, foldedSetIterable iter X.env x = pure x := by intro _; rfl) :
    SS X W (.Assign [.Name y py] (.ListComp elt [⟨tg, iter, ifs, 0⟩] scope pos) spos) (M.sSet i (M.oLc sl it g t e)) := by
  subst hsl
  refine PS.imp (ps_setLc (g := qG X.K (own.map (·.2)) g) (tt := qT X.K W0 t) (te := qE X.K W0 e) hc hN hy hyl hsw hi ok hg ht he hs) fun D σ H ⟨ρ, F, T, fr, rel, h⟩ => ?_
  show tLc (qI X.K W it) (qG X.K (own.map (·.2)) g) (qT X.K W0 t) (qE X.K W0 e) (own.map (·.2)) σ H fun x H1 => gName i x σ H1 D.nx
  refine lc_read (W := W) (sO_bind (D := D) rel h fun o ρ1 v H1 F1 T1 fp e1 z1 r1 h1 => ?_)
  unfold M.setE at h1
  split at h1
  · rename_i hl
    exact h1 _ H1 F1 T1 .refl (r1.put hl z1 .refl)
  · exact h1.elim
theorem ss_asg {tg : Expr} {sl : List Nat} {g : M.MG} (ha : SE X W a ma) (hg : SG X tg sl g) (hs : swapsWithSole [tg] a pos.line X.env = pure false := by rfl) (hw : swappedStores [tg] a X.env = pure none := by rfl)
    (h1 : (assignEach [tg] X.env).map (·.2) = [assign tg X.env] := by rfl) : SS X W (.Assign [tg] a pos) (M.sAsg g ma) := PS.imp (ps_asg ha hg hs hw h1) fun D σ H ⟨ρ, F, T, fr, rel, h⟩ => by
  refine sE_bind rel h fun d ρ1 v H1 F1 T1 e1 z1 r1 h1 => ?_
  cases e : g d ρ1 with
  | none => rw [e] at h1; exact h1.elim
  | some ρ2 =>
    rw [e] at h1
    exact ⟨ρ1, F1, T1, fr, d, ρ2, r1, z1, e, fun σ' _ r' => h1 σ' H1 F1 T1 .refl r'⟩
theorem ss_par {i j : Nat} {x y : Str} {px py pt : Pos} {kt k2 pt2} (hc : X.calm = true) (hN : X.N.Nodup) (hi : X.N[i]? = some x) (hj : X.N[j]? = some y) (hij : i ≠ j)
    (hx : X.env.scope.names.lookup x = some .local) (hy : X.env.scope.names.lookup y = some .local) (ha : SE X W a ma) (hb : SE X W b mb)
    (hw : swappedStores [.Tuple [.Name x px, .Name y py] kt pt] (.Tuple [a, b] k2 pt2) X.env = pure (some [x, y]))
    (hs : swapsWithSole [.Tuple [.Name x px, .Name y py] kt pt] (.Tuple [a, b] k2 pt2) pos.line X.env = pure false := by rfl)
    (he : starEach [a, b] X.env = (false, eval a X.env) :: starEach [b] X.env := by rfl) (he2 : starEach [b] X.env = (false, eval b X.env) :: starEach [] X.env := by rfl) :
    SS X W (.Assign [.Tuple [.Name x px, .Name y py] kt pt] (.Tuple [a, b] k2 pt2) pos) (M.sPar i j ma mb) := PS.imp (ps_par hc hN hi hj hij hx hy (pa_cons ha (pa_cons hb pa_nil he2) he) hw hs) fun D σ H ⟨ρ, F, T, fr, rel, h⟩ => by
  refine sE_bind rel h fun d ρ1 v H1 F1 T1 e1 z1 r1 h1 => ?_
  refine sE_bind r1 h1 fun d2 ρ2 u H2 F2 T2 e2 z2 r2 h2 => ?_
  split at h2
  · rename_i hl
    refine ⟨v, u, rfl, h2 _ H2 F2 T2 .refl ?_⟩
    have q := (r2.put hl.1 (.fz (z1.mono e2)) .nilL)
    exact q.put (i := j) (by show j < (ρ2.env.set i _).length; rw [List.length_set]; exact hl.2.1) (.fz z2) .nilL
  · exact h2.elim
/-! what is done to the name in slot i -/
theorem ss_aug {i : Nat} {x : Str} {op : Operator} {f : M.D → M.D → Option M.D} {ti : TIp} {pos' : Pos} (hN : X.N.Nodup) (hi : X.N[i]? = some x) (hx : Loc X.env.scope x) (ha : SE X W a ma) (ho : PIp X op ti)
    (hf2 : ∀ {F H : Hp} {T : List Addr} {fp : Fp} {x y : V} {dx dy dz : M.D} {Q : VK}, FpH F H fp → Fz X.K F T x dx → Fz X.K F T y dy → f dx dy = some dz → Grown X.K F T fp dz Q → ti x y H Q)
    (hf : X.fn x = true ∨ X.env.scope.names.lookup x = some .local := by first | exact .inl rfl | exact .inr rfl | assumption) :
    SS X W (.AugAssign (.Name x pos') op a pos) (M.sAug f i ma) := PS.imp (ps_aug hN hi hx ha ho hf) fun D σ H ⟨ρ, F, T, fr, rel, h⟩ => by
  unfold M.sAug at h
  split at h
  · rename_i d e
    obtain ⟨fe, fw, re, rw, ff⟩ := id rel
    obtain ⟨v, hv, zv⟩ := re.data e
    refine ⟨v, hv, sE_bind rel h fun d2 ρ1 u H1 F1 T1 e1 z1 r1 h1 => ?_⟩
    cases q : f d d2 with
    | none => rw [q] at h1; exact h1.elim
    | some z =>
      rw [q] at h1
      obtain ⟨fp, f1, back⟩ := r1.fp
      refine hf2 f1 (zv.mono e1) z1 q fun v2 H2 F2 s2 z2 f2 => ?_
      unfold M.setE at h1
      dsimp only at h1
      split at h1
      · rename_i hl
        exact h1 _ H2 F2 T1 (.of s2) ((back H2 F2 s2 f2).put hl (.fz z2) .nilL)
      · exact h1.elim
  · exact h.elim
theorem p_add {F H : Hp} {T : List Addr} {fp : Fp} {x y : V} {dx dy dz : M.D} {Q : VK} {K : PySem.W.Frag} (f : FpH F H fp) (hx : Fz K F T x dx) (hy : Fz K F T y dy) (h : M.pAddI dx dy = some dz) (k : Grown K F T fp dz Q) : ipI (fun i j => i + j) x y H Q := by
  cases dx <;> cases dy <;> try (cases h; done)
  cases hx; cases hy; cases h
  exact ⟨_, _, rfl, rfl, k.here f (.int _)⟩
theorem p_sub {F H : Hp} {T : List Addr} {fp : Fp} {x y : V} {dx dy dz : M.D} {Q : VK} {K : PySem.W.Frag} (f : FpH F H fp) (hx : Fz K F T x dx) (hy : Fz K F T y dy) (h : M.pSub dx dy = some dz) (k : Grown K F T fp dz Q) : ipI (fun i j => i - j) x y H Q := by
  cases dx <;> cases dy <;> try (cases h; done)
  cases hx; cases hy; cases h
  exact ⟨_, _, rfl, rfl, k.here f (.int _)⟩
theorem RpA.app {K : PySem.W.Frag} {F : Hp} {T : List Addr} : ∀ {vs ws : List V} {os ps : List M.O} {fp fq : Fp}, RpA K F T vs os fp → RpA K F T ws ps fq → RpA K F T (vs ++ ws) (os ++ ps) (fp ++ fq)
  | _, _, _, _, _, _, .nil, h => h
  | _, _, _, _, _, _, .cons a r, h => by
    rw [List.append_assoc]
    exact .cons a (RpA.app r h)
theorem RpA.length {K : PySem.W.Frag} {F : Hp} {T : List Addr} : ∀ {vs : List V} {os : List M.O} {fp : Fp}, RpA K F T vs os fp → vs.length = os.length
  | _, _, _, .nil => rfl
  | _, _, _, .cons _ r => congrArg (· + 1) (RpA.length r)
/-- the list in slot i is changed -/
theorem Rel.slotW {K : PySem.W.Frag} {ρ : M.PSt} {F : Hp} {T : List Addr} {fr : Fp} {i : Nat} {p : Addr} {os : List M.O} (rel : Rel K ρ σ H F T fr) (e : ρ.env[i]? = some (some (.lst os))) (hp : σ[i]? = some (some (.ref p))) :
    ∃ vs f2, H p = some (.lst vs) ∧ RpA K F T vs os f2 ∧ ∀ vs' os' f2' fr', RpA K F T vs' os' f2' → Part (f2' ++ fr') (f2 ++ fr) → Rel K ⟨ρ.env.set i (some (.lst os')), ρ.w⟩ σ (upd H p (.lst vs')) F T fr' := by
  obtain ⟨fe, fw, re, rw, f⟩ := rel
  obtain ⟨v, f1, f2, f3, h1, rfl, h3, h4, h5⟩ := re.get e
  rw [h1] at hp
  cases hp
  cases h3 with
  | lst r =>
    rename_i vs0 fp0
    refine ⟨vs0, fp0, (f.at_ (p, .lst vs0) (by simp)).1, r, fun vs' os' f2' fr' r' pt => ?_⟩
    have e5 := h5 F T (.ref p) (.lst os') ((p, .lst vs') :: f2') .refl (.lst r')
    rw [set_same h1] at e5
    refine ⟨_, fw, e5, rw, ?_⟩
    have fA : FpH F H (f1 ++ ((p, .lst vs0) :: (f3 ++ (fw ++ (fp0 ++ fr))))) := f.part (by
      constructor
      · intro e h
        simp only [List.mem_append, List.mem_cons] at *
        grind
      · intro x
        simp only [keys, List.map_append, List.map_cons, List.count_append, List.count_cons] at *
        omega)
    have fB := fA.write (o' := .lst vs')
    refine fB.part (.trans (b := f1 ++ ((p, .lst vs') :: (f3 ++ (fw ++ (f2' ++ fr'))))) ?_ ?_)
    · constructor
      · intro e h
        simp only [List.mem_append, List.mem_cons] at *
        grind
      · intro x
        simp only [keys, List.map_append, List.map_cons, List.count_append, List.count_cons] at *
        omega
    · have := pt.m
      have := pt.c
      constructor
      · intro e h
        simp only [List.mem_append, List.mem_cons] at *
        grind
      · intro x
        have := pt.c x
        simp only [keys, List.map_append, List.map_cons, List.count_append, List.count_cons] at *
        omega
theorem ss_app {i : Nat} {x : Str} {px apos cpos : Pos} (hv : PE X (.Name x px) (tVar i)) (ha : SO X W a mo)
    (hbase : attributeBase (.Name x px) "append" X.env (eval (.Name x px) X.env) = eval (.Name x px) X.env := by rfl)
    (hfew : ((backTo cpos (starEach [a] X.env)).all (fun x => !x.1) && (backToKw cpos (keywordEach [] X.env)).all (fun x => x.1.isSome)
      && decide ([a].length + ([] : List Keyword).length + (if ([] : List Keyword).isEmpty then 0 else 1) < 30)) = true := by rfl)
    (hline : (apos.endLine == cpos.line) = true := by rfl) (hs : starEach [a] X.env = (false, eval a X.env) :: starEach [] X.env := by rfl) (hplain : (backTo cpos (starEach [] X.env)).any (·.1) = false := by rfl)
    (hsw : swapsWith (.Call (.Attribute (.Name x px) "append" apos) [a] [] cpos) none pos.line X.env = pure false := by rfl) :
    SS X W (.Expr (.Call (.Attribute (.Name x px) "append" apos) [a] [] cpos) pos) (M.sApp i mo) :=
  PS.imp (ps_expr (pe_bm PySem.F.plainAttrs_list PySem.F.slot_list_append PySem.F.type_list_append mt_append hv (pa_cons ha pa_nil hs) hbase hfew hline hs hplain) hsw) fun D σ H ⟨ρ, F, T, fr, rel, h⟩ => by
    unfold M.sApp at h
    split at h
    · rename_i os0 e0
      obtain ⟨fe, fw, re, rw, ff⟩ := id rel
      obtain ⟨v, f1, f2, f3, h1, _, h3, _⟩ := re.get e0
      cases h3 with
      | @lst p vs0 _ fp0 r0 =>
        obtain ⟨vs1, f21, hH, _, _⟩ := rel.slotW e0 h1
        refine ⟨.ref p, h1, .inl ⟨rfl, vs1, SqL.of hH⟩, sO_bind rel h fun o ρ1 u H1 F1 T1 fp e1 z1 r1 h2 => ?_⟩
        split at h2
        · rename_i os e2
          split at h2
          · rename_i hl
            obtain ⟨vs, f2', hH2, r2, back⟩ := r1.slotW e2 h1
            refine ⟨p, vs, u, rfl, rfl, hH2, by rw [r2.length, line_eq]; exact hl, ?_⟩
            have z1' : RpA X.K F1 T1 [u] [o] (fp ++ []) := .cons z1 .nil
            exact h2 σ _ F1 T1 .refl (back _ _ _ fr (r2.app z1') (by
              constructor
              · intro e h
                simp only [List.mem_append, List.not_mem_nil] at *
                grind
              · intro x
                simp only [keys, List.map_append, List.map_nil, List.count_append, List.count_nil] at *
                omega))
          · exact h2.elim
        · exact h2.elim
    · exact h.elim

/-! ### loops -/
theorem for_read {K : PySem.W.Frag} {sl : List Nat} {it : M.MI} {g : M.MG} {b : M.MS} (h : qS K W (M.sFor it g b) D σ H) : tFor (qI K W it) (qG K sl g) (qS K W b) D σ H := by
  obtain ⟨ρ, F, T, fr, rel, h⟩ := h
  refine sI_bind rel h fun ds ρ1 J H1 F1 T1 e1 io r1 h1 => ?_
  refine ⟨fun i m σ2 H2 => m = ds.length - i ∧ i ≤ ds.length ∧ ∃ ρ2 F2 T2, Ext F1 T1 F2 T2 ∧ Rel K ρ2 σ2 H2 F2 T2 fr ∧ PostS K W D F2 T2 fr (M.forL g b (ds.drop i) ρ2), ⟨ds.length, by simp, Nat.zero_le _, ρ1, F1, T1, .refl, r1, h1⟩, ?_⟩
  rintro i m σ2 H2 ⟨rfl, hi, ρ2, F2, T2, e2, r2, h2⟩
  obtain ⟨fe, fw, re, rw, f2⟩ := id r2
  obtain ⟨st, yl⟩ := io F2 T2 H2 _ i e2 f2 hi
  by_cases hl : i = ds.length
  · refine .inl ⟨st hl, ?_⟩
    rw [hl, List.drop_length] at h2
    exact h2 σ2 H2 F2 T2 .refl r2
  · have hlt : i < ds.length := by omega
    obtain ⟨go, yh⟩ := yl ds[i] (List.getElem?_eq_getElem hlt)
    refine .inr ⟨go, fun σ3 H3 => ∃ ρ3 F3 T3, Ext F1 T1 F3 T3 ∧ Rel K ρ3 σ3 H3 F3 T3 fr ∧ PostS K W D F3 T3 fr (M.forL g b (ds.drop (i + 1)) ρ3), fun σ3 H3 n => ⟨ds.length - (i + 1), by omega, rfl, hlt, n⟩, fun x H3 y => ?_⟩
    obtain ⟨F3, s3, zx, f3⟩ := yh x H3 y
    have r3 : Rel K ρ2 σ2 H3 F3 T2 fr := ⟨fe, fw, re.mono (.of s3), rw.mono (.of s3), f3⟩
    rw [List.drop_eq_getElem_cons hlt] at h2
    unfold M.forL at h2
    cases eg : g ds[i] ρ2 with
    | none => rw [eg] at h2; exact h2.elim
    | some ρ4 =>
      rw [eg] at h2
      refine ⟨ρ2, F3, T2, fr, ds[i], ρ4, r3, zx, eg, fun σ4 _ r4 => ⟨ρ4, F3, T2, fr, r4, ?_⟩⟩
      have h3 := PostS.mono h2 (.of s3)
      have e3 : Ext F1 T1 F3 T2 := e2.trans (.of s3)
      dsimp only at h3
      cases eb : b ρ4 with
      | nx ρ5 => rw [eb] at h3; exact fun σ5 H5 F5 T5 e5 r5 => ⟨ρ5, F5, T5, e3.trans e5, r5, PostS.mono h3 e5⟩
      | ct ρ5 => rw [eb] at h3; exact fun σ5 H5 F5 T5 e5 r5 => ⟨ρ5, F5, T5, e3.trans e5, r5, PostS.mono h3 e5⟩
      | bk ρ5 => rw [eb] at h3; exact fun σ5 H5 F5 T5 e5 r5 => h3 σ5 H5 F5 T5 e5 r5
      | rt o w => rw [eb] at h3; exact h3
      | exc x ρ5 => rw [eb] at h3; exact h3
      | bad => rw [eb] at h3; exact h3
theorem ss_for {tg iter : Expr} {sl : List Nat} {it : M.MI} {g : M.MG} (hp : PassesOwn (model X.prog X.w) X.A X.env X.xe) (hc : X.calm = true) (hi : SI X W tg iter it) (hg : SG X tg sl g) (hb : SSs X W body m1)
    (hs : ∀ x, foldedSetIterable iter X.env x = pure x := by intro _; rfl) : SS X W (.For tg iter body [] pos) (M.sFor it g m1) := PS.imp (ps_for hp hc hi hg hb hs) fun D σ H h => for_read h
theorem ss_while (n : Nat) (hp : PassesOwn (model X.prog X.w) X.A X.env X.xe) (hc : ST X W c mt) (hb : SSs X W body m1) : SS X W (.While c body [] pos) (M.sWhile n mt m1) := PS.imp (ps_while hp hc hb) fun D σ H ⟨ρ, F, T, fr, rel, h⟩ => by
  refine ⟨fun m σ2 H2 => ∃ ρ2 F2 T2, Ext F T F2 T2 ∧ Rel X.K ρ2 σ2 H2 F2 T2 fr ∧ PostS X.K W D F2 T2 fr (M.whileL mt m1 m ρ2), ⟨n, ρ, F, T, .refl, rel, h⟩, ?_⟩
  rintro m σ2 H2 ⟨ρ2, F2, T2, e2, r2, h2⟩
  cases m with
  | zero => exact h2.elim
  | succ m =>
    refine sT_bind r2 (show PostS X.K W D F2 T2 fr ((mt ρ2).out _) from h2) fun k ρ3 H3 F3 T3 e3 r3 h3 => ?_
    cases k with
    | false => rw [if_neg Bool.false_ne_true] at h3 ⊢; exact h3 σ2 H3 F3 T3 .refl r3
    | true =>
      rw [if_pos rfl] at h3 ⊢
      have e4 := e2.trans e3
      refine ⟨fun σ4 H4 => ∃ ρ4 F4 T4, Ext F T F4 T4 ∧ Rel X.K ρ4 σ4 H4 F4 T4 fr ∧ PostS X.K W D F4 T4 fr (M.whileL mt m1 m ρ4), fun σ' H' q => ⟨m, Nat.lt_succ_self m, q⟩, ρ3, F3, T3, fr, r3, ?_⟩
      cases eb : m1 ρ3 with
      | nx ρ5 => rw [eb] at h3; exact fun σ5 H5 F5 T5 e5 r5 => ⟨ρ5, F5, T5, e4.trans e5, r5, PostS.mono h3 e5⟩
      | ct ρ5 => rw [eb] at h3; exact fun σ5 H5 F5 T5 e5 r5 => ⟨ρ5, F5, T5, e4.trans e5, r5, PostS.mono h3 e5⟩
      | bk ρ5 => rw [eb] at h3; exact fun σ5 H5 F5 T5 e5 r5 => h3 σ5 H5 F5 T5 e5 r5
      | rt o w => rw [eb] at h3; exact h3
      | exc x ρ5 => rw [eb] at h3; exact h3
      | bad => rw [eb] at h3; exact h3

/-! ### exceptions -/
theorem ss_raise {e : Expr} {x : String} (hc : X.calm = true) (tk : Takes X W) (he : PMk X e (fun _ H Q => Q (.ref (He.ga X.K x)) none H)) : SS X W (.Raise (some e) none pos) (M.sRaise x) := PS.imp (ps_raise hc tk he) fun D σ H ⟨ρ, F, T, fr, rel, h⟩ =>
  h σ _ _ H F T .refl ⟨rfl, .inl ⟨rfl, rfl⟩⟩ rel

/-! ### defs -/
/-- a def keeps its mirror -/
def PostF (K : PySem.W.Frag) (Q : VK) (E : XK) (F : Hp) (T : List Addr) (fr : Fp) : M.FRes → Prop
  | .ok o w' => ∀ v H' F' T' fp, Ext F T F' T' → Rp K F' T' v o fp → Rel K ⟨[], w'⟩ [] H' F' T' (fp ++ fr) → Q v H'
  | .exc x w' => ∀ cls dd H' F' T', Ext F T F' T' → XcR K F' T' x cls dd → Rel K ⟨[], w'⟩ [] H' F' T' fr → E cls dd H'
  | .bad => False
def spM (K : PySem.W.Frag) (m : M.MF) : Sp := fun vs H Q E => ∃ ds w F T fr, FzA K F T vs ds ∧ Rel K ⟨[], w⟩ [] H F T fr ∧ PostF K Q E F T fr (m ds w)
theorem RpE.start {K : PySem.W.Frag} {F : Hp} {T : List Addr} {n : Nat} : ∀ {vs : List V} {ds : List M.D}, FzA K F T vs ds → RpE K F T (vs.map some ++ List.replicate n none) (ds.map (fun d => some (.fz d)) ++ List.replicate n none) []
  | _, _, .nil => by
    show RpE K F T (List.replicate n none) (List.replicate n none) []
    induction n with
    | zero => exact .nil
    | succ n ih => exact .off ih
  | _, _, .cons z r => RpE.on (fp := []) (fq := []) (.fz z) (RpE.start r)
end
section
variable {P : Program} {w : World} {K : PySem.W.Frag} {mg : Str → Option Value} {base : Heap}
theorem okM {x qual : Str} {st : Stmt} {f : Addr} {fd : FuncData} {N ps : List Str} {k j n : Nat} {b : M.MS} (F : FunD K x qual (defArgs st) (defBody st) (defScope st) [] [] f fd) (S : FnScope N ps (defScope st)) (hj : ps.length = j) (hn : N.length = n)
    (hbody : ∀ (cdv : Value) (A : Around) (outer : List Env) (s : Shared) (H : Hp) (E : XK), Room k (A.deeper (envOfC qual (defScope st) s.heap.objs.size f cdv)) →
      SSs (cxOf (L2.CX P w) P w K mg base N qual (defScope st) f cdv A outer s H E) (fun cls d _ H => E cls d H) (defBody st) b) : FnOk P w K mg base (L2.CX P w) (k + 1) f fd ps (spM K (M.fnM j n b)) := by
  refine okX F S (fun vs H Q E h => ?_) fun cdv A outer s H vs Q E hr h => ⟨_, hbody cdv A outer s H E hr, ?_⟩
  · obtain ⟨ds, w', F', T, fr, za, rel, h⟩ := h
    unfold M.fnM at h
    by_cases hl : ds.length = j
    · rw [za.length, hl, hj]
    · rw [if_neg hl] at h; exact h.elim
  · obtain ⟨ds, w', F', T, fr, za, rel, h⟩ := h
    unfold M.fnM at h
    by_cases hl : ds.length = j
    · rw [if_pos hl] at h
      obtain ⟨fe, fw, re, rw', ff⟩ := rel
      cases re
      have re' : RpE K F' T (L2.start N vs) (ds.map (fun d => some (.fz d)) ++ List.replicate (n - j) none) [] := by
        unfold L2.start
        rw [hn, za.length, hl]
        exact RpE.start za
      refine ⟨⟨_, w'⟩, F', T, fr, ⟨[], fw, re', rw', ff⟩, ?_⟩
      generalize b ⟨ds.map (fun d => some (.fz d)) ++ List.replicate (n - j) none, w'⟩ = r at h
      cases r with
      | nx ρ => exact fun σ' H' F2 T2 e2 r2 => h .non H' F2 T2 [] e2 (.fz .non) r2.noenv
      | rt o w2 => exact fun v H' F2 T2 fp e2 z2 r2 => h v H' F2 T2 fp e2 z2 r2
      | exc x ρ => exact fun σ' cls dd H' F2 T2 e2 z2 r2 => h cls dd H' F2 T2 e2 z2 r2.noenv
      | bk ρ => exact h.elim
      | ct ρ => exact h.elim
      | bad => exact h.elim
    · rw [if_neg hl] at h; exact h.elim
end
section
variable {X : Cx} {k : Nat} {x : Str} {ps : List Str} {p pos : Pos} {e : Expr} {es : List Expr} {as : M.MA} {W : WX} {m : M.MF}
theorem call_read {K : PySem.W.Frag} {σ : St} {H : Hp} {Q : VK} (h : qO K W (M.oCall m as) σ H Q) : tCallS (spM K m) (WE W) (qA K W as) σ H Q := by
  obtain ⟨ρ, F, T, fr, rel, h⟩ := h
  refine qA_bind rel h fun ds ρ1 vs H1 F1 T1 e1 z1 r1 h1 => ?_
  obtain ⟨fe, fw, re, rw, f⟩ := r1
  refine ⟨ds, ρ1.w, F1, T1, fe ++ fr, z1, ⟨[], fw, .nil, rw, f.part (Part.swap : Part (fw ++ (fe ++ fr)) (fe ++ (fw ++ fr)))⟩, ?_⟩
  cases em : m ds ρ1.w with
  | bad => rw [em] at h1; exact h1.elim
  | ok o w' =>
    rw [em] at h1
    refine fun v H' F' T' fp e z r => h1 v H' F' T' fp (e1.trans e) z ?_
    obtain ⟨fe', fw', re', rw', f'⟩ := r
    cases re'
    refine ⟨fe, fw', re.mono e, rw', f'.part ?_⟩
    constructor
    · intro e h
      simp only [List.mem_append, List.not_mem_nil] at *
      grind
    · intro x
      simp only [keys, List.map_append, List.map_nil, List.count_append, List.count_nil] at *
      omega
  | exc x w' =>
    rw [em] at h1
    refine fun cls dd H' F' T' e z r => h1 cls dd H' F' T' e z ?_
    obtain ⟨fe', fw', re', rw', f'⟩ := r
    cases re'
    refine ⟨fe, fw', re.mono e, rw', f'.part ?_⟩
    constructor
    · intro e h
      simp only [List.mem_append, List.not_mem_nil] at *
      grind
    · intro x
      simp only [keys, List.map_append, List.map_nil, List.count_append, List.count_nil] at *
      omega
theorem so_call (F : Ok X.prog X.w X.K X.mg X.base k x ps (spM X.K m)) (hr : Room k X.A) (hg : Gl X x) (tk : Takes X W) (ha : SA X W (e :: es) as) (hdb : (x == ("__debug__" : Str)) = false := by decide)
    (he : starEach (e :: es) X.env = (false, eval e X.env) :: starEach es X.env := by rfl) (hpl : (backTo pos (starEach es X.env)).any (·.1) = false := by rfl) : SO X W (.Call (.Name x p) (e :: es) [] pos) (M.oCall m as) :=
  PE.imp (pe_callD F hr hg tk ha hdb he hpl) fun _ _ _ h => call_read h
theorem so_call0 (F : Ok X.prog X.w X.K X.mg X.base k x ps (spM X.K m)) (hr : Room k X.A) (hg : Gl X x) (tk : Takes X W) (hdb : (x == ("__debug__" : Str)) = false := by decide) : SO X W (.Call (.Name x p) [] [] pos) (M.oCall m M.aNil) := by
  obtain ⟨fd, F, b, kp, hm⟩ := F
  refine ⟨fun pins s σ H Q I h => ?_⟩
  refine wpAny_Call_Name_kw (ld_glob I hg hm ?_ hdb)
  have h' := call_read h
  obtain ⟨ρ, F', T, fr, rel, h2⟩ := h'
  exact PySem.W.callWith_K0 I.kIn kp (run_fnS (us := []) F hr b (passAt tk σ) I .nil (h2 [] H F' T .refl .nil rel))
/-- .. within a comprehension -/
theorem takes_W0 : Takes X W0 := fun _ _ ⟨_, _, _, _, _, _, _, _, _, _, _, _, _, _, _, _, w⟩ => w.elim
end
end S

/-! More rules: in, join, sum, sorted, find; objects of the world; try. -/
namespace S
open PySem PySem.Spec PyProof.Rows L2
section
variable {K : PySem.W.Frag}
/-! ### in, not in -/
theorem eqV_D {F : Hp} {T : List Addr} {x y : V} {dx dy : M.D} (hx : Fz K F T x dx) (hy : Fz K F T y dy) (sx' : M.sca dx = true) (sy : M.sca dy = true) : eqV y x = M.eqb dy dx ∧ flatV x = true := by
  cases dx <;> try (cases sx'; done)
  all_goals cases dy <;> try (cases sy; done)
  all_goals first
    | (cases hx; cases hy; exact ⟨rfl, rfl⟩)
    | skip
  obtain ⟨rfl, _⟩ := hx.str_inv
  obtain ⟨rfl, _⟩ := hy.str_inv
  exact ⟨sx_beq _ _, rfl⟩
theorem inV_D {F : Hp} {T : List Addr} {x : V} {dx : M.D} (hx : Fz K F T x dx) (sx' : M.sca dx = true) : ∀ {vs : List V} {ds : List M.D}, FzA K F T vs ds → ds.all M.sca = true → inV x vs = ds.any (fun d => M.eqb d dx) ∧ vs.all flatV = true
  | _, _, .nil, _ => ⟨rfl, rfl⟩
  | _, _, .cons z r, h => by
    rw [List.all_cons, Bool.and_eq_true] at h
    obtain ⟨h1, h2⟩ := inV_D hx sx' r h.2
    obtain ⟨h3, h4⟩ := eqV_D hx z sx' h.1
    obtain ⟨_, h5⟩ := eqV_D z z h.1 h.1
    refine ⟨?_, ?_⟩
    · show (eqV _ x || inV x _) = _
      rw [List.any_cons, h3, h1]
    · rw [List.all_cons, h5, h2]; rfl
theorem flat_D {F : Hp} {T : List Addr} {x : V} {dx : M.D} (hx : Fz K F T x dx) (s : M.sca dx = true) : flatV x = true := (eqV_D hx hx s s).2
theorem in_shape {dx dy dz : M.D} (h : M.pIn dx dy = some dz) : (∃ c s, dx = .str [c] ∧ dy = .str s ∧ dz = .bl (decide (c ∈ s))) ∨ (∃ ds, (dy = .lst ds ∨ dy = .tup ds) ∧ M.sca dx = true ∧ ds.all M.sca = true ∧ dz = .bl (ds.any fun d => M.eqb d dx)) := by
  unfold M.pIn at h
  split at h
  · exact .inl ⟨_, _, rfl, rfl, (Option.some.inj h).symm⟩
  · split at h
    · rename_i c; exact .inr ⟨_, .inl rfl, c.1, c.2, (Option.some.inj h).symm⟩
    · cases h
  · split at h
    · rename_i c; exact .inr ⟨_, .inr rfl, c.1, c.2, (Option.some.inj h).symm⟩
    · cases h
  · cases h
theorem sx_one (c : Nat) : sx [c] = ⟨#[c]⟩ := rfl
theorem o_in : Op2 K M.pIn (rInU K) := by
  intro F H T fp x y dx dy dz Q f hx hy h k
  rcases in_shape h with ⟨c, s, rfl, rfl, rfl⟩ | ⟨ds, e, h1, h2, rfl⟩
  · obtain ⟨rfl, o1⟩ := hx.str_inv
    obtain ⟨rfl, o2⟩ := hy.str_inv
    exact .inl ⟨c, _, rfl, rfl, k.here f (.bl _)⟩
  · rcases e with rfl | rfl
    · obtain ⟨a, vs, rfl, ha, za⟩ := hy.lst_inv
      obtain ⟨e1, e2⟩ := inV_D hx h1 za h2
      refine .inr (.inl ⟨a, vs, rfl, .inl (SqL.of (f.low _ _ ha)), flat_D hx h1, e2, ?_⟩)
      rw [if_neg Bool.false_ne_true, e1]
      exact k.here f (.bl _)
    · obtain ⟨a, vs, rfl, ha, za⟩ := hy.tup_inv
      obtain ⟨e1, e2⟩ := inV_D hx h1 za h2
      refine .inr (.inl ⟨a, vs, rfl, .inr (seqT f.low ha), flat_D hx h1, e2, ?_⟩)
      rw [if_neg Bool.false_ne_true, e1]
      exact k.here f (.bl _)
theorem o_notin : Op2 K M.pNotIn (rNotInU K) := by
  intro F H T fp x y dx dy dz Q f hx hy h k
  unfold M.pNotIn at h
  split at h
  · rename_i b hb
    cases h
    rcases in_shape hb with ⟨c, s, rfl, rfl, eb⟩ | ⟨ds, e, h1, h2, eb⟩
    · cases eb
      obtain ⟨rfl, o1⟩ := hx.str_inv
      obtain ⟨rfl, o2⟩ := hy.str_inv
      exact .inl ⟨c, _, rfl, rfl, k.here f (.bl _)⟩
    · cases eb
      rcases e with rfl | rfl
      · obtain ⟨a, vs, rfl, ha, za⟩ := hy.lst_inv
        obtain ⟨e1, e2⟩ := inV_D hx h1 za h2
        refine .inr (.inl ⟨a, vs, rfl, .inl (SqL.of (f.low _ _ ha)), flat_D hx h1, e2, ?_⟩)
        rw [if_pos rfl, e1]
        exact k.here f (.bl _)
      · obtain ⟨a, vs, rfl, ha, za⟩ := hy.tup_inv
        obtain ⟨e1, e2⟩ := inV_D hx h1 za h2
        refine .inr (.inl ⟨a, vs, rfl, .inr (seqT f.low ha), flat_D hx h1, e2, ?_⟩)
        rw [if_pos rfl, e1]
        exact k.here f (.bl _)
  · cases h

/-! ### texts -/
theorem strs_inv {F : Hp} {T : List Addr} : ∀ {vs : List V} {ds : List M.D} {ss : List M.Tx}, FzA K F T vs ds → M.txsOf ds = some ss → vs = (ss.map sx).map V.str ∧ ∀ s ∈ ss, okT s
  | _, _, ss, .nil, h => by cases h; exact ⟨rfl, fun s h => nomatch h⟩
  | _, d :: ds, ss, .cons a r, h => by
    cases d <;> try (cases h; done)
    rename_i b
    cases q : M.txsOf ds with
    | none => simp only [M.txsOf, q] at h; cases h
    | some cs =>
      simp only [M.txsOf, q, Option.map_some] at h
      cases h
      obtain ⟨rfl, o⟩ := a.str_inv
      obtain ⟨rfl, os⟩ := strs_inv r q
      refine ⟨rfl, fun s hs => ?_⟩
      rcases List.mem_cons.mp hs with rfl | hs
      · exact o
      · exact os s hs
theorem joinL_eq (sep : M.Tx) : ∀ ss : List M.Tx, TL.joinL sep ss = M.joinT sep ss
  | [] => rfl
  | [_] => rfl
  | a :: b :: r => by
    show a ++ (sep ++ TL.joinL sep (b :: r)) = a ++ (sep ++ M.joinT sep (b :: r))
    rw [joinL_eq sep (b :: r)]
theorem join_sx (sep : M.Tx) (ss : List M.Tx) : Txt.join (sx sep) (ss.map sx) = sx (M.joinT sep ss) := by
  rw [TL.join_eq]
  refine str_ext ?_
  have := TL.tl_join (sx sep) (ss.map sx)
  rw [List.map_map, show ss.map (TL.tl ∘ sx) = ss from (List.map_congr_left fun a _ => rfl).trans (List.map_id ss), show TL.tl (sx sep) = sep from rfl, joinL_eq] at this
  exact this
theorem joinT_mem (sep : M.Tx) : ∀ (ss : List M.Tx) (c : Nat), c ∈ M.joinT sep ss → c ∈ sep ∨ ∃ s ∈ ss, c ∈ s
  | [], c, h => by cases h
  | [a], c, h => .inr ⟨a, by simp, h⟩
  | a :: b :: r, c, h => by
    rcases List.mem_append.mp (show c ∈ a ++ (sep ++ M.joinT sep (b :: r)) from h) with h | h
    · exact .inr ⟨a, by simp, h⟩
    · rcases List.mem_append.mp h with h | h
      · exact .inl h
      · rcases joinT_mem sep (b :: r) c h with h | ⟨s, h1, h2⟩
        · exact .inl h
        · exact .inr ⟨s, List.mem_cons_of_mem _ h1, h2⟩
theorem joinT_len (sep : M.Tx) : ∀ (ss : List M.Tx), (M.joinT sep ss).length ≤ (ss.map List.length).sum + ss.length * sep.length
  | [] => by simp [M.joinT]
  | [a] => by simp [M.joinT]
  | a :: b :: r => by
    have ih := joinT_len sep (b :: r)
    show (a ++ (sep ++ M.joinT sep (b :: r))).length ≤ _
    rw [List.length_append, List.length_append, List.map_cons, List.sum_cons, List.length_cons (as := b :: r), Nat.succ_mul]
    omega
/-- a method of a text -/
def MtD (K : PySem.W.Frag) (f : M.Tx → List M.D → Option M.D) (r : V → List V → Hp → VK → Prop) : Prop := ∀ {F H : Hp} {T : List Addr} {fp : Fp} {s : M.Tx} {xs : List V} {ds : List M.D} {dz : M.D} {Q : VK}, FpH F H fp → okT s → FzA K F T xs ds → f s ds = some dz → Grown K F T fp dz Q → r (.str (sx s)) xs H Q
theorem FzA.one {F : Hp} {T : List Addr} {xs : List V} {d : M.D} (h : FzA K F T xs [d]) : ∃ v, xs = [v] ∧ Fz K F T v d := by
  cases h with
  | cons a r => cases r; exact ⟨_, rfl, a⟩
theorem m_join : MtD K M.mJoin (rJoin K) := by
  intro F H T fp a xs ds dz Q f oa hx h k
  have fin : ∀ {ds : List M.D} {p : Addr} {vs : List V}, (SqL K H p vs ∨ SqT K H p vs) → FzA K F T vs ds → ((M.txsOf ds).bind fun ys => if (ys.map List.length).sum + ys.length * a.length ≤ M.LINE then some (M.D.str (M.joinT a ys)) else none) = some dz → rJoin K (.str (sx a)) [.ref p] H Q := by
    intro ds p vs hp za e
    cases q : M.txsOf ds with
    | none => rw [q] at e; cases e
    | some ss =>
      rw [q, Option.bind_some] at e
      split at e
      · rename_i hl
        cases e
        obtain ⟨rfl, os⟩ := strs_inv za q
        refine ⟨_, p, ss.map sx, rfl, rfl, hp, ?_, ?_⟩
        · rw [List.map_map, show ss.map (Str.length ∘ sx) = ss.map List.length from List.map_congr_left fun s _ => sx_len s, List.length_map, sx_len]
          exact hl
        · rw [join_sx]
          refine k.here f (.str ⟨fun c hc => ?_, Nat.le_trans (joinT_len a ss) hl⟩)
          rcases joinT_mem a ss c hc with h | ⟨s, h1, h2⟩
          · exact oa.1 c h
          · exact (os s h1).1 c h2
      · cases e
  unfold M.mJoin at h
  split at h
  · obtain ⟨v, rfl, z⟩ := hx.one
    obtain ⟨p, vs, rfl, ha, za⟩ := z.lst_inv
    exact fin (.inl (SqL.of (f.low _ _ ha))) za h
  · obtain ⟨v, rfl, z⟩ := hx.one
    obtain ⟨p, vs, rfl, ha, za⟩ := z.tup_inv
    exact fin (.inr (seqT f.low ha)) za h
  · cases h
theorem isAt_eq (a b : M.Tx) (i : Nat) : (decide (i + (sx b).length ≤ (sx a).length) && Builtin.Str.subAt (sx a) (sx b) i) = M.isAt a b i := by
  rw [sx_len, sx_len, PySem.StrLaws.subAt_eq, sx_cps, sx_cps, sx_len]
  unfold M.isAt
  congr 1
  rw [Bool.eq_iff_iff]
  simp
end
section
variable {X : Cx} {W : WX} {K : PySem.W.Frag} {cpos apos p : Pos} {name : Str} {id T : String} {o e : Expr} {es : List Expr} {mo : M.ME} {as : M.MA} {σ : St} {H : Hp} {Q : VK}
theorem mt_read {f : M.Tx → List M.D → Option M.D} {r : V → List V → Hp → VK → Prop} (hf : MtD K f r) (h : qE K W (M.eMt f mo as) σ H Q) : tBM K "str" r (qE K W mo) (qA K W as) σ H Q := by
  obtain ⟨ρ, F, T, fr, rel, h⟩ := h
  refine qE_bind rel h fun dx ρ1 v H1 F1 T1 e1 z1 r1 h1 => ?_
  cases dx <;> try exact h1.elim
  obtain ⟨rfl, o⟩ := z1.str_inv
  refine ⟨rfl, ?_⟩
  refine qA_bind r1 h1 fun ds ρ2 vs H2 F2 T2 e2 z2 r2 h2 => ?_
  obtain ⟨dz, ez, q⟩ := Post.ofO h2
  obtain ⟨fp, f2, back⟩ := r2.fp
  exact hf f2 o z2 ez fun v' H3 F3 s zz f3 => q v' H3 F3 T2 (e1.trans (e2.trans (.of s))) zz (back H3 F3 s f3)
theorem se_mt {f : M.Tx → List M.D → Option M.D} {r : V → List V → Hp → VK → Prop} (slot : Slot "str" name id) (hty : typeOf (.builtin id) = pure (.type "method_descriptor")) (hm : MtR X id r) (hf : MtD X.K f r) (ho : SE X W o mo) (ha : SA X W (e :: es) as)
    (hbase : attributeBase o name X.env (eval o X.env) = eval o X.env := by rfl)
    (hfew : ((backTo cpos (starEach (e :: es) X.env)).all (fun x => !x.1) && (backToKw cpos (keywordEach [] X.env)).all (fun x => x.1.isSome)
      && decide ((e :: es).length + ([] : List Keyword).length + (if ([] : List Keyword).isEmpty then 0 else 1) < 30)) = true := by rfl)
    (hline : (apos.endLine == cpos.line) = true := by rfl) (hs : starEach (e :: es) X.env = (false, eval e X.env) :: starEach es X.env := by rfl) (hplain : (backTo cpos (starEach es X.env)).any (·.1) = false := by rfl) :
    SE X W (.Call (.Attribute o name apos) (e :: es) [] cpos) (M.eMt f mo as) := PE.imp (pe_bm PySem.F.plainAttrs_str slot hty hm ho ha hbase hfew hline hs hplain) fun _ _ _ h => mt_read hf h
end
end S

/-! Objects of the world; slots looked at; sum, sorted; try. -/
namespace S
open PySem PySem.Spec PyProof.Rows L2
section
variable {K : PySem.W.Frag} {F F' H H' : Hp} {T T' : List Addr} {fp fq fr : Fp} {ρ : M.PSt} {σ : St} {W : WX} {Q : VK}
theorem RpW.get {l : List Addr} {w : M.W} {n : Nat} {ob : M.Ob} (r : RpW K F T l w fp) (h : w[n]? = some ob) : ∃ a f1 f2 f3, l[n]? = some a ∧ fp = f1 ++ (f2 ++ f3) ∧ RpOb K F T a ob f2 ∧
    ∀ F' T' ob' f2', Ext F T F' T' → RpOb K F' T' a ob' f2' → RpW K F' T' l (w.set n ob') (f1 ++ (f2' ++ f3)) := by
  induction r generalizing n with
  | nil => cases h
  | @cons a l ob0 w fa fb r0 r ih =>
    cases n with
    | zero =>
      cases h
      exact ⟨a, [], fa, fb, rfl, rfl, r0, fun F' T' ob' f2' e r' => (RpW.cons r' (r.mono e) : RpW K F' T' _ _ (f2' ++ fb))⟩
    | succ n =>
      obtain ⟨a', f1, f2, f3, h1, rfl, h3, h4⟩ := ih (n := n) h
      refine ⟨a', fa ++ f1, f2, f3, h1, by simp, h3, fun F' T' ob' f2' e r' => ?_⟩
      rw [List.append_assoc]
      exact .cons (r0.mono e) (h4 F' T' ob' f2' e r')
theorem RpW.len {l : List Addr} {w : M.W} (r : RpW K F T l w fp) : l.length = w.length := by
  induction r with
  | nil => rfl
  | cons _ _ ih => exact congrArg (· + 1) ih
theorem RpA.get : ∀ {vs : List V} {os : List M.O} {fp : Fp} {i : Nat} {d : M.D}, RpA K F T vs os fp → os[i]? = some (.fz d) → ∃ v, vs[i]? = some v ∧ Fz K F T v d
  | _, _, _, _, _, .nil, e => by cases e
  | _, _, _, 0, _, .cons h _, e => by
    have e := Option.some.inj e
    subst e
    cases h with
    | fz z => exact ⟨_, rfl, z⟩
  | _, _, _, i + 1, _, .cons _ r, e => RpA.get (i := i) r e
/-- items of the list at p, looked at -/
theorem RpA.ati {vs : List V} {os : List M.O} {i : Int} {d : M.D} (h : RpA K F T vs os fp) (e : M.ati os i = some (.fz d)) : ∃ v, atI vs i = some v ∧ Fz K F T v d := by
  unfold M.ati at e
  unfold atI
  rw [h.length]
  cases q : M.ixn os.length i with
  | none => rw [q] at e; cases e
  | some j =>
    rw [q] at e
    obtain ⟨v, h1, h2⟩ := h.get (i := j) e
    have q' : ixN os.length i = some j := q
    rw [q']
    exact ⟨v, h1, h2⟩
/-- the world's list at n -/
theorem Rel.wlist (rel : Rel K ρ σ H F T fr) {n : Nat} {os : List M.O} (h : ρ.w[n]? = some (.lst os)) : ∃ a vs f2, T[n]? = some a ∧ H a = some (.lst vs) ∧ RpA K F T vs os f2 ∧
    ∀ vs' os' f2' fr', RpA K F T vs' os' f2' → Part (f2' ++ fr') (f2 ++ fr) → Rel K ⟨ρ.env, ρ.w.set n (.lst os')⟩ σ (upd H a (.lst vs')) F T fr' := by
  obtain ⟨fe, fw, re, rw, f⟩ := rel
  obtain ⟨a, f1, f2, f3, h1, rfl, h3, h4⟩ := rw.get h
  cases h3 with
  | lst r =>
    rename_i vs fp0
    refine ⟨a, vs, fp0, h1, (f.at_ (a, .lst vs) (by simp)).1, r, fun vs' os' f2' fr' r' pt => ?_⟩
    have e5 := h4 F T (.lst os') ((a, .lst vs') :: f2') .refl (.lst r')
    refine ⟨fe, _, re, e5, ?_⟩
    have fA : FpH F H ((fe ++ f1) ++ ((a, .lst vs) :: (f3 ++ (fp0 ++ fr)))) := f.part (by
      constructor
      · intro e h
        simp only [List.mem_append, List.mem_cons] at *
        grind
      · intro x
        simp only [keys, List.map_append, List.map_cons, List.count_append, List.count_cons] at *
        omega)
    have fB := fA.write (o' := .lst vs')
    refine fB.part ?_
    have pm := pt.m
    constructor
    · intro e h
      have := pm e
      simp only [List.mem_append, List.mem_cons] at *
      grind
    · intro x
      have := pt.c x
      simp only [keys, List.map_append, List.map_cons, List.count_append, List.count_cons] at *
      omega
theorem RpA.set {v : V} {d : M.D} (zd : Fz K F T v d) : ∀ {os : List M.O} {vs : List V} {f2 : Fp} (j : Nat), RpA K F T vs os f2 → ∃ f2', RpA K F T (vs.set j v) (os.set j (.fz d)) f2' ∧ Part f2' f2
  | [], _, _, _, .nil => ⟨[], .nil, .refl⟩
  | o :: os, _, _, 0, .cons r0 r => ⟨_, RpA.cons (fp := []) (.fz zd) r, .right .refl⟩
  | o :: os, _, _, j + 1, .cons r0 r => by
    obtain ⟨f2', q1, q2⟩ := RpA.set zd j r
    exact ⟨_, .cons r0 q1, .app .refl q2⟩
theorem RpA.set' {v : V} {d : M.D} {vs : List V} {os : List M.O} {fp : Fp} (h : RpA K F T vs os fp) (j : Nat) (zd : Fz K F T v d) : ∃ f2', RpA K F T (vs.set j v) (os.set j (.fz d)) f2' ∧ Part f2' fp := RpA.set zd j h
theorem stoW_inv {w w' : M.W} {x k d : M.D} (h : M.stoW w x k d = some w') : ∃ n z os j, x = .obj n ∧ k = .int z ∧ w[n]? = some (.lst os) ∧ M.ixn os.length z = some j ∧ w' = w.set n (.lst (os.set j (.fz d))) := by
  unfold M.stoW at h
  split at h
  · rename_i n z
    split at h
    · rename_i os e
      cases q : M.ixn os.length z with
      | none => rw [q] at h; cases h
      | some j =>
        rw [q] at h
        cases h
        exact ⟨n, z, os, j, rfl, rfl, e, q, rfl⟩
    · cases h
  · cases h
/-- x[k] of an object of the world, or of data -/
theorem ixW_read {ma mb : M.ME} (h : qE K W (M.eIxW ma mb) σ H Q) : tOp (rIx K) (qE K W ma) (qE K W mb) σ H Q := by
  obtain ⟨ρ, F, T, fr, rel, h⟩ := h
  refine qE_bind rel h fun dx ρ1 v H1 F1 T1 e1 z1 r1 h1 => ?_
  refine qE_bind r1 h1 fun dy ρ2 u H2 F2 T2 e2 z2 r2 h2 => ?_
  obtain ⟨dz, ez, q⟩ := Post.ofO h2
  by_cases ho : ∃ n, dx = .obj n
  · obtain ⟨n, rfl⟩ := ho
    cases e : ρ2.w[n]? with
    | none => simp only [M.ixW, e] at ez; cases ez
    | some ob =>
      cases ob with
      | lst os =>
        simp only [M.ixW, e] at ez
        obtain ⟨a, vs, f2, h3, h4, h5, _⟩ := r2.wlist e
        cases z1.mono e2 with
        | obj t =>
          rw [h3] at t
          cases t
          cases dy <;> try (cases ez; done)
          rename_i i
          cases z2
          unfold M.ixO at ez
          cases e6 : M.ati os i with
          | none => simp only [e6] at ez; cases ez
          | some o =>
            cases o <;> simp only [e6] at ez <;> try (cases ez; done)
            cases ez
            obtain ⟨v', h7, h8⟩ := h5.ati e6
            exact .inl ⟨_, vs, i, v', rfl, rfl, SqL.of h4, h7, q v' H2 F2 T2 (e1.trans e2) h8 r2⟩
      | dct ks vs => simp only [M.ixW, e] at ez; cases ez
      | ins C fs => simp only [M.ixW, e] at ez; cases ez
  · have ez' : M.pIx dx dy = some dz := by
      cases dx <;> first | exact ez | exact absurd ⟨_, rfl⟩ ho
    obtain ⟨fp, f2, back⟩ := r2.fp
    exact o_ix f2 (z1.mono e2) z2 ez' fun v' H3 F3 s zz f3 => q v' H3 F3 T2 (e1.trans (e2.trans (.of s))) zz (back H3 F3 s f3)
end
section
variable {X : Cx} {W : WX} {pos tpos : Pos} {a b o i : Expr} {ma mb mo mi : M.ME} {as : M.MA} {es : List Expr} {σ : St} {H : Hp} {Q : VK}
theorem se_ixW (ha : SE X W a ma) (hb : SE X W b mb) (hs : PlainIx b) : SE X W (.Subscript a b pos) (M.eIxW ma mb) := PE.imp (pe_ix ix_seq ha hb hs) fun _ _ _ h => ixW_read h
/-- o[k] = e, o an object of the world -/
theorem ss_stoW (ha : SE X W a ma) (ho : SE X W o mo) (hi : SE X W i mi)
    (hst : ∀ v, assign (.Subscript o i tpos) X.env v = (do
      let ov ← holding [v] (eval o X.env)
      let iv ← holding [v, ov] (eval i X.env)
      standAt tpos
      holding [v, ov, iv] (setItem ov iv v)
      release [v, ov, iv] []) := by intro _; rfl)
    (hs : swapsWithSole [.Subscript o i tpos] a pos.line X.env = pure false := by rfl) (hw : swappedStores [.Subscript o i tpos] a X.env = pure none := by rfl)
    (h1 : (assignEach [.Subscript o i tpos] X.env).map (·.2) = [assign (.Subscript o i tpos) X.env] := by rfl) : SS X W (.Assign [.Subscript o i tpos] a pos) (M.sStoW mo mi ma) :=
  PS.imp (ps_asg ha (pg_sub ho hi set_list hst) hs hw h1) fun D σ H ⟨ρ, F, T, fr, rel, h⟩ => by
    refine sE_bind rel h fun d ρ1 v H1 F1 T1 e1 z1 r1 h1 => ?_
    refine sE_bind r1 h1 fun dx ρ2 u H2 F2 T2 e2 z2 r2 h2 => ?_
    refine sE_bind r2 h2 fun dk ρ3 t H3 F3 T3 e3 z3 r3 h3 => ?_
    cases es : M.stoW ρ3.w dx dk d with
    | none => rw [es] at h3; exact h3.elim
    | some w' =>
      rw [es] at h3
      obtain ⟨n, z, os, j, rfl, rfl, e, ej, rfl⟩ := stoW_inv es
      cases z3
      obtain ⟨p, vs, f2, h4, h5, h6, back⟩ := r3.wlist e
      cases z2.mono e3 with
      | obj t =>
        rw [h4] at t
        cases t
        have ej' : ixN vs.length z = some j := by rw [h6.length]; exact ej
        obtain ⟨f2', q1, q2⟩ := h6.set' j ((z1.mono e2).mono e3)
        exact ⟨p, vs, z, j, rfl, rfl, h5, ej', h3 σ _ F3 T3 .refl (back _ _ f2' fr q1 (.app q2 .refl))⟩
/-- [a, b, ..] as a new object of the world -/
theorem so_obj (h : SA X W es as) : SO X W (.List es pos) (M.oObj as) := PE.imp (pe_lst h) fun σ H Q ⟨ρ, F, T, fr, rel, h⟩ => by
  refine qA_bind rel h fun ds ρ1 vs H1 F1 T1 e1 z1 r1 h1 => ?_
  split at h1
  · rename_i hl
    refine ⟨by rw [z1.length, line_eq]; exact hl, fun p hp => ?_⟩
    obtain ⟨fe, fw, re, rw, f⟩ := r1
    have eT : Ext F1 T1 F1 (T1 ++ [p]) := ⟨fun _ _ h => h, ⟨[p], rfl⟩⟩
    have hn : (T1 ++ [p])[ρ1.w.length]? = some p := by rw [← rw.len, List.getElem?_append_right (Nat.le_refl _), Nat.sub_self]; rfl
    have app : ∀ {l : List Addr} {w : M.W} {fw : Fp}, RpW X.K F1 T1 l w fw → ∃ fw', RpW X.K F1 (T1 ++ [p]) (l ++ [p]) (w ++ [.lst (ds.map .fz)]) fw' ∧ Part fw' ((p, .lst vs) :: fw) := by
      intro l w fw r
      induction r with
      | nil => exact ⟨_, RpW.cons (RpOb.lst (RpA.of_fz (z1.mono eT))) .nil, by simp only [List.append_nil]; exact .refl⟩
      | @cons a l ob w fa fb r0 r ih =>
        obtain ⟨fw', q1, q2⟩ := ih
        refine ⟨fa ++ fw', .cons (r0.mono eT) q1, ?_⟩
        have p1 : Part (fa ++ fw') (fa ++ ((p, .lst vs) :: fb)) := .app .refl q2
        refine p1.trans ?_
        constructor
        · intro e h
          simp only [List.mem_append, List.mem_cons] at *
          grind
        · intro x
          simp only [keys, List.map_append, List.map_cons, List.count_append, List.count_cons] at *
          omega
    obtain ⟨fw', q1, q2⟩ := app rw
    refine h1 (.ref p) (upd H1 p (.lst vs)) F1 (T1 ++ [p]) [] (e1.trans eT) (.fz (.obj hn)) ⟨fe, fw', re.mono eT, q1, ?_⟩
    refine (f.own hp).part ?_
    have p1 : Part (fe ++ (fw' ++ ([] ++ fr))) (fe ++ (((p, .lst vs) :: fw) ++ fr)) := .app .refl (.app q2 .nilL)
    refine p1.trans ?_
    constructor
    · intro e h
      simp only [List.mem_append, List.mem_cons] at *
      grind
    · intro x
      simp only [keys, List.map_append, List.map_cons, List.count_append, List.count_cons] at *
      omega
  · exact h1.elim
/-! ### slots looked at -/
/-- the items of a list that the slot i holds alone, or of data -/
theorem se_ixV {n : Nat} (hv : PE X a (tVar n)) (hb : SE X W b mb) (hs : PlainIx b) : SE X W (.Subscript a b pos) (M.eIxV n mb) := PE.imp (pe_ix ix_seq hv hb hs) fun σ H Q ⟨ρ, F, T, fr, rel, h⟩ => by
  unfold M.eIxV at h
  split at h
  · rename_i o0 e0
    obtain ⟨fe, fw, re, rw, f⟩ := id rel
    obtain ⟨v, f1, f2, f3, h1, _, h3, _⟩ := re.get e0
    refine ⟨v, h1, qE_bind rel h fun dk ρ1 u H1 F1 T1 e1 z1 r1 h2 => ?_⟩
    split at h2
    · rename_i o e2
      obtain ⟨dz, ez, q⟩ := Post.ofO h2
      obtain ⟨fe', fw', re', rw', f'⟩ := id r1
      obtain ⟨v', f1', f2', f3', h1', rfl, h3', _⟩ := re'.get e2
      rw [h1] at h1'
      cases h1'
      cases h3' with
      | fz z =>
        obtain ⟨fx, f4, back⟩ := r1.fp
        exact o_ix f4 z z1 ez fun v' H3 F3 s zz f3 => q v' H3 F3 T1 (e1.trans (.of s)) zz (back H3 F3 s f3)
      | @lst p vs os fp0 r =>
        cases dk <;> try (cases ez; done)
        rename_i i
        cases z1
        unfold M.ixO at ez
        cases e6 : M.ati os i with
        | none => simp only [e6] at ez; cases ez
        | some o =>
          cases o <;> simp only [e6] at ez <;> try (cases ez; done)
          cases ez
          obtain ⟨v', h7, h8⟩ := r.ati e6
          exact .inl ⟨p, vs, i, v', rfl, rfl, SqL.of (f'.at_ (p, .lst vs) (by simp)).1, h7, q v' H1 F1 T1 e1 h8 r1⟩
      | @tup p vs os fp0 r =>
        cases dk <;> try (cases ez; done)
        rename_i i
        cases z1
        unfold M.ixO at ez
        cases e6 : M.ati os i with
        | none => simp only [e6] at ez; cases ez
        | some o =>
          cases o <;> simp only [e6] at ez <;> try (cases ez; done)
          cases ez
          obtain ⟨v', h7, h8⟩ := r.ati e6
          exact .inr (.inl ⟨p, vs, i, v', rfl, rfl, SqT.of (f'.at_ (p, .tup vs) (by simp)).1, h7, q v' H1 F1 T1 e1 h8 r1⟩)
      | dct r => cases dk <;> cases ez
    · exact h2.elim
  · exact h.elim
theorem lenV_read {K : PySem.W.Frag} {n : Nat} (h : qE K W (M.eLenV n) σ H Q) : tCB (rLenU K) (tCons (tVar n) tNil) σ H Q := by
  obtain ⟨ρ, F, T, fr, rel, h⟩ := h
  unfold M.eLenV at h
  split at h
  · rename_i o e
    obtain ⟨dz, ez, q⟩ := Post.ofO h
    obtain ⟨fe, fw, re, rw, f⟩ := id rel
    obtain ⟨v, f1, f2, f3, h1, rfl, h3, _⟩ := re.get e
    refine ⟨v, h1, ?_⟩
    cases h3 with
    | fz z =>
      exact c_len f z ez fun v' H3 F3 s zz f3 => q v' H3 F3 T (.of s) zz ⟨_, fw, re.mono (.of s), rw.mono (.of s), f3⟩
    | @lst p vs os fp0 r =>
      cases ez
      refine .inr (.inl ⟨p, vs, rfl, .inl (SqL.of (f.at_ (p, .lst vs) (by simp)).1), ?_⟩)
      rw [r.length]
      exact q _ H F T .refl (.int _) rel
    | @tup p vs os fp0 r =>
      cases ez
      refine .inr (.inl ⟨p, vs, rfl, .inr (SqT.of (f.at_ (p, .tup vs) (by simp)).1), ?_⟩)
      rw [r.length]
      exact q _ H F T .refl (.int _) rel
    | @dct p kvs os fp0 r =>
      cases ez
      refine .inr (.inr ⟨p, kvs, rfl, (f.at_ (p, .dK kvs) (by simp)).1, q _ H F T .refl ?_ rel⟩)
      rw [List.length_map]
      exact .int _
  · exact h.elim
theorem se_lenV {n : Nat} {x : Str} {p : Pos} (hg : Gl X x) (hm : X.mg x = none) (hv : bootBuiltins x = some (.builtin "len")) (ha : PE X a (tVar n)) (hn : x ≠ "__name__" := by decide) (hdb : (x == ("__debug__" : Str)) = false := by decide)
    (he : starEach [a] X.env = (false, eval a X.env) :: starEach [] X.env := by rfl) (hpl : (backTo pos (starEach [] X.env)).any (·.1) = false := by rfl) : SE X W (.Call (.Name x p) [a] [] pos) (M.eLenV n) := PE.imp (pe_callB call_lenU hg hm hv (pa_cons ha pa_nil he) hn hdb he hpl) fun _ _ _ => lenV_read
/-- x[k] = e at the name in slot n, x a list -/
theorem ss_stoL {n : Nat} (ha : SE X W a ma) (ho : PE X o (tVar n)) (hi : SE X W i mi)
    (hst : ∀ v, assign (.Subscript o i tpos) X.env v = (do
      let ov ← holding [v] (eval o X.env)
      let iv ← holding [v, ov] (eval i X.env)
      standAt tpos
      holding [v, ov, iv] (setItem ov iv v)
      release [v, ov, iv] []) := by intro _; rfl)
    (hs : swapsWithSole [.Subscript o i tpos] a pos.line X.env = pure false := by rfl) (hw : swappedStores [.Subscript o i tpos] a X.env = pure none := by rfl)
    (h1 : (assignEach [.Subscript o i tpos] X.env).map (·.2) = [assign (.Subscript o i tpos) X.env] := by rfl) : SS X W (.Assign [.Subscript o i tpos] a pos) (M.sStoL n mi ma) :=
  PS.imp (ps_asg ha (pg_sub ho hi set_list hst) hs hw h1) fun D σ H ⟨ρ, F, T, fr, rel, h⟩ => by
    refine sE_bind rel h fun d ρ1 v H1 F1 T1 e1 z1 r1 h1 => ?_
    split at h1
    · rename_i o0 e0
      obtain ⟨fe, fw, re, rw, f⟩ := id r1
      obtain ⟨v0, f1, f2, f3, hv0, _, _, _⟩ := re.get e0
      refine ⟨v0, hv0, sE_bind r1 h1 fun dk ρ2 u H2 F2 T2 e2 z2 r2 h2 => ?_⟩
      split at h2
      · rename_i os z e3
        split at h2
        · rename_i j ej
          cases z2
          obtain ⟨fe', fw', re', rw', f'⟩ := id r2
          obtain ⟨v1, _, _, _, hv1, _, h3, _⟩ := re'.get e3
          rw [hv0] at hv1
          cases hv1
          cases h3 with
          | @lst p vs0 _ fp0 r0 =>
            obtain ⟨vs, f2', hH2, q2, back⟩ := r2.slotW e3 hv0
            obtain ⟨f3', q3, q4⟩ := q2.set' j (z1.mono e2)
            have ej' : ixN vs.length z = some j := by rw [q2.length]; exact ej
            exact ⟨p, vs, z, j, rfl, rfl, hH2, ej', h2 σ _ F2 T2 .refl (back _ _ f3' fr q3 (.app q4 .refl))⟩
        · exact h2.elim
      · exact h2.elim
    · exact h1.elim
end
end S

/-! Instances: fields, methods, making. -/
namespace S
open PySem PySem.Spec PyProof.Rows L2
local macro_rules | `(tactic| walk_at "parts") => `(tactic| (constructor; (intro e h; simp only [List.mem_append, List.mem_cons, List.not_mem_nil] at *; grind); (intro x; simp only [keys, List.map_append, List.map_cons, List.map_nil, List.count_append, List.count_cons, List.count_nil] at *; omega)))
theorem ofString_inj {a b : String} (h : Str.ofString a = Str.ofString b) : a = b := by
  rw [Str.ofString_eq_toList, Str.ofString_eq_toList] at h
  have h2 : a.toList.map Char.toNat = b.toList.map Char.toNat := by
    have := congrArg (fun z : Str => z.cps.toList) h
    simpa using this
  have h3 : a.toList = b.toList := by
    have inj : ∀ (x y : List Char), x.map Char.toNat = y.map Char.toNat → x = y := by
      intro x
      induction x with
      | nil => intro y h; cases y with
        | nil => rfl
        | cons _ _ => cases h
      | cons c x ih => intro y h; cases y with
        | nil => cases h
        | cons d y =>
          rw [List.map_cons, List.map_cons] at h
          injection h with h1 h2
          rw [ih y h2, show c = d from Char.toNat_inj.mp h1]
    exact inj _ _ h2
  exact String.toList_inj.mp h3
section
variable {K : PySem.W.Frag} {F F' H H' : Hp} {T T' : List Addr} {fp fq fr : Fp} {ρ : M.PSt} {σ : St} {W : WX} {Q : VK}
abbrev strK (q : String × V) : Str × V := (Str.ofString q.1, q.2)
theorem lk_str (f : String) : ∀ fv : List (String × V), (fv.map strK).lookup (Str.ofString f) = fv.lookup f
  | [] => rfl
  | (g, v) :: r => by
    rw [List.map_cons]
    by_cases h : f = g
    · subst h
      show List.lookup _ ((Str.ofString f, v) :: _) = _
      rw [List.lookup_cons_self, List.lookup_cons_self]
    · have h1 : (f == g) = false := by simpa using h
      have h2 : (Str.ofString f == Str.ofString g) = false := by
        rw [beq_eq_false_iff_ne]
        exact fun e => h (ofString_inj e)
      show List.lookup _ ((Str.ofString g, v) :: _) = _
      simp only [List.lookup, h1, h2]
      exact lk_str f r
theorem RpA.lookup {f : String} {o : M.O} : ∀ {fv : List (String × V)} {os : List M.O} {fp : Fp}, RpA K F T (fv.map (·.2)) os fp → ((fv.map (·.1)).zip os).lookup f = some o →
    ∃ v f1 f2 f3, fv.lookup f = some v ∧ fp = f1 ++ (f2 ++ f3) ∧ Rp K F T v o f2
  | [], _, _, r, h => by cases r; cases h
  | (g, v) :: fv, _, _, r, h => by
    cases r with
    | @cons _ _ o1 os fp fq r0 r =>
      rw [List.map_cons, List.zip_cons_cons] at h
      by_cases e : f = g
      · subst e
        rw [List.lookup_cons_self] at h
        cases h
        exact ⟨v, [], fp, fq, List.lookup_cons_self, rfl, r0⟩
      · have h1 : (f == g) = false := by simpa using e
        simp only [List.lookup, h1] at h
        obtain ⟨v', f1, f2, f3, e1, e2, e3⟩ := RpA.lookup r h
        refine ⟨v', fp ++ f1, f2, f3, ?_, by rw [e2, List.append_assoc], e3⟩
        simp only [List.lookup, h1]
        exact e1
theorem lk_none {f : String} : ∀ {fv : List (String × V)} {os : List M.O}, fv.length = os.length → ((fv.map (·.1)).zip os).lookup f = none → fv.lookup f = none
  | [], _, _, _ => rfl
  | (g, v) :: fv, [], h, _ => by cases h
  | (g, v) :: fv, o :: os, hl, h => by
    rw [List.map_cons, List.zip_cons_cons] at h
    by_cases e : f = g
    · subst e
      rw [List.lookup_cons_self] at h
      cases h
    · have h1 : (f == g) = false := by simpa using e
      simp only [List.lookup, h1] at h ⊢
      exact lk_none (Nat.succ.inj hl) h
def putS (f : String) (v : V) : List (String × V) → List (String × V)
  | [] => [(f, v)]
  | (g, x) :: r => if g = f then (g, v) :: r else (g, x) :: putS f v r
theorem putS_str (f : String) (v : V) : ∀ fv : List (String × V), putF (Str.ofString f) v (fv.map strK) = (putS f v fv).map strK
  | [] => rfl
  | (g, x) :: r => by
    rw [List.map_cons]
    show (if Str.ofString g = Str.ofString f then _ else _) = _
    unfold putS
    by_cases h : g = f
    · rw [if_pos h, if_pos (by rw [h])]
      rfl
    · rw [if_neg h, if_neg (fun e => h (ofString_inj e)), putS_str f v r]
      rfl
theorem RpA.putS {f : String} {o : M.O} {v : V} (q : Rp K F T v o fq) : ∀ {fv : List (String × V)} {os : List M.O} {fp : Fp}, RpA K F T (fv.map (·.2)) os fp →
    ∃ os' fp', M.putO f o ((fv.map (·.1)).zip os) = ((S.putS f v fv).map (·.1)).zip os' ∧ RpA K F T ((S.putS f v fv).map (·.2)) os' fp' ∧ Part fp' (fq ++ fp)
  | [], _, _, r => by
    cases r
    exact ⟨[o], fq ++ [], rfl, .cons q .nil, by walk_at "parts"⟩
  | (g, x) :: fv, _, _, r => by
    cases r with
    | @cons _ _ o1 os fp fp2 r0 r =>
      unfold S.putS
      by_cases h : g = f
      · refine ⟨o :: os, fq ++ fp2, ?_, ?_, by walk_at "parts"⟩
        · rw [if_pos h, List.map_cons, List.zip_cons_cons]
          show (if g = f then _ else _) = _
          rw [if_pos h, List.map_cons, List.zip_cons_cons]
        · rw [if_pos h]
          exact .cons q r
      · obtain ⟨os', fp', h1, h2, h3⟩ := RpA.putS q r
        refine ⟨o1 :: os', fp ++ fp', ?_, ?_, ?_⟩
        · rw [if_neg h, List.map_cons, List.zip_cons_cons]
          show (if g = f then _ else _) = _
          rw [if_neg h, h1, List.map_cons, List.zip_cons_cons]
        · rw [if_neg h]
          exact .cons r0 h2
        · have h4 : Part (fp ++ fp') (fp ++ (fq ++ fp2)) := .app .refl h3
          refine h4.trans ?_
          walk_at "parts"
/-- the world's instance at n -/
theorem Rel.wins (rel : Rel K ρ σ H F T fr) {n : Nat} {C : String} {fs : List (String × M.O)} (h : ρ.w[n]? = some (.ins C fs)) :
    ∃ (a dx : Addr) (fv : List (String × V)) (os : List M.O) (f2 : Fp), T[n]? = some a ∧ fs = (fv.map (·.1)).zip os ∧ H a = some (.ins (He.ga K C) dx (fv.map strK)) ∧ RpA K F T (fv.map (·.2)) os f2 ∧
    (∃ f0, FpH F H ((a, .ins (He.ga K C) dx (fv.map strK)) :: (f2 ++ f0))) ∧
    ∀ (fv' : List (String × V)) (os' : List M.O) (f2' fr' : Fp), RpA K F T (fv'.map (·.2)) os' f2' → Part (f2' ++ fr') (f2 ++ fr) → Rel K ⟨ρ.env, ρ.w.set n (.ins C ((fv'.map (·.1)).zip os'))⟩ σ (upd H a (.ins (He.ga K C) dx (fv'.map strK))) F T fr' := by
  obtain ⟨fe, fw, re, rw, f⟩ := rel
  obtain ⟨a, f1, f2, f3, h1, rfl, h3, h4⟩ := rw.get h
  generalize eo : M.Ob.ins C fs = ob at h3
  cases h3 with
  | lst r => cases eo
  | dct r => cases eo
  | @ins dx C' fv os fp0 hd r =>
    cases eo
    have fA : FpH F H ((fe ++ f1) ++ ((a, .ins (He.ga K C) dx (fv.map strK)) :: (f3 ++ (fp0 ++ fr)))) := f.part (by walk_at "parts")
    refine ⟨a, dx, fv, os, fp0, h1, rfl, (f.at_ (a, .ins (He.ga K C) dx (fv.map strK)) (by simp)).1, r, ⟨fe ++ (f1 ++ (f3 ++ fr)), fA.part (by walk_at "parts")⟩, fun fv' os' f2' fr' r' pt => ?_⟩
    have e5 := h4 F T (.ins C ((fv'.map (·.1)).zip os')) ((a, .ins (He.ga K C) dx (fv'.map strK)) :: f2') .refl (.ins hd r')
    refine ⟨fe, _, re, e5, ?_⟩
    have fB := fA.write (o' := .ins (He.ga K C) dx (fv'.map strK))
    refine fB.part ?_
    have pm := pt.m
    constructor
    · intro e h
      have := pm e
      simp only [List.mem_append, List.mem_cons] at *
      grind
    · intro x
      have := pt.c x
      simp only [keys, List.map_append, List.map_cons, List.count_append, List.count_cons] at *
      omega
theorem fldO_inv {cs : List String} {f : String} {w : M.W} {x d : M.D} (h : M.fldO cs f w x = some d) : ∃ n C fs, x = .obj n ∧ w[n]? = some (.ins C fs) ∧ C ∈ cs ∧ fs.lookup f = some (.fz d) := by
  unfold M.fldO at h
  split at h
  · rename_i n
    split at h
    · rename_i C fs e
      split at h
      · rename_i hC
        split at h
        · rename_i d' e2
          cases h
          exact ⟨n, C, fs, rfl, e, hC, e2⟩
        · cases h
      · cases h
    · cases h
  · cases h
theorem fld_read {cs : List String} {f : String} {ma : M.ME} (hC : ∀ C ∈ cs, Cls K (He.ga K C) ∧ NoAttr K (He.ga K C) (Str.ofString f)) (h : qE K W (M.eFld cs ma f) σ H Q) : tFld K (qE K W ma) (Str.ofString f) σ H Q := by
  obtain ⟨ρ, F, T, fr, rel, h⟩ := h
  refine qE_bind rel h fun dx ρ1 v H1 F1 T1 e1 z1 r1 h1 => ?_
  obtain ⟨d, ed, q⟩ := Post.ofO h1
  obtain ⟨n, C, fs, rfl, ew, hm, el⟩ := fldO_inv ed
  obtain ⟨a, dx, fv, os, f2, hT, rfl, hH, r, _, _⟩ := r1.wins ew
  obtain ⟨v', _, _, _, e2, _, e3⟩ := r.lookup el
  cases z1 with
  | obj t =>
    rw [hT] at t
    cases t
    cases e3 with
    | fz z => exact ⟨a, _, dx, _, v', rfl, hH, (hC C hm).1, (hC C hm).2, by rw [lk_str]; exact e2, q v' H1 F1 T1 e1 z r1⟩
theorem PostS.frame {D : Ends} {r : M.Out} (h : PostS K W D F T fr r) (p : Part fr fq) : PostS K W D F T fq r := by
  cases r with
  | nx ρ => exact fun σ' H' F' T' e r => h σ' H' F' T' e (r.part p)
  | bk ρ => exact fun σ' H' F' T' e r => h σ' H' F' T' e (r.part p)
  | ct ρ => exact fun σ' H' F' T' e r => h σ' H' F' T' e (r.part p)
  | rt o w => exact fun v H' F' T' fp e z r => h v H' F' T' fp e z (r.part (.app .refl p))
  | exc x ρ => exact fun σ' cls dd H' F' T' e z r => h σ' cls dd H' F' T' e z (r.part p)
  | bad => exact h
theorem EX.frame {x : M.Exc} (h : EX K W σ F T fr x ρ) (p : Part fr fq) : EX K W σ F T fq x ρ := fun cls dd H' F' T' e z r => h cls dd H' F' T' e z (r.part p)
theorem sE_bindF {D : Ends} {m : M.ME} {k : M.D → M.PSt → M.Out} (rel : Rel K ρ σ H F T (fp ++ fr)) (h : PostS K W D F T fr ((m ρ).out k))
    (q : ∀ d ρ1 v H1 F1 T1, Ext F T F1 T1 → Fz K F1 T1 v d → Rel K ρ1 σ H1 F1 T1 (fp ++ fr) → PostS K W D F1 T1 fr (k d ρ1) → Q v H1) : qE K W m σ H Q :=
  ⟨ρ, F, T, fp ++ fr, rel, (out_post h).mono (fun d ρ1 h1 v H1 F1 T1 e z r => q d ρ1 v H1 F1 T1 e z r (h1.mono e)) fun _ _ z => z.frame (.right .refl)⟩
theorem stF_inv {cs : List String} {f : String} {o : M.O} {w w' : M.W} {x : M.D} (h : M.stF cs f o w x = some w') : ∃ n C fs, x = .obj n ∧ w[n]? = some (.ins C fs) ∧ C ∈ cs ∧ fs.length < 1000 ∧ w' = w.set n (.ins C (M.putO f o fs)) := by
  unfold M.stF at h
  split at h
  · rename_i n
    split at h
    · rename_i C fs e
      split at h
      · rename_i hC
        cases h
        exact ⟨n, C, fs, rfl, e, hC.1, hC.2, rfl⟩
      · cases h
    · cases h
  · cases h
theorem sfld_read {cs : List String} {f : String} {ma : M.ME} {mo : M.MO} {D : Ends} (hC : ∀ C ∈ cs, Cls K (He.ga K C) ∧ NoAttr K (He.ga K C) (Str.ofString f)) (h : qS K W (M.sFld cs ma f mo) D σ H) : sFld K (qE K W ma) (qO K W mo) (Str.ofString f) D σ H := by
  obtain ⟨ρ, F, T, fr, rel, h⟩ := h
  refine sO_bind rel h fun o ρ1 y H1 F1 T1 fp e1 z1 r1 h1 => ?_
  refine sE_bindF r1 h1 fun d ρ2 x H2 F2 T2 e2 z2 r2 h2 => ?_
  cases es : M.stF cs f o ρ2.w d with
  | none => rw [es] at h2; exact h2.elim
  | some w' =>
    rw [es] at h2
    obtain ⟨n, C, fs, rfl, ew, hm, hl, rfl⟩ := stF_inv es
    obtain ⟨a, dx, fv, os, f2, hT, rfl, hH, r, _, back⟩ := r2.wins ew
    cases z2 with
    | obj t =>
      rw [hT] at t
      cases t
      obtain ⟨os', fp', p1, p2, p3⟩ := RpA.putS (z1.mono e2) r (f := f)
      have hlen := r.length
      rw [List.length_map] at hlen
      rw [List.length_zip, List.length_map, hlen, Nat.min_self] at hl
      refine ⟨a, _, dx, _, rfl, hH, (hC C hm).1, (hC C hm).2, by rw [List.length_map, hlen]; exact hl, ?_⟩
      rw [putS_str]
      refine h2 σ _ F2 T2 .refl ?_
      show Rel K ⟨ρ2.env, ρ2.w.set n (.ins C (M.putO f o _))⟩ σ _ F2 T2 fr
      rw [p1]
      refine back _ _ fp' fr p2 ?_
      have h4 : Part (fp' ++ fr) ((fp ++ f2) ++ fr) := .app p3 .refl
      refine h4.trans ?_
      walk_at "parts"
theorem RpW.snoc {a : Addr} {ob : M.Ob} {fb : Fp} (q : RpOb K F T a ob fb) {l : List Addr} {w : M.W} {fw : Fp} (r : RpW K F T l w fw) : ∃ fw', RpW K F T (l ++ [a]) (w ++ [ob]) fw' ∧ Part fw' (fb ++ fw) := by
  induction r with
  | nil => exact ⟨_, RpW.cons q .nil, by walk_at "parts"⟩
  | @cons a l ob w fa fb' r0 r ih =>
    obtain ⟨fw', q1, q2⟩ := ih
    refine ⟨fa ++ fw', .cons r0 q1, ?_⟩
    have p1 : Part (fa ++ fw') (fa ++ (fb ++ fb')) := .app .refl q2
    refine p1.trans ?_
    walk_at "parts"
/-- back from a def: the caller's slots -/
theorem Rel.reenv {env : List (Option M.O)} {fe : Fp} {w' : M.W} {F0 : Hp} {T0 : List Addr} (re : RpE K F0 T0 σ env fe) (e : Ext F0 T0 F T) (r : Rel K ⟨[], w'⟩ [] H F T (fp ++ (fe ++ fr))) : Rel K ⟨env, w'⟩ σ H F T (fp ++ fr) := by
  obtain ⟨fe', fw', re', rw', f'⟩ := r
  cases re'
  exact ⟨fe, fw', re.mono e, rw', f'.part (by walk_at "parts")⟩
theorem make_read {C : String} {init : M.MF} {as : M.MA} (h : qO K W (M.oMake C init as) σ H Q) : tMakeS (He.ga K C) (spM K init) (WE W) (qA K W as) σ H Q := by
  obtain ⟨ρ, F, T, fr, rel, h⟩ := h
  refine qA_bind rel h fun ds ρ1 vs H1 F1 T1 e1 z1 r1 h1 => ?_
  intro x dx hx hdx hne
  obtain ⟨fe, fw, re, rw', f⟩ := r1
  have s1 : Same F1 (upd F1 dx (.own x)) := same_new (f.free hdx)
  have eT : Ext F1 T1 (upd F1 dx (.own x)) (T1 ++ [x]) := ⟨s1, ⟨[x], rfl⟩⟩
  have hn : (T1 ++ [x])[ρ1.w.length]? = some x := by rw [← rw'.len, List.getElem?_append_right (Nat.le_refl _), Nat.sub_self]; rfl
  have qi : RpOb K (upd F1 dx (.own x)) (T1 ++ [x]) x (.ins C []) [(x, .ins (He.ga K C) dx [])] := RpOb.ins (fs := []) (os := []) (fp := []) upd_same .nil
  obtain ⟨fw', q1, q2⟩ := RpW.snoc qi (rw'.mono eT)
  have f1 : FpH (upd F1 dx (.own x)) (upd (upd H1 dx (.own x)) x (.ins (He.ga K C) dx [])) ((x, .ins (He.ga K C) dx []) :: (fe ++ (fw ++ fr))) := (f.new hdx).own (by rw [upd_ne (Ne.symm hne)]; exact hx)
  refine ⟨.obj ρ1.w.length :: ds, ρ1.w ++ [.ins C []], _, _, fe ++ fr, .cons (.obj hn) (z1.mono eT), ⟨[], fw', .nil, q1, f1.part ?_⟩, ?_⟩
  · have p1 : Part ([] ++ (fw' ++ (fe ++ fr))) ([] ++ (([(x, .ins (He.ga K C) dx [])] ++ fw) ++ (fe ++ fr))) := .app .refl (.app q2 .refl)
    refine p1.trans ?_
    walk_at "parts"
  · cases em : init (.obj ρ1.w.length :: ds) (ρ1.w ++ [.ins C []]) with
    | bad => rw [em] at h1; exact h1.elim
    | ok o w' =>
      rw [em] at h1
      intro v H' F' T' fp e z r
      cases z with
      | fz z =>
        rename_i d
        cases d <;> try exact h1.elim
        refine ⟨z.non_inv, h1 (.ref x) H' F' T' [] (e1.trans (eT.trans e)) (.fz (.obj (e.get hn))) ?_⟩
        exact Rel.reenv (re.mono eT) e r
      | lst _ => exact h1.elim
      | tup _ => exact h1.elim
      | dct _ => exact h1.elim
    | exc x w' =>
      rw [em] at h1
      intro cls dd H' F' T' e z r
      refine h1 cls dd H' F' T' (eT.trans e) z ?_
      exact Rel.reenv (fp := []) (re.mono eT) e r
theorem isIns_inv {C m : String} {w : M.W} {x : M.D} (h : M.isIns C m w x = true) : ∃ n fs, x = .obj n ∧ w[n]? = some (.ins C fs) ∧ fs.lookup m = none := by
  unfold M.isIns at h
  split at h
  · rename_i n
    split at h
    · rename_i C' fs e
      rw [Bool.and_eq_true, decide_eq_true_eq, Option.isNone_iff_eq_none] at h
      obtain ⟨rfl, h2⟩ := h
      exact ⟨n, fs, rfl, e, h2⟩
    · cases h
  · cases h
theorem meth_read {C m : String} {mf : M.MF} {ma : M.ME} {as : M.MA} (h : qO K W (M.oMeth C m mf ma as) σ H Q) : tMethS (He.ga K C) (Str.ofString m) (spM K mf) (WE W) (qE K W ma) (qA K W as) σ H Q := by
  obtain ⟨ρ, F, T, fr, rel, h⟩ := h
  refine qE_bind rel h fun dx ρ1 v H1 F1 T1 e1 z1 r1 h1 => ?_
  split at h1
  · rename_i hi
    obtain ⟨n, fs, rfl, ew, el⟩ := isIns_inv hi
    obtain ⟨a, dx, fv, os, f2, hT, rfl, hH, r, _, _⟩ := r1.wins ew
    cases id z1 with
    | obj t =>
      rw [hT] at t
      cases t
      have hlen := r.length
      rw [List.length_map] at hlen
      refine ⟨a, dx, _, rfl, hH, by rw [lk_str]; exact lk_none hlen el, ?_⟩
      refine qA_bind r1 h1 fun ds ρ2 vs H2 F2 T2 e2 z2 r2 h2 => ?_
      obtain ⟨fe, fw, re, rw', f⟩ := r2
      refine ⟨.obj n :: ds, ρ2.w, F2, T2, fe ++ fr, .cons (z1.mono e2) z2, ⟨[], fw, .nil, rw', f.part (by walk_at "parts")⟩, ?_⟩
      cases em : mf (.obj n :: ds) ρ2.w with
      | bad => rw [em] at h2; exact h2.elim
      | ok o w' =>
        rw [em] at h2
        exact fun v H' F' T' fp e z r => h2 v H' F' T' fp (e1.trans (e2.trans e)) z (Rel.reenv re e r)
      | exc x w' =>
        rw [em] at h2
        exact fun cls dd H' F' T' e z r => h2 cls dd H' F' T' e z (Rel.reenv (fp := []) re e r)
  · exact h1.elim
end
section
variable {X : Cx} {W : WX} {pos apos p pos' : Pos} {e o value : Expr} {es : List Expr} {ma : M.ME} {mo : M.MO} {as : M.MA} {k : Nat} {x : Str} {ps : List Str} {mf : M.MF}
theorem se_fld {f : String} (cs : List String) (ha : SE X W e ma) (hC : ∀ C ∈ cs, Cls X.K (He.ga X.K C) ∧ NoAttr X.K (He.ga X.K C) (Str.ofString f)) (hb : attributeBase e (Str.ofString f) X.env (eval e X.env) = eval e X.env := by rfl) :
    SE X W (.Attribute e (Str.ofString f) pos) (M.eFld cs ma f) := PE.imp (pe_fld ha hb) fun _ _ _ h => fld_read hC h
theorem ss_fld {f : String} (cs : List String) (ha : SE X W o ma) (hv : SO X W value mo) (hC : ∀ C ∈ cs, Cls X.K (He.ga X.K C) ∧ NoAttr X.K (He.ga X.K C) (Str.ofString f)) (hs : swapsWith value (some (.Attribute o (Str.ofString f) pos')) pos.line X.env = pure false := by rfl) :
    SS X W (.Assign [.Attribute o (Str.ofString f) pos'] value pos) (M.sFld cs ma f mo) := PS.imp (ps_fld ha hv hs) fun _ _ _ h => sfld_read hC h
theorem so_make {C : String} (F : OkM X.prog X.w X.K X.mg X.base k (He.ga X.K C) "__init__" ps (spM X.K mf)) (hr : Room (k + 1) X.A) (hg : Gl X x) (Mk' : Mk X.K (He.ga X.K C) (He.ma X.K (He.ga X.K C) "__init__")) (hm : X.mg x = some (.ref (He.ga X.K C))) (tk : Takes X W)
    (ha : SA X W (e :: es) as) (hdb : (x == ("__debug__" : Str)) = false := by decide) (he : starEach (e :: es) X.env = (false, eval e X.env) :: starEach es X.env := by rfl) (hpl : (backTo pos (starEach es X.env)).any (·.1) = false := by rfl) :
    SO X W (.Call (.Name x p) (e :: es) [] pos) (M.oMake C mf as) := PE.imp (pe_makeD F hr hg Mk' hm tk ha hdb he hpl) fun _ _ _ h => make_read h
theorem so_meth {C m : String} {pl : Sem Bool} (he : SE X W o ma) (c : Cls X.K (He.ga X.K C)) (F : OkM X.prog X.w X.K X.mg X.base k (He.ga X.K C) (Str.ofString m) ps (spM X.K mf)) (hr : Room k X.A) (hm : Meth X.K (He.ga X.K C) (Str.ofString m) (He.ma X.K (He.ga X.K C) (Str.ofString m))) (tk : Takes X W)
    (ha : SA X W (e :: es) as)
    (hst : starEach (e :: es) X.env = (false, eval e X.env) :: starEach es X.env := by rfl) (hpl : (backTo pos (starEach es X.env)).any (·.1) = false := by rfl)
    (ht : eval (.Call (.Attribute o (Str.ofString m) apos) (e :: es) [] pos) X.env = (do
      let ov ← eval o X.env
      standAt apos.atName
      let (f, first) ← holding [ov] (getMethod ov (Str.ofString m) pl)
      callWith pos f first (backTo pos (starEach (e :: es) X.env)) (backToKw pos (keywordEach [] X.env))) := by rfl) :
    SO X W (.Call (.Attribute o (Str.ofString m) apos) (e :: es) [] pos) (M.oMeth C m mf ma as) := PE.imp (pe_methD he c F hr hm tk ha hst hpl ht) fun _ _ _ h => meth_read h
theorem so_meth0 {C m : String} {pl : Sem Bool} (he : SE X W o ma) (c : Cls X.K (He.ga X.K C)) (F : OkM X.prog X.w X.K X.mg X.base k (He.ga X.K C) (Str.ofString m) ps (spM X.K mf)) (hr : Room k X.A) (hm : Meth X.K (He.ga X.K C) (Str.ofString m) (He.ma X.K (He.ga X.K C) (Str.ofString m))) (tk : Takes X W)
    (ht : eval (.Call (.Attribute o (Str.ofString m) apos) [] [] pos) X.env = (do
      let ov ← eval o X.env
      standAt apos.atName
      let (f, first) ← holding [ov] (getMethod ov (Str.ofString m) pl)
      callWith pos f first (backTo pos (starEach [] X.env)) (backToKw pos (keywordEach [] X.env))) := by rfl) :
    SO X W (.Call (.Attribute o (Str.ofString m) apos) [] [] pos) (M.oMeth C m mf ma M.aNil) := PE.imp (pe_methD0 he c F hr hm tk ht) fun σ H Q h => by
  have h2 := meth_read h
  obtain ⟨ρ, F, T, fr, rel, q⟩ := h2
  refine ⟨ρ, F, T, fr, rel, q.mono (fun d ρ1 h1 v H1 F1 T1 e z r => ?_) fun _ _ z => z⟩
  obtain ⟨a, dx, fs, e1, e2, e3, ρ2, F2, T2, fr2, rel2, q2⟩ := h1 v H1 F1 T1 e z r
  exact ⟨a, dx, fs, e1, e2, e3, q2 [] H1 F2 T2 .refl .nil rel2⟩
end
end S

/-! More operations: signs, sums, sorted, find, upper, displays, new lists, pop, try. -/
namespace S
open PySem PySem.Spec PyProof.Rows L2
local macro_rules | `(tactic| walk_at "parts") => `(tactic| (constructor; (intro e h; simp only [List.mem_append, List.mem_cons, List.not_mem_nil] at *; grind); (intro x; simp only [keys, List.map_append, List.map_cons, List.map_nil, List.count_append, List.count_cons, List.count_nil] at *; omega)))
section
variable {K : PySem.W.Frag} {W : WX} {Q : VK} {σ : St} {H : Hp}
theorem o_neg : Op1 K M.pNeg (rU fun i => .int (-i)) := by
  intro F H T fp x dx dz Q f hx h k
  cases dx <;> try (cases h; done)
  cases hx; cases h
  exact ⟨_, rfl, k.here f (.int _)⟩
theorem ints_inv {F : Hp} {T : List Addr} : ∀ {vs : List V} {ds : List M.D} {ns : List Int}, FzA K F T vs ds → M.intsOf ds = some ns → vs = ns.map V.int
  | _, _, ns, .nil, h => by cases h; rfl
  | _, d :: ds, ns, .cons a r, h => by
    cases d <;> try (cases h; done)
    rename_i b
    cases q : M.intsOf ds with
    | none => simp only [M.intsOf, q] at h; cases h
    | some cs =>
      simp only [M.intsOf, q, Option.map_some] at h
      cases h
      rw [a.int_inv, ints_inv r q]
      rfl
theorem FzA.rgI {F : Hp} {T : List Addr} : ∀ ns : List Int, FzA K F T (ns.map V.int) (ns.map M.D.int)
  | [] => .nil
  | n :: r => .cons (.int n) (FzA.rgI r)
theorem c_sum : Bi1 K M.pSum (rSum K) := by
  intro F H T fp x dx dz Q f hx h k
  cases dx <;> try (cases h; done)
  obtain ⟨a, vs, rfl, ha, za⟩ := hx.lst_inv
  rename_i ds
  cases q : M.intsOf ds with
  | none => simp only [M.pSum, q] at h; cases h
  | some ns =>
    simp only [M.pSum, q, Option.map_some] at h
    cases h
    exact ⟨a, ns, rfl, by rw [← ints_inv za q]; exact SqL.of (f.low _ _ ha), k.here f (.int _)⟩
theorem maxI_spec : ∀ (ns : List Int) (m : Int), m ∈ ns → (∀ y ∈ ns, y ≤ m) → M.maxI ns = m
  | [x], m, h, _ => by rw [List.mem_singleton.mp h]; rfl
  | x :: y :: r, m, h, hm => by
    show max x (M.maxI (y :: r)) = m
    have ge : ∀ (l : List Int) (a : Int), l ≠ [] → (∀ z ∈ l, z ≤ a) → M.maxI l ≤ a := by
      intro l
      induction l with
      | nil => intro a h; exact absurd rfl h
      | cons z t ih =>
        intro a _ hz
        cases t with
        | nil => exact hz z (by simp)
        | cons u t =>
          show max z (M.maxI (u :: t)) ≤ a
          have := ih a (by simp) fun q hq => hz q (by simp [hq])
          have := hz z (by simp)
          omega
    have ge2 := ge (y :: r) m (by simp) fun z hz => hm z (List.mem_cons_of_mem _ hz)
    have hx := hm x List.mem_cons_self
    rcases List.mem_cons.mp h with rfl | h
    · omega
    · rw [maxI_spec (y :: r) m h fun z hz => hm z (List.mem_cons_of_mem _ hz)]
      omega
theorem minI_spec : ∀ (ns : List Int) (m : Int), m ∈ ns → (∀ y ∈ ns, m ≤ y) → M.minI ns = m
  | [x], m, h, _ => by rw [List.mem_singleton.mp h]; rfl
  | x :: y :: r, m, h, hm => by
    show min x (M.minI (y :: r)) = m
    have ge : ∀ (l : List Int) (a : Int), l ≠ [] → (∀ z ∈ l, a ≤ z) → a ≤ M.minI l := by
      intro l
      induction l with
      | nil => intro a h; exact absurd rfl h
      | cons z t ih =>
        intro a _ hz
        cases t with
        | nil => exact hz z (by simp)
        | cons u t =>
          show a ≤ min z (M.minI (u :: t))
          have := ih a (by simp) fun q hq => hz q (by simp [hq])
          have := hz z (by simp)
          omega
    have ge2 := ge (y :: r) m (by simp) fun z hz => hm z (List.mem_cons_of_mem _ hz)
    have hx := hm x List.mem_cons_self
    rcases List.mem_cons.mp h with rfl | h
    · omega
    · rw [minI_spec (y :: r) m h fun z hz => hm z (List.mem_cons_of_mem _ hz)]
      omega
theorem c_maxL : Bi1 K M.pMaxL (rMax K) := by
  intro F H T fp x dx dz Q f hx h k
  cases dx <;> try (cases h; done)
  obtain ⟨a, vs, rfl, ha, za⟩ := hx.lst_inv
  rename_i ds
  cases q : M.intsOf ds with
  | none => simp only [M.pMaxL, q] at h; cases h
  | some ns =>
    simp only [M.pMaxL, q, Option.bind_some] at h
    split at h
    · cases h
    · rename_i hn
      cases h
      refine ⟨a, ns, rfl, by rw [← ints_inv za q]; exact SqL.of (f.low _ _ ha), ?_, fun m hm hy => ?_⟩
      · cases ns with
        | nil => exact absurd rfl hn
        | cons _ _ => exact Nat.succ_pos _
      · rw [← maxI_spec ns m hm hy]
        exact k.here f (.int _)
theorem c_minL : Bi1 K M.pMinL (rMin K) := by
  intro F H T fp x dx dz Q f hx h k
  cases dx <;> try (cases h; done)
  obtain ⟨a, vs, rfl, ha, za⟩ := hx.lst_inv
  rename_i ds
  cases q : M.intsOf ds with
  | none => simp only [M.pMinL, q] at h; cases h
  | some ns =>
    simp only [M.pMinL, q, Option.bind_some] at h
    split at h
    · cases h
    · rename_i hn
      cases h
      refine ⟨a, ns, rfl, by rw [← ints_inv za q]; exact SqL.of (f.low _ _ ha), ?_, fun m hm hy => ?_⟩
      · cases ns with
        | nil => exact absurd rfl hn
        | cons _ _ => exact Nat.succ_pos _
      · rw [← minI_spec ns m hm hy]
        exact k.here f (.int _)
/-! sorted -/
def one_ (c : Nat) : Str := ⟨#[c]⟩
def unone (z : Str) : Nat := z.cps.toList.headD 0
theorem perm_one {ys : List Str} {l : List Nat} (h : ys.Perm (l.map one_)) : ∃ l' : List Nat, ys = l'.map one_ ∧ l'.Perm l := by
  refine ⟨ys.map unone, ?_, ?_⟩
  · rw [List.map_map]
    have : ∀ y ∈ ys, (one_ ∘ unone) y = y := fun y hy => by
      obtain ⟨c, _, rfl⟩ := List.mem_map.mp (h.subset hy)
      rfl
    exact (List.map_congr_left this).trans (List.map_id ys) |>.symm
  · have := h.map unone
    rw [List.map_map] at this
    have e : l.map (unone ∘ one_) = l := (List.map_congr_left fun c _ => rfl).trans (List.map_id l)
    rw [e] at this
    exact this
theorem rising_one : ∀ (l : List Nat) (c : Nat), risingS (one_ c) (l.map one_) = true → c ≤ l.headD c ∧ sortedS (l.map one_) = true
  | [], c, _ => ⟨Nat.le_refl c, rfl⟩
  | e :: l, c, h => by
    rw [List.map_cons] at h ⊢
    unfold risingS at h
    rw [Bool.and_eq_true] at h
    obtain ⟨h1, h2⟩ := h
    refine ⟨?_, h2⟩
    show c ≤ e
    simp [ltCps, one_] at h1
    omega
theorem sorted_one : ∀ l : List Nat, sortedS (l.map one_) = true → l.Pairwise (· ≤ ·)
  | [], _ => .nil
  | c :: l, h => by
    obtain ⟨h1, h2⟩ := rising_one l c h
    have ih := sorted_one l h2
    refine List.pairwise_cons.mpr ⟨fun d hd => ?_, ih⟩
    cases l with
    | nil => cases hd
    | cons e t =>
      have hce : c ≤ e := h1
      cases hd with
      | head => exact hce
      | tail _ hd => exact Nat.le_trans hce ((List.pairwise_cons.mp ih).1 d hd)
theorem sortN_eq {l l' : List Nat} (p : l'.Perm l) (s : l'.Pairwise (· ≤ ·)) : l' = M.sortN l := by
  refine List.Perm.eq_of_pairwise (le := (· ≤ ·)) (fun a b _ _ h1 h2 => Nat.le_antisymm h1 h2) s ?_ (p.trans (List.mergeSort_perm l _).symm)
  exact (List.pairwise_mergeSort (le := fun a b => decide (a ≤ b)) (fun a b c h1 h2 => decide_eq_true (Nat.le_trans (of_decide_eq_true h1) (of_decide_eq_true h2))) (fun a b => by
    rw [Bool.or_eq_true, decide_eq_true_eq, decide_eq_true_eq]; omega) l).imp fun h => of_decide_eq_true h
theorem sortI_eq {l l' : List Int} (p : l'.Perm l) (s : l'.Pairwise (· ≤ ·)) : l' = M.sortI l := by
  refine List.Perm.eq_of_pairwise (le := (· ≤ ·)) (fun a b _ _ h1 h2 => Int.le_antisymm h1 h2) s ?_ (p.trans (List.mergeSort_perm l _).symm)
  exact (List.pairwise_mergeSort (le := fun a b => decide (a ≤ b)) (fun a b c h1 h2 => decide_eq_true (Int.le_trans (of_decide_eq_true h1) (of_decide_eq_true h2))) (fun a b => by
    rw [Bool.or_eq_true, decide_eq_true_eq, decide_eq_true_eq]; omega) l).imp fun h => of_decide_eq_true h
def rSortU2 (K : PySem.W.Frag) : List V → Hp → VK → Prop := fun vs H Q => rSortedTx vs H Q ∨ rSortedI K vs H Q
theorem call_sortU {X : Cx} (hc : X.calm = true) : CallR X (.builtin "sorted") (rSortU2 X.K) := (cr_sortedTx hc).or cr_sortedI
theorem sortN_mem {s : M.Tx} {c : Nat} : c ∈ M.sortN s ↔ c ∈ s := (List.mergeSort_perm s _).mem_iff
theorem c_sorted : Bi1 K M.pSorted (rSortU2 K) := by
  intro F H T fp x dx dz Q f hx h k
  cases dx <;> try (cases h; done)
  · obtain ⟨rfl, o⟩ := hx.str_inv
    rename_i s
    simp only [M.pSorted] at h
    split at h
    · rename_i hl
      cases h
      refine .inl ⟨_, rfl, by rw [sx_len]; exact hl, fun ys p H' hp hs hn s' e => ?_⟩
      obtain ⟨l', rfl, p'⟩ := perm_one hp
      rw [sortN_eq p' (sorted_one l' hs)] at *
      have z : FzA K F T (((M.sortN s).map one_).map V.str) ((M.sortN s).map M.chD) := by
        rw [List.map_map]
        exact FzA.chars fun c hc => o.1 c (sortN_mem.mp hc)
      have hF : F p = none := f.free hn
      have sF : Same F (upd F p (.lst (((M.sortN s).map one_).map V.str))) := same_new hF
      refine k (.ref p) H' _ sF (.lst upd_same (z.mono (.of sF))) ⟨fun a u ha => ?_, fun q hq => ?_, f.nd⟩
      · by_cases hap : a = p
        · subst hap
          rw [upd_same] at ha
          cases ha
          exact e
        · rw [upd_ne hap] at ha
          exact s' _ _ (f.low _ _ ha)
      · have np : q.1 ≠ p := ne_of_none (f.at_ q hq).1 hn
        exact ⟨s' _ _ (f.at_ q hq).1, by rw [upd_ne np]; exact (f.at_ q hq).2⟩
    · cases h
  · obtain ⟨a, vs, rfl, ha, za⟩ := hx.lst_inv
    rename_i ds
    cases q : M.intsOf ds with
    | none => simp only [M.pSorted, q] at h; cases h
    | some ns =>
      simp only [M.pSorted, q, Option.map_some] at h
      cases h
      refine .inr ⟨a, ns, rfl, by rw [← ints_inv za q]; exact SqL.of (f.low _ _ ha), fun ns' p hp hs hn => ?_⟩
      rw [sortI_eq hp hs]
      exact k.newL f (FzA.rgI _) hn
/-! find, index, upper -/
theorem at_iff (a b : M.Tx) (i : Nat) : StrLaws.At (sx a) (sx b) (sx a).length i ↔ M.isAt a b i = true := by
  rw [← isAt_eq, Bool.and_eq_true, decide_eq_true_eq]
  exact Iff.rfl
theorem range_lt {p : Nat → Bool} {n i : Nat} (h : p i = true) (hi : i < n) (hm : ∀ k, k < i → p k = false) : (List.range n).find? p = some i := by
  rw [List.find?_eq_some_iff_getElem]
  refine ⟨h, i, by simpa using hi, by simp, fun j hj => ?_⟩
  rw [List.getElem_range, hm j hj]
  rfl
theorem fst_find (a b : M.Tx) : Txt.find (sx a) (sx b) = M.fnd (M.fstT a b) := by
  rcases find_whole (sx a) (sx b) with ⟨h1, h2⟩ | ⟨i, h1, h2, h3⟩
  · rw [h1]
    have : M.fstT a b = none := by
      unfold M.fstT
      rw [List.find?_eq_none]
      intro i _ h
      exact h2 i ((at_iff a b i).mpr h)
    rw [this]
    rfl
  · rw [h1]
    have hi : M.isAt a b i = true := (at_iff a b i).mp h2
    have hl : i < a.length + 1 := by
      unfold M.isAt at hi
      rw [Bool.and_eq_true, decide_eq_true_eq] at hi
      omega
    have : M.fstT a b = some i := range_lt hi hl fun k hk => by
      have := h3 k hk
      rw [at_iff] at this
      exact Bool.eq_false_iff.mpr this
    rw [this]
    rfl
theorem FzA.str1 {F : Hp} {T : List Addr} {xs : List V} {b : M.Tx} (h : FzA K F T xs [.str b]) : xs = [.str (sx b)] ∧ okT b := by
  obtain ⟨v, rfl, z⟩ := h.one
  obtain ⟨rfl, o⟩ := z.str_inv
  exact ⟨rfl, o⟩
theorem m_find : MtD K M.mFind (fun x xs H Q => ∃ a b, x = .str a ∧ xs = [.str b] ∧ Q (.int (Txt.find a b)) H) := by
  intro F H T fp s xs ds dz Q f o hx h k
  unfold M.mFind at h
  split at h
  · obtain ⟨rfl, o2⟩ := hx.str1
    cases h
    exact ⟨_, _, rfl, rfl, by rw [fst_find]; exact k.here f (.int _)⟩
  · cases h
theorem occ_of_fst {a b : M.Tx} {i : Nat} (h : M.fstT a b = some i) : ∃ rest, Builtin.Str.occurrences (sx a) (sx b) 0 (sx a).length 1 = i :: rest := by
  have h1 := fst_find a b
  rw [h] at h1
  unfold Txt.find at h1
  cases e : Builtin.Str.occurrences (sx a) (sx b) 0 (sx a).length 1 with
  | nil => rw [e] at h1; exact absurd h1 (by show ¬ (-1 : Int) = (i : Int); omega)
  | cons j rest =>
    rw [e] at h1
    have h2 : (j : Int) = (i : Int) := h1
    exact ⟨rest, by rw [show j = i by omega]⟩
theorem m_index : MtD K M.mIndex rIndexS := by
  intro F H T fp s xs ds dz Q f o hx h k
  unfold M.mIndex at h
  split at h
  · obtain ⟨rfl, o2⟩ := hx.str1
    rename_i b
    cases q : M.fstT s b with
    | none => rw [q] at h; cases h
    | some i =>
      rw [q] at h
      cases h
      obtain ⟨rest, e⟩ := occ_of_fst q
      exact ⟨_, _, i, rest, rfl, rfl, e, k.here f (.int _)⟩
  · cases h
theorem up1_lt {c : Nat} (h : c < 128) : up1 c < 128 := by unfold up1; split <;> omega
theorem upper_sx {s : M.Tx} (h : s.all (fun c => decide (c < 128)) = true) : Txt.upper (sx s) = sx (s.map M.up1) := by
  rw [PyProof.Rows.upper_ascii (x := sx s) (fun c hc => of_decide_eq_true (List.all_eq_true.mp h c hc))]
  refine str_ext ?_
  show (Array.map PyProof.Rows.up1 s.toArray).toList = (s.map M.up1).toArray.toList
  simp
  intro a _
  rfl
/-! dicts that never change -/
def keyD : M.D → Option Key
  | .int i => some (.inl i)
  | .str s => some (.inr (sx s))
  | _ => none
theorem keyD_ok {d : M.D} {k : Key} (h : keyD d = some k) : kD k = d := by
  cases d <;> cases h <;> rfl
theorem keyD_V {F : Hp} {T : List Addr} {v : V} {d : M.D} {k : Key} (z : Fz K F T v d) (h : keyD d = some k) : v = kV k := by
  cases d <;> cases h
  · cases z; rfl
  · obtain ⟨rfl, _⟩ := z.str_inv; rfl
end
section
variable {X : Cx} {W : WX} {pos p pos' : Pos} {a b e : Expr} {ma mb : M.ME} {mo : M.MO} {σ : St} {H : Hp} {Q : VK}
theorem se_upper {o : Expr} {apos : Pos} (ho : SE X W o ma) (hbase : attributeBase o "upper" X.env (eval o X.env) = eval o X.env := by rfl) (hline : (apos.endLine == pos.line) = true := by rfl) : SE X W (.Call (.Attribute o "upper" apos) [] [] pos) (M.eUn M.pUpper ma) :=
  PE.imp (pe_upper ho hbase hline) fun σ H Q ⟨ρ, F, T, fr, rel, h⟩ => by
    refine qE_bind rel h fun dx ρ1 v H1 F1 T1 e1 z1 r1 h1 => ?_
    obtain ⟨dz, ez, q⟩ := Post.ofO h1
    unfold M.pUpper at ez
    split at ez
    · split at ez
      · rename_i s hc
        cases ez
        obtain ⟨rfl, o⟩ := z1.str_inv
        refine ⟨⟨_, rfl⟩, _, rfl, rfl, by rw [sx_len]; exact hc.2, ?_⟩
        rw [upper_sx hc.1]
        refine q _ H1 F1 T1 e1 (.str ⟨fun c hc2 => ?_, by rw [List.length_map]; exact o.2⟩) r1
        obtain ⟨c0, h0, rfl⟩ := List.mem_map.mp hc2
        have := of_decide_eq_true (List.all_eq_true.mp hc.1 c0 h0)
        have : M.up1 c0 < 128 := up1_lt this
        omega
      · cases ez
    · cases ez
theorem se_isT {x : Str} (t : String) (ht : t ∈ ["bool", "int", "str", "tuple", "list", "dict"]) (hg : Gl X x) (hm : X.mg x = none) (hv : bootBuiltins x = some (.builtin "isinstance")) (ha : SE X W a ma) (hb : PE X b (tC (.ty t))) (hn : x ≠ "__name__" := by decide) (hdb : (x == ("__debug__" : Str)) = false := by decide)
    (he : starEach [a, b] X.env = (false, eval a X.env) :: starEach [b] X.env := by rfl) (he2 : starEach [b] X.env = (false, eval b X.env) :: starEach [] X.env := by rfl) (hpl : (backTo pos (starEach [b] X.env)).any (·.1) = false := by rfl) : SE X W (.Call (.Name x p) [a, b] [] pos) (M.eUn (M.pIsT t) ma) :=
  PE.imp (pe_callB call_isi hg hm hv (pa_cons ha (pa_cons hb pa_nil he2) he) hn hdb he hpl) fun σ H Q ⟨ρ, F, T, fr, rel, h⟩ => by
    refine qE_bind rel h fun dx ρ1 v H1 F1 T1 e1 z1 r1 h1 => ?_
    obtain ⟨dz, ez, q⟩ := Post.ofO h1
    unfold M.pIsT at ez
    cases eq : M.tyn dx with
    | none => rw [eq] at ez; cases ez
    | some n =>
      rw [eq] at ez
      cases ez
      obtain ⟨fp, f, _⟩ := r1.fp
      exact w_isi (tyx_of f.low z1 eq) (kit_ty (kit_all n (tyn_mem eq) t ht)) (q _ H1 F1 T1 e1 (.bl _) r1)
/-- a new list, no other holder -/
theorem so_dct0 : SO X W (.Dict [] [] pos) M.oDct0 := PE.imp pe_dnewK fun σ H Q ⟨ρ, F, T, fr, rel, h⟩ => fun p hp => by
  have z : Rp X.K F T (.ref p) (.dct [] []) [(p, .dK [])] := Rp.dct (kvs := []) .nil
  exact h (.ref p) _ F T _ .refl z (rel.own hp)
theorem se_dct0 : SE X W (.Dict [] [] pos) M.eDct0 := PE.imp pe_dnewK fun σ H Q ⟨ρ, F, T, fr, rel, h⟩ => fun p hp => by
  obtain ⟨fp, f, back⟩ := rel.fp
  have s : Same F (upd F p (.dK [])) := same_new (f.free hp)
  have z : Fz X.K (upd F p (.dK [])) T (.ref p) (.dct [] []) := Fz.dct (kvs := []) upd_same .nil
  exact h (.ref p) _ _ T (.of s) z (back _ _ s (f.new hp))
theorem se_dct1 {k v : Expr} {kd : M.D} {key : Key} (hk : PE X k (tC (kV key))) (hkd : kD key = kd) (hv : SE X W v ma) : SE X W (.Dict [some k] [v] pos) (M.eDct1 kd ma) :=
  PE.imp (pe_disp (pps_cons hk hv pps_nil) rfl rfl (by intro z; cases z) (by simp)) fun σ H Q ⟨ρ, F, T, fr, rel, h⟩ => fun p hp => by
    subst hkd
    have h' := Post.bind h
    refine ⟨ρ, F, T, (p, .dK []) :: fr, rel.own hp, h'.mono (fun d ρ1 h1 y H1 F1 T1 e1 z1 r1 => ?_) fun _ _ z => z.frame (by
      constructor
      · intro e h; exact List.mem_cons_of_mem _ h
      · intro x; simp only [keys, List.map_cons, List.count_cons]; omega)⟩
    have hH : H1 p = some (.dK []) := r1.at_ (e := (p, .dK [])) List.mem_cons_self
    refine ⟨hH, [(key, y)], rfl, (by show 1 ≤ 15; decide), ?_⟩
    obtain ⟨fe, fw, re, rw', f⟩ := r1
    have fA : FpH F1 H1 ((fe ++ fw) ++ ((p, .dK []) :: fr)) := by rw [List.append_assoc]; exact f
    have fB := fA.write (o' := .dK [(key, y)])
    have hF : F1 p = none := (f.at_ (p, .dK []) (by simp)).2
    have s : Same F1 (upd F1 p (.dK [(key, y)])) := same_new hF
    have fC : FpH F1 (upd H1 p (.dK [(key, y)])) ([(p, .dK [(key, y)])] ++ (fe ++ (fw ++ fr))) := fB.part (by walk_at "parts")
    have fD := fC.freeze
    have em : addF F1 [(p, .dK [(key, y)])] = upd F1 p (.dK [(key, y)]) := rfl
    rw [em] at fD
    have z : Fz X.K (upd F1 p (.dK [(key, y)])) T1 (.ref p) (.dct [kD key] [d]) := Fz.dct (kvs := [(key, y)]) upd_same (.cons (z1.mono (.of s)) .nil)
    exact h1 (.ref p) _ _ T1 (e1.trans (.of s)) z ⟨fe, fw, re.mono (.of s), rw'.mono (.of s), fD⟩
/-! new lists, for one holder -/
theorem so_new1 {f : M.D → Option M.D} {r : List V → Hp → VK → Prop} {x : Str} {id : String} (hc : CallR X (.type id) r)
    (hf : ∀ {F H : Hp} {T : List Addr} {v : V} {d : M.D} {ds : List M.D} {Q : VK}, Same F H → Fz X.K F T v d → f d = some (.lst ds) → (∀ l ws, H l = none → FzA X.K F T ws ds → Q (.ref l) (upd H l (.lst ws))) → r [v] H Q)
    (hg : Gl X x) (hm : X.mg x = none) (hv : bootBuiltins x = some (.type id)) (ha : SE X W a ma) (hn : x ≠ "__name__" := by decide) (hdb : (x == ("__debug__" : Str)) = false := by decide)
    (he : starEach [a] X.env = (false, eval a X.env) :: starEach [] X.env := by rfl) (hpl : (backTo pos (starEach [] X.env)).any (·.1) = false := by rfl) : SO X W (.Call (.Name x p) [a] [] pos) (M.oNew (M.eUn f ma)) :=
  PE.imp (pe_callTy hc hg hm hv (pa_cons ha pa_nil he) hn hdb he hpl) fun σ H Q ⟨ρ, F, T, fr, rel, h⟩ => by
    have h0 := Post.bind h
    refine qE_bind rel h0 fun dx ρ1 v H1 F1 T1 e1 z1 r1 h1 => ?_
    obtain ⟨dz, ez, q⟩ := Post.ofO h1
    cases dz <;> try exact q.elim
    rename_i ds
    obtain ⟨fp, f1, _⟩ := r1.fp
    refine hf f1.low z1 ez fun l ws hl zw => ?_
    exact q (.ref l) _ F1 T1 _ e1 (.lst (RpA.of_fz zw)) (r1.own hl)
theorem new_list {K : PySem.W.Frag} {F H : Hp} {T : List Addr} {v : V} {d : M.D} {ds : List M.D} {Q : VK} (s : Same F H) (z : Fz K F T v d) (h : M.pListB d = some (.lst ds)) (k : ∀ l ws, H l = none → FzA K F T ws ds → Q (.ref l) (upd H l (.lst ws))) : rListU K [v] H Q := by
  cases d <;> try (cases h; done)
  · obtain ⟨a, vs, rfl, ha, za⟩ := z.tup_inv
    cases h
    exact ⟨a, vs, rfl, .inr (seqT s ha), fun l hl => k l vs hl za⟩
  · obtain ⟨a, vs, rfl, ha, za⟩ := z.lst_inv
    cases h
    exact ⟨a, vs, rfl, .inl (SqL.of (s _ _ ha)), fun l hl => k l vs hl za⟩
theorem FzA.rg {K : PySem.W.Frag} {F : Hp} {T : List Addr} (a b : Int) : FzA K F T (rgV a b) (M.intsAB a b) := FzA.of_all fun i => .int _
theorem rg_ok {a b : Int} (h : M.RgB a b = true) : RgOk a b := by
  unfold M.RgB at h
  simp only [Bool.and_eq_true, decide_eq_true_eq] at h
  exact ⟨h.1.1.1.1, h.1.1.1.2, h.1.1.2, h.1.2, h.2⟩
theorem so_listRg1 {q : Pos} (hc : X.calm = true) (hg : Gl X "list") (hm : X.mg "list" = none) (hg2 : Gl X "range") (hm2 : X.mg "range" = none) (ha : SE X W a ma)
    (na2 : starEach [a] X.env = (false, eval a X.env) :: starEach [] X.env := by rfl) (na : starEach [.Call (.Name "range" q) [a] [] pos'] X.env = (false, eval (.Call (.Name "range" q) [a] [] pos') X.env) :: starEach [] X.env := by rfl) :
    SO X W (.Call (.Name "list" p) [.Call (.Name "range" q) [a] [] pos'] [] pos) (M.oNew (M.eUn M.pListRg1 ma)) :=
  PE.imp (pe_listRg hc hg hm (prg_1 hg2 hm2 ha na2) na) fun σ H Q ⟨ρ, F, T, fr, rel, h⟩ => by
    have h0 := Post.bind h
    refine qE_bind rel h0 fun dx ρ1 v H1 F1 T1 e1 z1 r1 h1 => ?_
    obtain ⟨dz, ez, q⟩ := Post.ofO h1
    unfold M.pListRg1 at ez
    split at ez
    · split at ez
      · rename_i hr
        cases ez
        refine ⟨_, z1.int_inv, rg_ok hr, fun l hl => ?_⟩
        exact q (.ref l) _ F1 T1 _ e1 (.lst (RpA.of_fz (FzA.rg _ _))) (r1.own hl)
      · cases ez
    · cases ez
theorem so_listRg2 {q : Pos} (hc : X.calm = true) (hg : Gl X "list") (hm : X.mg "list" = none) (hg2 : Gl X "range") (hm2 : X.mg "range" = none) (ha : SE X W a ma) (hb : SE X W b mb)
    (na2 : starEach [a, b] X.env = (false, eval a X.env) :: starEach [b] X.env := by rfl) (nb2 : starEach [b] X.env = (false, eval b X.env) :: starEach [] X.env := by rfl) (hp2 : (backTo pos' (starEach [b] X.env)).any (·.1) = false := by rfl)
    (na : starEach [.Call (.Name "range" q) [a, b] [] pos'] X.env = (false, eval (.Call (.Name "range" q) [a, b] [] pos') X.env) :: starEach [] X.env := by rfl) :
    SO X W (.Call (.Name "list" p) [.Call (.Name "range" q) [a, b] [] pos'] [] pos) (M.oNew (M.eOp M.pListRg2 ma mb)) :=
  PE.imp (pe_listRg hc hg hm (prg_2 hg2 hm2 ha hb na2 nb2 hp2) na) fun σ H Q ⟨ρ, F, T, fr, rel, h⟩ => by
    have h0 := Post.bind h
    refine qE_bind rel h0 fun dx ρ1 v H1 F1 T1 e1 z1 r1 h1 => ?_
    refine qE_bind r1 h1 fun dy ρ2 u H2 F2 T2 e2 z2 r2 h2 => ?_
    obtain ⟨dz, ez, q⟩ := Post.ofO h2
    unfold M.pListRg2 at ez
    split at ez
    · split at ez
      · rename_i hr
        cases ez
        have z1' := z1.int_inv
        refine ⟨_, _, z1', z2.int_inv, rg_ok hr, fun l hl => ?_⟩
        exact q (.ref l) _ F2 T2 _ (e1.trans e2) (.lst (RpA.of_fz (FzA.rg _ _))) (r2.own hl)
      · cases ez
    · cases ez
/-- a list by an operator, for one holder: x * n, x + y -/
theorem so_newOp {op : Operator} {f : M.D → M.D → Option M.D} {r : R2} (ho : OpR X (binaryOp op) r)
    (hf : ∀ {F H : Hp} {T : List Addr} {u v : V} {c d : M.D} {ds : List M.D} {Q : VK}, Same F H → Fz X.K F T u c → Fz X.K F T v d → f c d = some (.lst ds) → (∀ l ws, H l = none → FzA X.K F T ws ds → Q (.ref l) (upd H l (.lst ws))) → r u v H Q)
    (ha : SE X W a ma) (hb : SE X W b mb) : SO X W (.BinOp a op b pos) (M.oNew (M.eOp f ma mb)) := PE.imp (pe_op ho ha hb) fun σ H Q ⟨ρ, F, T, fr, rel, h⟩ => by
  have h0 := Post.bind h
  refine qE_bind rel h0 fun dx ρ1 v H1 F1 T1 e1 z1 r1 h1 => ?_
  refine qE_bind r1 h1 fun dy ρ2 u H2 F2 T2 e2 z2 r2 h2 => ?_
  obtain ⟨dz, ez, q⟩ := Post.ofO h2
  cases dz <;> try exact q.elim
  obtain ⟨fp, f1, _⟩ := r2.fp
  refine hf f1.low (z1.mono e2) z2 ez fun l ws hl zw => ?_
  exact q (.ref l) _ F2 T2 _ (e1.trans e2) (.lst (RpA.of_fz zw)) (r2.own hl)
theorem new_mul {K : PySem.W.Frag} {F H : Hp} {T : List Addr} {u v : V} {c d : M.D} {ds : List M.D} {Q : VK} (s : Same F H) (z : Fz K F T u c) (z2 : Fz K F T v d) (h : M.pMul c d = some (.lst ds)) (k : ∀ l ws, H l = none → FzA K F T ws ds → Q (.ref l) (upd H l (.lst ws))) : rMulV u v H Q := by
  cases c <;> cases d <;> try (cases h; done)
  · simp only [M.pMul] at h
    split at h <;> cases h
  · simp only [M.pMul] at h
    split at h <;> cases h
  · obtain ⟨a, vs, rfl, ha, za⟩ := z.lst_inv
    cases z2
    simp only [M.pMul] at h
    split at h
    · rename_i hc
      cases h
      refine .inl (.inr (.inr ⟨a, _, vs, rfl, rfl, s _ _ ha, by omega, by omega, by rw [za.length, line_eq]; exact hc.2.2, fun p hp => k p _ hp (za.rep _)⟩))
    · cases h
theorem new_add {K : PySem.W.Frag} {F H : Hp} {T : List Addr} {u v : V} {c d : M.D} {ds : List M.D} {Q : VK} (s : Same F H) (z : Fz K F T u c) (z2 : Fz K F T v d) (h : M.pAdd c d = some (.lst ds)) (k : ∀ l ws, H l = none → FzA K F T ws ds → Q (.ref l) (upd H l (.lst ws))) : rAddU K u v H Q := by
  cases c <;> cases d <;> try (cases h; done)
  · simp only [M.pAdd] at h
    split at h <;> cases h
  · simp only [M.pAdd] at h
    split at h <;> cases h
  · obtain ⟨a, vs, rfl, ha, za⟩ := z.lst_inv
    obtain ⟨b, ws, rfl, hb, zb⟩ := z2.lst_inv
    simp only [M.pAdd] at h
    split at h
    · rename_i hl
      cases h
      exact .inr (.inr (.inl ⟨a, b, vs, ws, rfl, rfl, s _ _ ha, s _ _ hb, by rw [za.length, zb.length, line_eq]; exact hl, fun p hp => k p _ hp (za.append zb)⟩))
    · cases h
/-- a slice of a list, for one holder -/
theorem so_newSl {lo hi : Option Expr} {ml mh : M.MP} {p2 : Pos} (ha : SE X W a ma) (hl : SP_ X W lo ml) (hh : SP_ X W hi mh) : SO X W (.Subscript a (.Slice lo hi none p2) pos) (M.oNew (M.eSl ma ml mh)) :=
  PE.imp (pe_slice sl_U ha hl hh) fun σ H Q ⟨ρ, F, T, fr, rel, h⟩ => by
    have h0 := Post.bind h
    refine qE_bind rel h0 fun dx ρ1 v H1 F1 T1 e1 z1 r1 h1 => ?_
    refine qP_bind r1 h1 fun l ρ2 H2 F2 T2 e2 r2 h2 => ?_
    refine qP_bind r2 h2 fun u ρ3 H3 F3 T3 e3 r3 h3 => ?_
    obtain ⟨dz, ez, q⟩ := Post.ofO h3
    cases dz <;> try exact q.elim
    cases dx <;> try (cases ez; done)
    · cases ez
      obtain ⟨a, vs, rfl, ha, za⟩ := ((z1.mono e2).mono e3).lst_inv
      obtain ⟨fp, f3, _⟩ := r3.fp
      exact .inl ⟨a, vs, rfl, SqL.of (f3.low _ _ ha), fun p hp => q (.ref p) _ F3 T3 _ (e1.trans (e2.trans e3)) (.lst (RpA.of_fz za.cutV)) (r3.own hp)⟩
    cases ez
    cases (z1.mono e2).mono e3 with
    | scr ha za =>
    obtain ⟨fp, f3, _⟩ := r3.fp
    exact .inl ⟨_, _, rfl, Same.seq f3.low ha, fun p hp => q (.ref p) _ F3 T3 _ (e1.trans (e2.trans e3)) (.lst (RpA.of_fz za.cutV)) (r3.own hp)⟩
theorem sl_nop : True := True.intro
/-- x.pop(e) of the list in slot i -/
theorem RpA.erase {K : PySem.W.Frag} {F : Hp} {T : List Addr} {y : M.D} : ∀ {os : List M.O} {vs : List V} {f2 : Fp} {j : Nat}, RpA K F T vs os f2 → os[j]? = some (.fz y) → ∃ v, vs[j]? = some v ∧ Fz K F T v y ∧ RpA K F T (vs.eraseIdx j) (os.eraseIdx j) f2
  | [], _, _, _, r, h => by cases h
  | o :: os, _, _, 0, r, h => by
    cases r with
    | cons r0 r =>
      cases h
      cases r0 with
      | fz z => exact ⟨_, rfl, z, r⟩
  | o :: os, _, _, j + 1, r, h => by
    cases r with
    | cons r0 r =>
      obtain ⟨v, h1, h2, h3⟩ := RpA.erase (j := j) r h
      exact ⟨v, h1, h2, .cons r0 h3⟩
theorem se_popAt {n : Nat} {nm : Str} {px apos : Pos} (hv : PE X (.Name nm px) (tVar n)) (ha : SE X W a ma)
    (hbase : attributeBase (.Name nm px) "pop" X.env (eval (.Name nm px) X.env) = eval (.Name nm px) X.env := by rfl)
    (hfew : ((backTo pos (starEach [a] X.env)).all (fun x => !x.1) && (backToKw pos (keywordEach [] X.env)).all (fun x => x.1.isSome)
      && decide ([a].length + ([] : List Keyword).length + (if ([] : List Keyword).isEmpty then 0 else 1) < 30)) = true := by rfl)
    (hline : (apos.endLine == pos.line) = true := by rfl) (hs : starEach [a] X.env = (false, eval a X.env) :: starEach [] X.env := by rfl) (hplain : (backTo pos (starEach [] X.env)).any (·.1) = false := by rfl) :
    SE X W (.Call (.Attribute (.Name nm px) "pop" apos) [a] [] pos) (M.ePopAt n ma) :=
  PE.imp (pe_bm PySem.F.plainAttrs_list PySem.F.slot_list_pop PySem.F.type_list_pop mt_popAt hv (pa_cons ha pa_nil hs) hbase hfew hline hs hplain) fun σ H Q ⟨ρ, F, T, fr, rel, h⟩ => by
    unfold M.ePopAt at h
    split at h
    · rename_i os0 e0
      obtain ⟨fe, fw, re, rw, ff⟩ := id rel
      obtain ⟨v, f1, f2, f3, h1, _, h3, _⟩ := re.get e0
      cases h3 with
      | @lst p vs0 _ fp0 r0 =>
        obtain ⟨vs1, f21, hH, _, _⟩ := rel.slotW e0 h1
        refine ⟨.ref p, h1, .inl ⟨rfl, vs1, SqL.of hH⟩, qE_bind rel h fun d ρ1 u H1 F1 T1 e1 z1 r1 h2 => ?_⟩
        split at h2
        · rename_i os z e2
          split at h2
          · rename_i j ej
            split at h2
            · rename_i y ey
              cases z1
              obtain ⟨vs, f2', hH2, r2, back⟩ := r1.slotW e2 h1
              obtain ⟨vy, g1, g2, g3⟩ := RpA.erase r2 ey
              split at ej
              · rename_i hl
                have hlen : vs.length ≤ M.LINE := by rw [r2.length]; exact hl
                have ej' : ixN vs.length z = some j := by rw [r2.length]; exact ej
                obtain ⟨q1, q2, q3, q4⟩ := ixN_seq ej'
                have hlen' : vs.length ≤ 16777216 := hlen
                exact ⟨p, vs, z, j, vy, rfl, rfl, hH2, by omega, by omega, q1, g1, h2 vy _ F1 T1 e1 g2 (back _ _ f2' fr g3 .refl)⟩
              · cases ej
            · exact h2.elim
          · exact h2.elim
        · exact h2.elim
    · exact h.elim
end
end S

/-! try. -/
namespace S
open PySem PySem.Spec PyProof.Rows L2
section
variable {X : Cx} {W : WX} {K : PySem.W.Frag} {D : Ends} {σ : St} {H : Hp} {F : Hp} {T : List Addr} {fr : Fp}
abbrev Hm := List ((String → Option Bool) × (M.Exc → M.MS))
/-- a suite's reading: of some exception of that class -/
def tsM (K : PySem.W.Frag) (h : M.Exc → M.MS) : Addr → Value → Option Addr → TS := fun _ cls _ D σ H => ∃ e : M.Exc, cls = .ref (He.ga K e.cls) ∧ qS K W0 (h e) D σ H
inductive HdsM (X : Cx) : List ExceptHandler → Hm → List (Value × (Addr → Value → Option Addr → TS)) → Prop
  | nil : HdsM X [] [] []
  | cons {x : Str} {c : Value} {g : String → Option Bool} {h : M.Exc → M.MS} {b₀ : Stmt} {suite : List Stmt} {np pos' : Pos} {hds : List ExceptHandler} {l : Hm} {l' : List (Value × (Addr → Value → Option Addr → TS))} (hc : Names X x c)
      (hg : ∀ y b, g y = some b → PySem.W.exmOne X.K (.ref (He.ga X.K y)) c = some b)
      (hsu : ∀ (e : M.Exc) (a : Addr) (oe : Obj) (d : Option Addr) (pn : List (Addr × Obj)), Zc (.ref (He.ga X.K e.cls)) d oe → (∃ vs, oe.data = .fields vs) → SSs (X.suite a ((a, oe) :: pn)) W0 (b₀ :: suite) (h e)) (r : HdsM X hds l l') :
      HdsM X (.ExceptHandler (some (.Name x np)) none (b₀ :: suite) pos' :: hds) ((g, h) :: l) ((c, tsM X.K h) :: l')
theorem suite_ts {h : M.Exc → M.MS} {b : List Stmt} (hsu : ∀ (e : M.Exc) (a : Addr) (oe : Obj) (d : Option Addr) (pn : List (Addr × Obj)), Zc (.ref (He.ga X.K e.cls)) d oe → (∃ vs, oe.data = .fields vs) → SSs (X.suite a ((a, oe) :: pn)) W0 b (h e)) :
    ∀ (a : Addr) (oe : Obj) (cls : Value) (d : Option Addr) (pn : List (Addr × Obj)), Zc cls d oe → (∃ vs, oe.data = .fields vs) → PSs (X.suite a ((a, oe) :: pn)) b (tsM X.K h a cls d) := by
  intro a oe cls d pn hz hf
  refine ⟨fun pins s σ H D I q => ?_⟩
  obtain ⟨e, rfl, q⟩ := q
  exact (hsu e a oe d pn hz hf).run pins s σ H D I q
theorem HdsM.ok {hds : List ExceptHandler} {l : Hm} {l' : List (Value × (Addr → Value → Option Addr → TS))} (h : HdsM X hds l l') : HdsOk X hds l' := by
  induction h with
  | nil => exact .nil
  | cons hc hg hsu r ih => exact .cons hc (suite_ts hsu) ih
theorem PostS.noX {r : M.Out} (h : PostS K W D F T fr (M.noXS r)) : PostS K W0 D F T fr r := by
  cases r with
  | exc x ρ => exact h.elim
  | nx ρ => exact h
  | bk ρ => exact h
  | ct ρ => exact h
  | rt o w => exact h
  | bad => exact h
theorem hds_read {hds : List ExceptHandler} {l : Hm} {l' : List (Value × (Addr → Value → Option Addr → TS))} (hm : HdsM X hds l l') {x : M.Exc} {ρ : M.PSt} (h : PostS X.K W D F T fr (M.hds l x ρ)) :
    ∀ cls dd H' F' T', Ext F T F' T' → XcR X.K F' T' x cls dd → Rel X.K ρ σ H' F' T' fr → wMany X.K W D l' cls dd σ H' := by
  induction hm with
  | nil => exact fun cls dd H' F' T' e z r => h σ cls dd H' F' T' e z r
  | @cons x0 c g hh b₀ suite np pos' hds l l' hc hg hsu r ih =>
    intro cls dd H' F' T' e z rel
    have ec := z.1
    subst ec
    unfold M.hds at h
    cases eg : g x.cls with
    | none => rw [eg] at h; exact h.elim
    | some b =>
      rw [eg] at h
      refine ⟨b, hg _ _ eg, fun hb a ha => ?_, fun hb => ?_⟩
      · subst hb
        exact ⟨x, rfl, ρ, F', T', fr, rel, PostS.mono (PostS.noX h) e⟩
      · subst hb
        exact ih h _ dd H' F' T' e z rel
theorem ss_try {body : List Stmt} {h₀ : ExceptHandler} {hds : List ExceptHandler} {l : Hm} {l' : List (Value × (Addr → Value → Option Addr → TS))} {pos : Pos} {mb : M.MS} (hs : X.stack = X.env :: X.outer) (hf : X.env.frame = some X.env.locals) (tk : Takes X W)
    (hb : ∀ (W : WX) (pn : List (Addr × Obj)) (xe : Value → Shared → Prop), Takes (X.tr pn xe) W → PassesOwn (model X.prog X.w) X.A X.env xe → SSs (X.tr pn xe) W body mb)
    (hh : HdsM X (h₀ :: hds) l l') : SS X W (.Try body (h₀ :: hds) [] [] pos) (M.sTry mb l) :=
  PS.imp (ps_try_many (tb := fun W => qS X.K W mb) hs hf tk hb hh.ok) fun D σ H ⟨ρ, F, T, fr, rel, h⟩ => by
    refine ⟨ρ, F, T, fr, rel, ?_⟩
    unfold M.sTry at h
    cases e : mb ρ with
    | nx ρ1 => rw [e] at h; exact h
    | bk ρ1 => rw [e] at h; exact h
    | ct ρ1 => rw [e] at h; exact h
    | rt o w => rw [e] at h; exact h
    | exc x ρ1 => rw [e] at h; exact fun σ' cls dd H' F' T' e z r => hds_read hh h cls dd H' F' T' e z r
    | bad => rw [e] at h; exact h
theorem Rel.off {K : PySem.W.Frag} {ρ : M.PSt} (r : Rel K ρ σ H F T fr) (i : Nat) (x : Option V) : Rel K ⟨ρ.env.set i none, ρ.w⟩ (σ.set i x) H F T fr := by
  obtain ⟨fe, fw, re, rw, f⟩ := r
  obtain ⟨fq, h1, h2⟩ := re.drop i x
  exact ⟨fq, fw, h1, rw, f.part (.app h2 .refl)⟩
theorem PostS.off {K : PySem.W.Frag} {i : Nat} {r : M.Out} (h : PostS K W D F T fr (M.offS i r)) : PostS K W { nx := fun σ' H' => D.nx (σ'.set i none) H', rt := D.rt, bk := fun σ' H' => D.bk (σ'.set i none) H', ct := fun σ' H' => D.ct (σ'.set i none) H' } F T fr r := by
  cases r with
  | exc x ρ => exact h
  | nx ρ => exact fun σ' H' F' T' e r => h _ H' F' T' e (r.off i none)
  | bk ρ => exact fun σ' H' F' T' e r => h _ H' F' T' e (r.off i none)
  | ct ρ => exact fun σ' H' F' T' e r => h _ H' F' T' e (r.off i none)
  | rt o w => exact h
  | bad => exact h
theorem off_noX {i : Nat} {r : M.Out} (h : PostS K W D F T fr (M.offS i (M.noXS r))) : PostS K W0 { nx := fun σ' H' => D.nx (σ'.set i none) H', rt := D.rt, bk := fun σ' H' => D.bk (σ'.set i none) H', ct := fun σ' H' => D.ct (σ'.set i none) H' } F T fr r := PostS.noX (PostS.off h)
theorem ss_tryAs {x n : Str} {c : Value} {i : Nat} {body suite : List Stmt} {b₀ : Stmt} {np pos pos' : Pos} {mb : M.MS} {g : String → Option Bool} {h : M.Exc → M.MS} (hs : X.stack = X.env :: X.outer) (hf : X.env.frame = some X.env.locals) (hN : X.N.Nodup) (hi : X.N[i]? = some n) (hln : X.env.kindOf n = some .local) (hc : Names X x c) (tk : Takes X W)
    (hg : ∀ y b, g y = some b → PySem.W.exmOne X.K (.ref (He.ga X.K y)) c = some b)
    (hb : ∀ (W : WX) (pn : List (Addr × Obj)) (xe : Value → Shared → Prop), Takes (X.tr pn xe) W → PassesOwn (model X.prog X.w) X.A X.env xe → SSs (X.tr pn xe) W body mb)
    (hsu : ∀ (e : M.Exc) (a : Addr) (oe : Obj) (d : Option Addr) (pn : List (Addr × Obj)), Zc (.ref (He.ga X.K e.cls)) d oe → (∃ vs, oe.data = .fields vs) → SSs (X.suite a ((a, oe) :: pn)) W0 (b₀ :: suite) (h e)) :
    SS X W (.Try body [.ExceptHandler (some (.Name x np)) (some n) (b₀ :: suite) pos'] [] [] pos) (M.sTryAs i mb g h) :=
  PS.imp (ps_try_as (tb := fun W => qS X.K W mb) hs hf hN hi hln hc tk hb (suite_ts hsu)) fun D σ H ⟨ρ, F, T, fr, rel, hh⟩ => by
    refine ⟨ρ, F, T, fr, rel, ?_⟩
    unfold M.sTryAs at hh
    cases e : mb ρ with
    | nx ρ1 => rw [e] at hh; exact hh
    | bk ρ1 => rw [e] at hh; exact hh
    | ct ρ1 => rw [e] at hh; exact hh
    | rt o w => rw [e] at hh; exact hh
    | bad => rw [e] at hh; exact hh
    | exc y ρ1 =>
      rw [e] at hh
      intro σ' cls dd H' F' T' e z r
      have ec := z.1
      subst ec
      dsimp only at hh
      cases eg : g y.cls with
      | none => rw [eg] at hh; exact hh.elim
      | some b =>
        rw [eg] at hh
        refine ⟨b, hg _ _ eg, fun hb a ha => ?_, fun hb => ?_⟩
        · subst hb
          exact ⟨y, rfl, _, F', T', fr, r.off i _, PostS.mono (off_noX hh) e⟩
        · subst hb
          exact hh σ' _ dd H' F' T' e z r
end
/-- what a table of classes says -/
def SubOk (K : PySem.W.Frag) (t : M.ET) : Prop := ∀ e ∈ t, PySem.W.exmOne K (.ref (He.ga K e.1)) (.ref (He.ga K e.2.1)) = some e.2.2
theorem sub_ok {K : PySem.W.Frag} : ∀ {t : M.ET} (h : SubOk K t) {y c : String} {b : Bool}, M.sub t y c = some b → PySem.W.exmOne K (.ref (He.ga K y)) (.ref (He.ga K c)) = some b
  | [], _, _, _, _, e => by cases e
  | (a, b', r) :: t, h, y, c, b, e => by
    unfold M.sub at e
    split at e
    · rename_i q
      obtain ⟨rfl, rfl⟩ := q
      cases e
      exact h _ List.mem_cons_self
    · exact sub_ok (fun e he => h e (List.mem_cons_of_mem _ he)) e
/-- isinstance(e, C), e the caught exception -/
def KitOk (K : PySem.W.Frag) (t : M.ET) : Prop := ∀ e ∈ t, ExcC K (He.ga K e.1) ∧ PySem.W.kitOne K (.ref (He.ga K e.1)) (.ref (He.ga K e.2.1)) = some e.2.2
theorem kit_ok {K : PySem.W.Frag} : ∀ {t : M.ET} (h : KitOk K t) {y c : String} {b : Bool}, M.sub t y c = some b → ExcC K (He.ga K y) ∧ PySem.W.kitOne K (.ref (He.ga K y)) (.ref (He.ga K c)) = some b
  | [], _, _, _, _, e => by cases e
  | (a, b', r) :: t, h, y, c, b, e => by
    unfold M.sub at e
    split at e
    · rename_i q
      obtain ⟨rfl, rfl⟩ := q
      cases e
      exact h _ List.mem_cons_self
    · exact kit_ok (fun e he => h e (List.mem_cons_of_mem _ he)) e
end S

/-! Names given away, displays, dead code, enumerate, reversed. -/
namespace S
open PySem PySem.Spec PyProof.Rows L2
section
variable {X : Cx} {W : WX} {pos p : Pos} {a b e : Expr} {st : Stmt} {es : List Expr} {ma mb : M.ME} {as : M.MA}
theorem so_v {i : Nat} (h : PE X e (tVar i)) : SO X W e (M.oV i) := PE.imp h fun σ H Q ⟨ρ, F, T, fr, rel, h⟩ => by
  unfold M.oV at h
  split at h
  · rename_i d e
    obtain ⟨fe, fw, re, rw, f⟩ := id rel
    obtain ⟨v, f1, f2, f3, h1, rfl, h3, h4, h5⟩ := re.get e
    cases h3 with
    | fz z => exact ⟨v, h1, h v H F T [] .refl (.fz z) rel⟩
  · rename_i o _ e
    obtain ⟨fe, fw, re, rw, f⟩ := rel
    obtain ⟨v, f1, f2, f3, h1, rfl, h3, h4, h5⟩ := re.get e
    refine ⟨v, h1, h v H F T f2 .refl h3 ⟨_, fw, h4, rw, f.part ?_⟩⟩
    constructor
    · intro e h
      simp only [List.mem_append] at *
      grind
    · intro x
      simp only [keys, List.map_append, List.count_append] at *
      omega
  · exact h.elim
/-- [a, b, ..] for one holder -/
theorem so_lst (h : SA X W es as) : SO X W (.List es pos) (M.oNew (M.eLst as)) := PE.imp (pe_lst h) fun σ H Q ⟨ρ, F, T, fr, rel, h⟩ => by
  have h0 := Post.bind h
  refine qA_bind rel h0 fun ds ρ1 vs H1 F1 T1 e1 z1 r1 h1 => ?_
  split at h1
  · rename_i hl
    refine ⟨by rw [z1.length, line_eq]; exact hl, fun p hp => ?_⟩
    exact h1 (.ref p) _ F1 T1 _ e1 (.lst (RpA.of_fz z1)) (r1.own hp)
  · exact h1.elim
theorem ss_dead : SS X W st M.sBad := ⟨fun _ _ _ _ _ _ ⟨_, _, _, _, _, h⟩ => h.elim⟩
theorem se_dead : SE X W e M.eBad := ⟨fun _ _ _ _ _ _ ⟨_, _, _, _, _, h⟩ => h.elim⟩
end
section
variable {K : PySem.W.Frag} {F : Hp} {T : List Addr}
theorem enumD_len : ∀ (ds : List M.D) (k : Nat), (M.enumD k ds).length = ds.length
  | [], _ => rfl
  | _ :: ds, k => congrArg (· + 1) (enumD_len ds (k + 1))
theorem enumD_get : ∀ (ds : List M.D) (k i : Nat) (d : M.D), (M.enumD k ds)[i]? = some d → ∃ x, ds[i]? = some x ∧ d = .tup [.int ((k + i : Nat) : Int), x]
  | [], _, i, d, h => by simp [M.enumD] at h
  | x :: ds, k, 0, d, h => ⟨x, rfl, (Option.some.inj h).symm⟩
  | x :: ds, k, i + 1, d, h => by
    obtain ⟨y, h1, h2⟩ := enumD_get ds (k + 1) i d h
    exact ⟨y, h1, by rw [h2, show k + 1 + i = k + (i + 1) by omega]⟩
theorem it_en {J : It} {ds : List M.D} (hs : ∀ F' T' H' fp i, Ext F T F' T' → FpH F' H' fp → i = ds.length → J.stop i H')
    (hy : ∀ F' T' H' fp i dx, Ext F T F' T' → FpH F' H' fp → ds[i]? = some dx → J.go i H' ∧ ∀ v H2, J.yld i H' v H2 → ∃ p x, v = .ref p ∧ H' p = none ∧ H2 = upd H' p (.tup [.int (i : Nat), x]) ∧ Fz K F' T' x dx) : ItOk K J (M.enumD 0 ds) F T := fun F' T' H' fp i e f hi => by
  rw [enumD_len] at hi ⊢
  refine ⟨fun q => hs F' T' H' fp i e f q, fun d hd => ?_⟩
  obtain ⟨dx, h1, rfl⟩ := enumD_get _ _ _ _ hd
  obtain ⟨g, y⟩ := hy F' T' H' fp i dx e f h1
  refine ⟨g, fun v H2 q => ?_⟩
  obtain ⟨p, x, rfl, hp, rfl, zx⟩ := y v H2 q
  have s : Same F' (upd F' p (.tup [.int (i : Nat), x])) := same_new (f.free hp)
  refine ⟨_, s, .tup (SqT.of upd_same) (.cons ?_ (.cons (zx.mono (.of s)) .nil)), f.new hp⟩
  rw [Nat.zero_add]
  exact .int _
theorem it_enS {s : M.Tx} (o : okT s) : ItOk K (ItP (fun i => some (.int (i : Nat))) (chS (sx s)) (sx s).cps.size) (M.enumD 0 (s.map M.chD)) F T := by
  have e1 : (sx s).cps.size = s.length := sx_len s
  refine it_en (fun F' T' H' fp i e f hi => ?_) fun F' T' H' fp i dx e f h1 => ?_
  · rw [List.length_map] at hi
    show i = (sx s).cps.size
    omega
  · rw [List.getElem?_map] at h1
    cases q1 : s[i]? with
    | none => rw [q1] at h1; cases h1
    | some c =>
      rw [q1] at h1
      cases h1
      have l1 := (List.getElem?_eq_some_iff.mp q1).1
      refine ⟨by show i < (sx s).cps.size; omega, fun v H2 y => ?_⟩
      obtain ⟨p, x, y', rfl, hp, rfl, c1, c2⟩ := y
      cases c1
      unfold chS at c2
      rw [sx_cps, q1] at c2
      cases c2
      exact ⟨p, _, rfl, hp, rfl, fz_ch (o.1 c (List.mem_of_getElem? q1))⟩
theorem it_enL {a : Addr} {vs : List V} {ds : List M.D} (ha : F a = some (.lst vs)) (z : FzA K F T vs ds) : ItOk K (Ite K a) (M.enumD 0 ds) F T := by
  refine it_en (fun F' T' H' fp i e f hi => ?_) fun F' T' H' fp i dx e f h1 => ?_
  · exact ⟨vs, SqL.of (f.low _ _ (e.f _ _ ha)), by rw [z.length]; omega⟩
  · obtain ⟨x, x1, x2⟩ := z.get h1
    have a1 : SqL K H' a vs := SqL.of (f.low _ _ (e.f _ _ ha))
    refine ⟨⟨vs, x, a1, x1⟩, fun v H2 q => ?_⟩
    obtain ⟨p, x', rfl, hp, rfl, q1⟩ := q
    have := q1 vs a1
    rw [x1] at this
    cases this
    exact ⟨p, _, rfl, hp, rfl, x2.mono e⟩
theorem it_revL {a : Addr} {vs : List V} {ds : List M.D} (ha : F a = some (.lst vs)) (z : FzA K F T vs ds) : ItOk K (Itv K a vs.length) ds.reverse F T := fun F' T' H' fp i e f hi => by
  have h' : SqL K H' a vs := SqL.of (f.low _ _ (e.f _ _ ha))
  rw [List.length_reverse] at hi ⊢
  refine ⟨fun q => by show vs.length ≤ i; rw [z.length]; omega, fun d hd => ?_⟩
  have hl : i < ds.length := by
    have := (List.getElem?_eq_some_iff.mp hd).1
    rwa [List.length_reverse] at this
  rw [List.getElem?_reverse hl] at hd
  obtain ⟨v, h1, h2⟩ := z.get hd
  have h1' : vs[vs.length - 1 - i]? = some v := by rw [z.length]; exact h1
  refine ⟨⟨by rw [z.length]; exact hl, vs, v, h', h1'⟩, fun x H2 y => ?_⟩
  obtain ⟨rfl, y⟩ := y
  have := y vs h'
  rw [h1'] at this
  cases this
  exact ⟨F', fun _ _ e => e, h2.mono e, f⟩
theorem it_revT {a : Addr} {vs : List V} {ds : List M.D} (ha : SqT K F a vs) (z : FzA K F T vs ds) : ItOk K (RT.ItvT K a vs.length) ds.reverse F T := fun F' T' H' fp i e f hi => by
  have h' : SqT K H' a vs := seqT f.low (seqT e.f ha)
  rw [List.length_reverse] at hi ⊢
  refine ⟨fun q => by show vs.length ≤ i; rw [z.length]; omega, fun d hd => ?_⟩
  have hl : i < ds.length := by
    have := (List.getElem?_eq_some_iff.mp hd).1
    rwa [List.length_reverse] at this
  rw [List.getElem?_reverse hl] at hd
  obtain ⟨v, h1, h2⟩ := z.get hd
  have h1' : vs[vs.length - 1 - i]? = some v := by rw [z.length]; exact h1
  refine ⟨⟨by rw [z.length]; exact hl, vs, v, h', h1'⟩, fun x H2 y => ?_⟩
  obtain ⟨rfl, y⟩ := y
  have := y vs h'
  rw [h1'] at this
  cases this
  exact ⟨F', fun _ _ e => e, h2.mono e, f⟩
end
section
variable {X : Cx} {W : WX} {pos p tpos : Pos} {a : Expr} {ma : M.ME} {σ : St} {H : Hp} {elts : List Expr} {kk : Nat}
theorem tCons_of {K : PySem.W.Frag} {m : M.ME} {ρ ρ1 : M.PSt} {F : Hp} {T : List Addr} {fr : Fp} {d : M.D} {R : List V → Hp → Prop} (rel : Rel K ρ σ H F T fr) (em : m ρ = .ok d ρ1) (h : ∀ v H' F' T', Ext F T F' T' → Fz K F' T' v d → Rel K ρ1 σ H' F' T' fr → R [v] H') : tCons (qE K W m) tNil σ H R :=
  ⟨ρ, F, T, fr, rel, by rw [em]; exact h⟩
theorem si_enum (hg : Gl X "enumerate") (hm : X.mg "enumerate" = none) (h : SE X W a ma) (hs : starEach [a] X.env = [(false, eval a X.env)] := by rfl) : SI X W (.Tuple elts kk tpos) (.Call (.Name "enumerate" p) [a] [] pos) (M.iEnum ma) :=
  PI.imp (pi_or (pi_enumS hg hm (pa_cons h pa_nil hs) hs) (pi_enum hg hm (pa_cons h pa_nil hs) hs)) fun σ H R ⟨ρ, F, T, fr, rel, q⟩ => by
    have q2 := Post.bind q
    cases em : ma ρ with
    | bad => rw [em] at q2; exact q2.elim
    | exc x ρ1 =>
      rw [em] at q2
      exact .inl ⟨ρ, F, T, fr, rel, by rw [em]; exact q2⟩
    | ok d ρ1 =>
      rw [em] at q2
      obtain ⟨ds, e1, q3⟩ := Post.ofO (show Post _ _ _ from q2)
      cases d <;> try (cases e1; done)
      · cases e1
        refine .inl (tCons_of rel em fun v H' F' T' e z r => ?_)
        obtain ⟨rfl, o⟩ := z.str_inv
        exact ⟨_, rfl, q3 _ _ _ _ e (it_enS o) r⟩
      · cases e1
        refine .inr (tCons_of rel em fun v H' F' T' e z r => ?_)
        obtain ⟨p, vs, rfl, ha, za⟩ := z.lst_inv
        obtain ⟨fp, f, _⟩ := r.fp
        exact ⟨p, vs, rfl, SqL.of (f.low _ _ ha), q3 _ _ _ _ e (it_enL ha za) r⟩
theorem si_rev {tg : Expr} (hg : Gl X "reversed") (hm : X.mg "reversed" = none) (h : SE X W a ma) (hs : starEach [a] X.env = (false, eval a X.env) :: starEach [] X.env := by rfl) : SI X W tg (.Call (.Name "reversed" p) [a] [] pos) (M.iRev ma) :=
  PI.imp (RT.pi_revA hg hm h hs) fun σ H R ⟨ρ, F, T, fr, rel, q⟩ => by
    refine qE_bind rel q fun dx ρ1 v H1 F1 T1 e1 z1 r1 h1 => ?_
    obtain ⟨ds, e2, q2⟩ := Post.ofO h1
    obtain ⟨fp, f, _⟩ := r1.fp
    cases dx <;> try (cases e2; done)
    · cases e2
      obtain ⟨p, vs, rfl, ha, za⟩ := z1.tup_inv
      exact ⟨p, vs, rfl, .inr ⟨seqT f.low ha, q2 _ _ _ _ e1 (it_revT ha za) r1⟩⟩
    · cases e2
      obtain ⟨p, vs, rfl, ha, za⟩ := z1.lst_inv
      exact ⟨p, vs, rfl, .inl ⟨SqL.of (f.low _ _ ha), q2 _ _ _ _ e1 (it_revL ha za) r1⟩⟩
end
theorem fz_lit {K : PySem.W.Frag} {F : Hp} {T : List Addr} {x : Str} {s : M.Tx} (hs : x = sx s) (ho : okTb s = true) : Fz K F T (.str x) (.str s) := by subst hs; exact .str (okT_of ho)
end S

/-! in over a name's list; keys of displays; the law's start. -/
namespace S
open PySem PySem.Spec PyProof.Rows L2
section
variable {X : Cx} {W : WX} {K : PySem.W.Frag} {pos p : Pos} {a b : Expr} {ma : M.ME} {F H : Hp} {T : List Addr}
theorem pe_strC {x : Str} {s : M.Tx} {j pos} (h : x = sx s) : PE X (.Constant (.str x) j pos) (tC (kV (.inr (sx s)))) := by
  subst h
  exact pe_str
theorem RpA.datas : ∀ {vs : List V} {os : List M.O} {fp : Fp}, RpA K F T vs os fp → os.all (fun o => match o with | .fz _ => true | _ => false) = true → FzA K F T vs (os.map M.frz)
  | _, _, _, .nil, _ => .nil
  | _, _, _, .cons r0 r, h => by
    rw [List.all_cons, Bool.and_eq_true] at h
    cases r0 with
    | fz z => exact .cons z (RpA.datas r h.2)
    | _ => exact absurd h.1 (by simp)
/-- a look at the name in slot i: f of the item and what stands there -/
theorem in_look {neg : Bool} {x : V} {dx dz : M.D} {o : M.O} {v : V} {f2 fp : Fp} {Q : VK} (f : FpH F H (f2 ++ fp)) (hx : Fz K F T x dx) (r : Rp K F T v o f2)
    (h : (if neg = true then M.notO (M.inO dx o) else M.inO dx o) = some dz) (k : ∀ v' H' F' , Same F F' → Fz K F' T v' dz → FpH F' H' (f2 ++ fp) → Q v' H') : (if neg = true then rNotInU K x v H Q else rInU K x v H Q) := by
  cases r with
  | @fz v d z =>
    cases neg with
    | false =>
      rw [if_neg Bool.false_ne_true] at h ⊢
      exact o_in f hx z h k
    | true =>
      rw [if_pos rfl] at h ⊢
      refine o_notin f hx z (dz := dz) ?_ k
      unfold M.pNotIn
      cases e : M.pIn dx d with
      | none => simp [M.inO, e, M.notO] at h
      | some y =>
        simp only [M.inO, e] at h
        cases y <;> first | exact h | cases h
  | @lst pa vs os fp0 r =>
    have hH : H pa = some (.lst vs) := (f.at_ (pa, .lst vs) (by simp)).1
    have main : ∀ {dz : M.D}, M.inO dx (.lst os) = some dz → ∃ ds, M.sca dx = true ∧ ds.all M.sca = true ∧ FzA K F T vs ds ∧ dz = .bl (ds.any fun d => M.eqb d dx) := by
      intro dz h
      have h : (if os.all (fun o => match o with | .fz _ => true | _ => false) = true then M.pIn dx (.lst (os.map M.frz)) else none) = some dz := h
      split at h
      · rename_i hd
        rcases in_shape h with ⟨c, s, _, e, _⟩ | ⟨ds, e, h1, h2, h3⟩
        · cases e
        · rcases e with e | e
          · cases e
            exact ⟨_, h1, h2, r.datas hd, h3⟩
          · cases e
      · cases h
    cases neg with
    | false =>
      rw [if_neg Bool.false_ne_true] at h ⊢
      obtain ⟨ds, h1, h2, za, rfl⟩ := main h
      obtain ⟨e1, e2⟩ := inV_D hx h1 za h2
      refine .inr (.inl ⟨pa, vs, rfl, .inl (SqL.of hH), flat_D hx h1, e2, ?_⟩)
      rw [if_neg Bool.false_ne_true, e1]
      exact k _ H F (fun _ _ e => e) (.bl _) f
    | true =>
      rw [if_pos rfl] at h ⊢
      cases e : M.inO dx (.lst os) with
      | none => rw [e] at h; cases h
      | some y =>
        obtain ⟨ds, h1, h2, za, rfl⟩ := main e
        rw [e] at h
        cases h
        obtain ⟨e1, e2⟩ := inV_D hx h1 za h2
        refine .inr (.inl ⟨pa, vs, rfl, .inl (SqL.of hH), flat_D hx h1, e2, ?_⟩)
        rw [if_pos rfl, e1]
        exact k _ H F (fun _ _ e => e) (.bl _) f
  | tup r => cases neg <;> cases h
  | dct r => cases neg <;> cases h
theorem inV_read {neg : Bool} {i : Nat} {σ : St} {H : Hp} {Q : VK} (h : qE K W (if neg = true then M.eNotInV i ma else M.eInV i ma) σ H Q) : tOp (fun x y H Q => if neg = true then rNotInU K x y H Q else rInU K x y H Q) (qE K W ma) (tVar i) σ H Q := by
  obtain ⟨ρ, F, T, fr, rel, h⟩ := h
  have h' : Post ((ma ρ).bind fun x ρ1 => match ρ1.env[i]? with
    | some (some o) => M.ofO (if neg = true then M.notO (M.inO x o) else M.inO x o) ρ1
    | _ => .bad) (fun d ρ' => ∀ v H' F' T', Ext F T F' T' → Fz K F' T' v d → Rel K ρ' σ H' F' T' fr → Q v H') (EX K W σ F T fr) := by
    cases neg <;> exact h
  refine qE_bind rel h' fun dx ρ1 v H1 F1 T1 e1 z1 r1 h1 => ?_
  split at h1
  · rename_i o e
    obtain ⟨dz, ez, q⟩ := Post.ofO h1
    obtain ⟨fe, fw, re, rw, f⟩ := r1
    obtain ⟨u, f1, f2, f3, g1, rfl, g3, g4, g5⟩ := re.get e
    refine ⟨u, g1, ?_⟩
    have f' : FpH F1 H1 (f2 ++ (f1 ++ (f3 ++ (fw ++ fr)))) := f.part (by
      constructor
      · intro e h
        simp only [List.mem_append] at *
        grind
      · intro x
        simp only [keys, List.map_append, List.count_append] at *
        omega)
    refine in_look f' z1 g3 ez fun v' H' F' s zz ff => ?_
    refine q v' H' F' T1 (e1.trans (.of s)) zz ⟨_, fw, re.mono (.of s), rw.mono (.of s), ff.part ?_⟩
    constructor
    · intro e h
      simp only [List.mem_append] at *
      grind
    · intro x
      simp only [keys, List.map_append, List.count_append] at *
      omega
  · exact h1.elim
theorem se_inV {i : Nat} (ha : SE X W a ma) (hv : PE X b (tVar i)) (hm : behindInMarks .In b = false := by rfl) : SE X W (.Compare a [.In] [b] pos) (M.eInV i ma) := PE.imp (pe_cmpR op_inU ha hv hm) fun σ H Q h => inV_read (neg := false) h
theorem se_notinV {i : Nat} (ha : SE X W a ma) (hv : PE X b (tVar i)) (hm : behindInMarks .NotIn b = false := by rfl) : SE X W (.Compare a [.NotIn] [b] pos) (M.eNotInV i ma) := PE.imp (pe_cmpR op_notInU ha hv hm) fun σ H Q h => inV_read (neg := true) h
end
/-- the law's start: the script -/
theorem law_start (K : PySem.W.Frag) (H : Hp) (a : Addr) (ns : List Int) (hn : ns.length ≤ 63) (hs : SqL K H a (ns.map V.int)) {m : M.MF} (h : ∀ ns : List Int, ns.length ≤ 63 → ∃ w, m [.scr (ns.map .int)] [] = .ok (.fz (.bl true)) w) :
    spM K m [.ref a] H (fun v _ => v = .bl true) L2.E0 := by
  obtain ⟨w, e⟩ := h ns hn
  refine ⟨[.scr (ns.map .int)], [], H, [], [], .cons (.scr hs (FzA.rgI ns)) .nil, ⟨[], [], .nil, .nil, ⟨fun _ _ e => e, fun _ h => (nomatch h), .nil⟩⟩, ?_⟩
  rw [e]
  intro v H' F' T' fp _ z _
  cases z with
  | fz z => exact z.bl_inv
end S

/-! Methods of lists that change nothing. -/
namespace S
open PySem PySem.Spec PyProof.Rows L2
section
variable {X : Cx} {W : WX} {K : PySem.W.Frag} {cpos apos p : Pos} {name : Str} {id T : String} {o e : Expr} {es : List Expr} {mo : M.ME} {as : M.MA} {σ : St} {H : Hp} {Q : VK}
def MtL (K : PySem.W.Frag) (f : List M.D → List M.D → Option M.D) (r : V → List V → Hp → VK → Prop) : Prop := ∀ {F H : Hp} {T : List Addr} {fp : Fp} {a : Addr} {vs xs : List V} {cs ds : List M.D} {dz : M.D} {Q : VK}, FpH F H fp → SqL K H a vs → FzA K F T vs cs → FzA K F T xs ds → f cs ds = some dz → Grown K F T fp dz Q → r (.ref a) xs H Q
theorem mtL_read {f : List M.D → List M.D → Option M.D} {r : V → List V → Hp → VK → Prop} (hf : MtL K f r) (h : qE K W (M.eMtL f mo as) σ H Q) : tBM K "list" r (qE K W mo) (qA K W as) σ H Q := by
  obtain ⟨ρ, F, T, fr, rel, h⟩ := h
  refine qE_bind rel h fun dx ρ1 v H1 F1 T1 e1 z1 r1 h1 => ?_
  cases dx <;> try exact h1.elim
  obtain ⟨a, vs, rfl, ha, za⟩ := z1.lst_inv
  obtain ⟨fp1, f1, _⟩ := r1.fp
  refine ⟨.inl ⟨rfl, vs, SqL.of (f1.low _ _ ha)⟩, ?_⟩
  refine qA_bind r1 h1 fun ds ρ2 xs H2 F2 T2 e2 z2 r2 h2 => ?_
  obtain ⟨dz, ez, q⟩ := Post.ofO h2
  obtain ⟨fp, f2, back⟩ := r2.fp
  obtain ⟨a', vs', e', ha', za'⟩ := (z1.mono e2).lst_inv
  cases e'
  exact hf f2 (SqL.of (f2.low _ _ ha')) za' z2 ez fun v' H3 F3 s zz f3 => q v' H3 F3 T2 (e1.trans (e2.trans (.of s))) zz (back H3 F3 s f3)
theorem se_mtL {f : List M.D → List M.D → Option M.D} {r : V → List V → Hp → VK → Prop} (slot : Slot "list" name id) (hty : typeOf (.builtin id) = pure (.type "method_descriptor")) (hm : MtR X id r) (hf : MtL X.K f r) (ho : SE X W o mo) (ha : SA X W (e :: es) as)
    (hbase : attributeBase o name X.env (eval o X.env) = eval o X.env := by rfl)
    (hfew : ((backTo cpos (starEach (e :: es) X.env)).all (fun x => !x.1) && (backToKw cpos (keywordEach [] X.env)).all (fun x => x.1.isSome)
      && decide ((e :: es).length + ([] : List Keyword).length + (if ([] : List Keyword).isEmpty then 0 else 1) < 30)) = true := by rfl)
    (hline : (apos.endLine == cpos.line) = true := by rfl) (hs : starEach (e :: es) X.env = (false, eval e X.env) :: starEach es X.env := by rfl) (hplain : (backTo cpos (starEach es X.env)).any (·.1) = false := by rfl) :
    SE X W (.Call (.Attribute o name apos) (e :: es) [] cpos) (M.eMtL f mo as) := PE.imp (pe_bm PySem.F.plainAttrs_list slot hty hm ho ha hbase hfew hline hs hplain) fun _ _ _ h => mtL_read hf h
theorem m_indexL : MtL K M.mIndexL (rIndex K) := by
  intro F H T fp a vs xs cs ds dz Q f ha zc hx h k
  unfold M.mIndexL at h
  split at h
  · obtain ⟨v, rfl, z⟩ := hx.one
    rename_i i
    cases q : M.intsOf cs with
    | none => rw [q] at h; cases h
    | some ns =>
      rw [q, Option.bind_some] at h
      split at h
      · rename_i hm
        cases h
        cases z
        have e := ints_inv zc q
        subst e
        have hl : ns.idxOf i < ns.length := List.idxOf_lt_length_iff.mpr hm
        refine ⟨a, _, .int i, ns.idxOf i, .int i, rfl, rfl, ha, rfl, ?_, ?_, by simp [eqV], ?_, k.here f (.int _)⟩
        · rw [List.all_map, List.all_eq_true]
          exact fun _ _ => rfl
        · rw [List.getElem?_map, List.getElem?_eq_getElem hl, List.getElem_idxOf]
          rfl
        · intro m z' hmj hz
          rw [List.getElem?_map, List.getElem?_eq_getElem (by omega)] at hz
          cases hz
          have := List.not_of_lt_findIdx (p := (· == i)) (xs := ns) hmj
          simpa [eqV] using this
      · cases h
  · cases h
end
end S

/-! More of texts. -/
namespace S
open PySem PySem.Spec PyProof.Rows L2
section
variable {X : Cx} {W : WX} {K : PySem.W.Frag}
theorem occ_none {a b : M.Tx} (h : M.fstT a b = none) : Builtin.Str.occurrences (sx a) (sx b) 0 (sx a).length 1 = [] := by
  have h1 := fst_find a b
  rw [h] at h1
  unfold Txt.find at h1
  cases e : Builtin.Str.occurrences (sx a) (sx b) 0 (sx a).length 1 with
  | nil => rfl
  | cons j rest => rw [e] at h1; exact absurd h1 (by show ¬ ((j : Int) = -1); omega)
theorem occ_is (a b : M.Tx) : (!(Builtin.Str.occurrences (sx a) (sx b) 0 (sx a).length 1).isEmpty) = (M.fstT a b).isSome := by
  cases q : M.fstT a b with
  | none => rw [occ_none q]; rfl
  | some i =>
    obtain ⟨rest, e⟩ := occ_of_fst q
    rw [e]; rfl
theorem o_inT : Op2 K M.pInT (rInU K) := by
  intro F H T fp x y dx dy dz Q f hx hy h k
  unfold M.pInT at h
  split at h
  · obtain ⟨rfl, o1⟩ := hx.str_inv
    obtain ⟨rfl, o2⟩ := hy.str_inv
    cases h
    exact .inr (.inr ⟨_, _, rfl, rfl, by rw [occ_is]; exact k.here f (.bl _)⟩)
  · cases h
theorem cnt_count (c : Nat) : ∀ l : List Nat, PyProof.Rows.cnt c l = ((l.count c : Nat) : Int)
  | [] => rfl
  | n :: r => by
    rw [PyProof.Rows.cnt_cons, cnt_count c r, List.count_cons]
    by_cases h : n = c
    · subst h; simp; omega
    · simp [h]
theorem m_count : MtD K M.mCount (fun x xs H Q => ∃ a b, x = .str a ∧ xs = [.str b] ∧ Q (.int (Txt.count a b)) H) := by
  intro F H T fp s xs ds dz Q f o hx h k
  unfold M.mCount at h
  split at h
  · obtain ⟨rfl, o2⟩ := hx.str1
    cases h
    rename_i c
    refine ⟨_, _, rfl, rfl, ?_⟩
    have e : Txt.count (sx s) (sx [c]) = ((s.count c : Nat) : Int) := by
      show Txt.count (sx s) ⟨#[c]⟩ = _
      rw [PyProof.Rows.count_cnt, sx_cps, cnt_count]
    rw [e]
    exact k.here f (.int _)
  · cases h
theorem FzA.two {F : Hp} {T : List Addr} {xs : List V} {d e : M.D} (h : FzA K F T xs [d, e]) : ∃ v u, xs = [v, u] ∧ Fz K F T v d ∧ Fz K F T u e := by
  cases h with
  | cons a r =>
    cases r with
    | cons b r => cases r; exact ⟨_, _, rfl, a, b⟩
theorem getD_sx (s : M.Tx) (v : Nat) : (sx s).cps.getD v 0 = (s[v]?).getD 0 := by
  show s.toArray.getD v 0 = _
  simp [Array.getD_eq_getD_getElem?]
theorem m_find2 : MtD K M.mFind2 (fun x xs H Q => ∃ (a b : Str) (i : Int), x = .str a ∧ xs = [.str b, .int i] ∧ Q (.int (Txt.find3 a b i)) H) := by
  intro F H T fp s xs ds dz Q f o hx h k
  unfold M.mFind2 at h
  split at h
  · rename_i c i
    split at h
    · rename_i h0
      cases h
      obtain ⟨v, u, rfl, z1, z2⟩ := hx.two
      obtain ⟨rfl, o2⟩ := z1.str_inv
      cases z2
      refine ⟨_, _, i, rfl, rfl, ?_⟩
      have ef : fromIndex (sx s).length i = i.toNat := by
        unfold fromIndex
        rw [if_neg (by omega)]
        omega
      have hlen : (sx s).length = s.length := sx_len s
      have e : Txt.find3 (sx s) (sx [c]) i = M.fnd (M.fstF s c i.toNat) := by
        show Txt.find3 (sx s) ⟨#[c]⟩ i = _
        rcases StrLaws.find3_spec (sx s) c i with ⟨h, hn⟩ | ⟨k, h, hlo, hk, hc, hn⟩
        · rw [h]
          have : M.fstF s c i.toNat = none := by
            unfold M.fstF
            rw [List.find?_eq_none]
            intro j hj hp
            rw [Bool.and_eq_true, decide_eq_true_eq, decide_eq_true_eq] at hp
            have hj := List.mem_range.mp hj
            refine hn j (by rw [ef]; exact hp.1) (by rw [hlen]; exact hj) ?_
            rw [getD_sx, hp.2]; rfl
          rw [this]; rfl
        · rw [h]
          rw [ef] at hlo
          rw [hlen] at hk
          have this : M.fstF s c i.toNat = some k := by
            refine range_lt ?_ hk fun j hj => ?_
            · rw [Bool.and_eq_true, decide_eq_true_eq, decide_eq_true_eq]
              refine ⟨hlo, ?_⟩
              rw [getD_sx, List.getElem?_eq_getElem hk] at hc
              rw [List.getElem?_eq_getElem hk]
              exact congrArg some hc
            · rw [Bool.eq_false_iff]
              intro hp
              rw [Bool.and_eq_true, decide_eq_true_eq, decide_eq_true_eq] at hp
              refine hn j (by rw [ef]; exact hp.1) hj ?_
              rw [getD_sx, hp.2]; rfl
          rw [this]; rfl
      rw [e]
      exact k.here f (.int _)
    · cases h
  · cases h
/-! tables of the module -/
theorem fz_strs {F : Hp} {T : List Addr} : ∀ {ss : List M.Tx}, (∀ s ∈ ss, okT s) → FzA K F T ((ss.map sx).map V.str) (ss.map .str)
  | [], _ => .nil
  | s :: ss, h => .cons (.str (h s List.mem_cons_self)) (fz_strs fun t ht => h t (List.mem_cons_of_mem _ ht))
theorem fz_tupB {x : Str} {F : Hp} {T : List Addr} {vs : List He.Dv} {ss : List M.Tx} (h : He.tupB K x vs = true) (e : vs.map (He.Dv.v K) = (ss.map sx).map V.str) (ok : ss.all okTb = true) : Fz K F T (.ref (He.ga K x)) (.tup (ss.map .str)) :=
  .tup (by rw [← e]; exact He.tupB_ok h F) (fz_strs fun s hs => okT_of (List.all_eq_true.mp ok s hs))
/-- what x in D says, D a dict of the module, for these texts -/
def inKB (K : PySem.W.Frag) (x : Str) (t : List (M.Tx × Bool)) : Bool := t.all fun p => match PySem.W.nsIn K (He.ga K x) (sx p.1) with
  | some r => r.isSome == p.2
  | none => false
theorem lookup_in {t : List (M.Tx × Bool)} {a : M.Tx} {b : Bool} (h : t.lookup a = some b) : (a, b) ∈ t := by
  induction t with
  | nil => cases h
  | cons p t ih =>
    obtain ⟨c, d⟩ := p
    rw [List.lookup_cons] at h
    split at h
    · rename_i e
      cases h
      rw [eq_of_beq e]
      exact List.mem_cons_self
    · exact List.mem_cons_of_mem _ (ih h)
theorem inK_read {ma : M.ME} {x : Str} {t : List (M.Tx × Bool)} {σ : St} {H : Hp} {Q : VK} (hB : inKB K x t = true) (h : qE K W (M.eUn (M.pInK t) ma) σ H Q) :
    tOp (fun a y H Q => ∃ (z : Str) (r : Option Value), a = .str z ∧ y = .ref (He.ga K x) ∧ PySem.W.nsIn K (He.ga K x) z = some r ∧ Q (.bl r.isSome) H) (qE K W ma) (tC (.ref (He.ga K x))) σ H Q := by
  obtain ⟨ρ, F, T, fr, rel, h⟩ := h
  refine qE_bind rel h fun dx ρ1 v H1 F1 T1 e1 z1 r1 h1 => ?_
  obtain ⟨dz, ez, q⟩ := Post.ofO h1
  unfold M.pInK at ez
  split at ez
  · obtain ⟨rfl, o⟩ := z1.str_inv
    rename_i s
    cases q2 : t.lookup s with
    | none => rw [q2] at ez; cases ez
    | some r =>
      rw [q2] at ez
      cases ez
      have h3 := List.all_eq_true.mp hB _ (lookup_in q2)
      dsimp only at h3
      split at h3
      · rename_i r0 e0
        refine ⟨sx s, r0, rfl, rfl, e0, ?_⟩
        rw [eq_of_beq h3]
        exact q _ H1 F1 T1 e1 (.bl _) r1
      · cases h3
  · cases ez
theorem se_inK {a b : Expr} {ma : M.ME} {x : Str} {pos : Pos} {t : List (M.Tx × Bool)} (D : ∃ es n, KDict X.K X.w (He.ga X.K x) es n) (hB : inKB X.K x t = true) (ha : SE X W a ma) (hb : PE X b (tC (.ref (He.ga X.K x)))) (hm : behindInMarks .In b = false := by rfl) :
    SE X W (.Compare a [.In] [b] pos) (M.eUn (M.pInK t) ma) := by
  obtain ⟨es, n, D⟩ := D
  exact PE.imp (pe_cmpR (op_in_kd D) ha hb hm) fun σ H Q h => inK_read hB h
theorem st_inK {a b : Expr} {ma : M.ME} {x : Str} {pos : Pos} {t : List (M.Tx × Bool)} (D : ∃ es n, KDict X.K X.w (He.ga X.K x) es n) (hB : inKB X.K x t = true) (ha : SE X W a ma) (hb : PE X b (tC (.ref (He.ga X.K x)))) (hm : behindInMarks .In b = false := by rfl) :
    ST X W (.Compare a [.In] [b] pos) (M.tE (M.eUn (M.pInK t) ma)) := by
  obtain ⟨es, n, D⟩ := D
  refine PT.imp (pt_cmpR (op_in_kd D) ha hb hm) fun σ H Q ⟨ρ, F, T, fr, rel, h⟩ => ?_
  refine inK_read hB ⟨ρ, F, T, fr, rel, (Post.bind h).mono (fun d ρ1 h1 v H1 F1 T1 e z r => ?_) fun _ _ z => z⟩
  obtain ⟨k, rfl, h2⟩ := Post.asB h1
  exact ⟨k, z.bl_inv, h2 _ _ _ e r⟩
theorem lst_rfind (a b : M.Tx) : Txt.rfind (sx a) (sx b) = M.fnd (M.lstT a b) := by
  rcases PyProof.Rows.rfind_whole (sx a) (sx b) with ⟨h1, h2⟩ | ⟨i, h1, h2, h3⟩
  · rw [h1]
    have : M.lstT a b = none := by
      unfold M.lstT
      rw [List.find?_eq_none.mpr]
      · rfl
      · intro k _ h
        exact h2 _ ((at_iff a b _).mpr h)
    rw [this]; rfl
  · rw [h1]
    have hi : M.isAt a b i = true := (at_iff a b i).mp h2
    have hl : i < a.length + 1 := by
      unfold M.isAt at hi
      rw [Bool.and_eq_true, decide_eq_true_eq] at hi
      omega
    have e1 : a.length - (a.length - i) = i := by omega
    have : M.lstT a b = some i := by
      unfold M.lstT
      rw [range_lt (i := a.length - i) (by rw [e1]; exact hi) (by omega) fun k hk => ?_]
      · rw [Option.map_some, e1]
      · have := h3 (a.length - k) (by omega)
        rw [at_iff] at this
        exact Bool.eq_false_iff.mpr this
    rw [this]; rfl
theorem m_rfind : MtD K M.mRfind (fun x xs H Q => ∃ a b, x = .str a ∧ xs = [.str b] ∧ Q (.int (Txt.rfind a b)) H) := by
  intro F H T fp s xs ds dz Q f o hx h k
  unfold M.mRfind at h
  split at h
  · obtain ⟨rfl, o2⟩ := hx.str1
    cases h
    exact ⟨_, _, rfl, rfl, by rw [lst_rfind]; exact k.here f (.int _)⟩
  · cases h
end
end S

/-! Defs that call themselves: the mirror by a bound on the depth. -/
namespace S
open PySem PySem.Spec PyProof.Rows L2
section
variable {P : Program} {w : World} {K : PySem.W.Frag} {mg : Str → Option Value} {base : Heap}
theorem okB {x qual : Str} {st : Stmt} {f : Addr} {fd : FuncData} {N ps : List Str} {k : Nat} (F : FunD K x qual (defArgs st) (defBody st) (defScope st) [] [] f fd) (S : FnScope N ps (defScope st)) :
    FnOk P w K mg base (L2.CX P w) (k + 1) f fd ps (spM K fun _ _ => .bad) := by
  refine okX F S (fun vs H Q E h => ?_) fun cdv A outer s H vs Q E hr h => ?_
  · obtain ⟨ds, w', F', T, fr, za, rel, h⟩ := h
    exact h.elim
  · obtain ⟨ds, w', F', T, fr, za, rel, h⟩ := h
    exact h.elim
end
section
variable {X : Cx} {W : WX} {K : PySem.W.Frag}
def itKB (K : PySem.W.Frag) (x : Str) (t : List (M.Tx × Int)) : Bool := t.all fun p => match PySem.W.nsIn K (He.ga K x) (sx p.1) with
  | some (some (.int i _)) => i == p.2
  | _ => false
theorem lookup_it {t : List (M.Tx × Int)} {a : M.Tx} {b : Int} (h : t.lookup a = some b) : (a, b) ∈ t := by
  induction t with
  | nil => cases h
  | cons p t ih =>
    obtain ⟨c, d⟩ := p
    rw [List.lookup_cons] at h
    split at h
    · rename_i e
      cases h
      rw [eq_of_beq e]
      exact List.mem_cons_self
    · exact List.mem_cons_of_mem _ (ih h)
theorem se_itK {a b : Expr} {ma : M.ME} {x : Str} {pos : Pos} {t : List (M.Tx × Int)} (D : ∃ es n, KDict X.K X.w (He.ga X.K x) es n) (hB : itKB X.K x t = true) (ha : SE X W a ma) (hb : PE X b (tC (.ref (He.ga X.K x)))) (hs : PlainIx a) :
    SE X W (.Subscript b a pos) (M.eUn (M.pItK t) ma) := by
  obtain ⟨es, n, D⟩ := D
  refine PE.imp (pe_ix ix_kdict hb ha hs) fun σ H Q ⟨ρ, F, T, fr, rel, h⟩ => ?_
  refine qE_bind rel h fun dx ρ1 v H1 F1 T1 e1 z1 r1 h1 => ?_
  obtain ⟨dz, ez, q⟩ := Post.ofO h1
  unfold M.pItK at ez
  split at ez
  · obtain ⟨rfl, o⟩ := z1.str_inv
    rename_i s
    cases q2 : t.lookup s with
    | none => rw [q2] at ez; cases ez
    | some r =>
      rw [q2] at ez
      cases ez
      have h3 := List.all_eq_true.mp hB _ (lookup_it q2)
      dsimp only at h3
      split at h3
      · rename_i i tk e0
        have : i = r := eq_of_beq h3
        subst this
        exact ⟨_, sx s, .int i, rfl, rfl, ⟨es, n, _, D.at_, D.lit, e0, ⟨tk, rfl⟩⟩, q _ H1 F1 T1 e1 (.int _) r1⟩
      · cases h3
  · cases ez
end
end S

/-! What a mirror's run must give: rules to step through it. -/
namespace M
structure En where
  nx : PSt → Prop
  rt : O → W → Prop
  bk : PSt → Prop
  ct : PSt → Prop
  ex : Exc → PSt → Prop
def vE {α : Type} (r : Res α) (Q : α → PSt → Prop) (X : Exc → PSt → Prop) : Prop := match r with
  | .ok a ρ => Q a ρ
  | .exc x ρ => X x ρ
  | .bad => False
def vS (o : Out) (D : En) : Prop := match o with
  | .nx ρ => D.nx ρ
  | .rt o w => D.rt o w
  | .bk ρ => D.bk ρ
  | .ct ρ => D.ct ρ
  | .exc x ρ => D.ex x ρ
  | .bad => False
def vF (r : FRes) (Q : O → W → Prop) (X : Exc → W → Prop) : Prop := match r with
  | .ok o w => Q o w
  | .exc x w => X x w
  | .bad => False
def vD {α : Type} (o : Option α) (Q : α → Prop) : Prop := match o with
  | some z => Q z
  | none => False
def vI (k : Bool) (A B : Prop) : Prop := if k = true then A else B
def vB (d : D) (P : Bool → Prop) : Prop := match d with
  | .bl k => P k
  | _ => False
def vT (d : D) (P : Tx → Prop) : Prop := match d with
  | .str s => P s
  | _ => False
def vN (d : D) (P : Int → Prop) : Prop := match d with
  | .int s => P s
  | _ => False
/-- a slot's value, read -/
def vV (o : Option (Option O)) (i : Nat) (ρ : PSt) (Q : D → PSt → Prop) : Prop := match o with
  | some (some (.fz d)) => Q d ρ
  | some (some o) => Q (frz o) ⟨ρ.env.set i (some (.fz (frz o))), ρ.w⟩
  | _ => False
/-- .. given away -/
def vG (o : Option (Option O)) (i : Nat) (ρ : PSt) (Q : O → PSt → Prop) : Prop := match o with
  | some (some (.fz d)) => Q (.fz d) ρ
  | some (some o) => Q o ⟨ρ.env.set i none, ρ.w⟩
  | _ => False
def vO (o : Option (Option O)) (Q : O → Prop) : Prop := match o with
  | some (some o) => Q o
  | _ => False
def vL (o : Option (Option O)) (Q : List O → Prop) : Prop := match o with
  | some (some (.lst os)) => Q os
  | _ => False
def asF : O → Option D
  | .fz d => some d
  | _ => none
def asL : D → Option (List D)
  | .lst ds => some ds
  | _ => none
abbrev FX : Exc → W → Prop := fun _ _ => False
abbrev PX : Exc → PSt → Prop := fun _ _ => False
section
variable {α β : Type} {Q : α → PSt → Prop} {X : Exc → PSt → Prop} {ρ : PSt} {P : D → PSt → Prop} {D0 : En}
theorem v_wE_bind (r : Res β) (f : β → PSt → Res α) : vE (r.bind f) Q X = vE r (fun b ρ => vE (f b ρ) Q X) X := by cases r <;> rfl
theorem v_wS_out (r : Res β) (f : β → PSt → Out) : vS (r.out f) D0 = vE r (fun b ρ => vS (f b ρ) D0) D0.ex := by cases r <;> rfl
theorem v_wE_ofO (o : Option α) : vE (ofO o ρ) Q X = vD o (fun z => Q z ρ) := by cases o <;> rfl
theorem wE_ok (a : α) : vE (.ok a ρ) Q X = Q a ρ := rfl
theorem v_wE_asB (d : D) {Q : Bool → PSt → Prop} : vE (asB d ρ) Q X = vB d (fun k => Q k ρ) := by cases d <;> rfl
theorem v_wE_ite (k : Bool) (a b : Res α) : vE (if k = true then a else b) Q X = vI k (vE a Q X) (vE b Q X) := by cases k <;> rfl
theorem v_wS_ite (k : Bool) (a b : Out) : vS (if k = true then a else b) D0 = vI k (vS a D0) (vS b D0) := by cases k <;> rfl
theorem v_wD_some (z : α) {Q : α → Prop} : vD (some z) Q = Q z := rfl
theorem v_wB_bl (k : Bool) {Q : Bool → Prop} : vB (.bl k) Q = Q k := rfl
theorem v_wI_t (A B : Prop) : vI true A B = A := rfl
theorem v_wI_f (A B : Prop) : vI false A B = B := rfl
theorem v_wI_not (k : Bool) (A B : Prop) : vI (!k) A B = vI k B A := by cases k <;> rfl
/-! expressions -/
theorem v_x_C (d : D) : vE (eC d ρ) P X = P d ρ := rfl
theorem v_x_V (i : Nat) (env : List (Option O)) (w : W) : vE (eV i ⟨env, w⟩) P X = vV env[i]? i ⟨env, w⟩ P := by
  show vE (match env[i]? with | some (some (.fz d)) => Res.ok d ⟨env, w⟩ | some (some o) => .ok (frz o) ⟨env.set i (some (.fz (frz o))), w⟩ | _ => .bad) P X = _
  rcases env[i]? with _ | _ | o
  · rfl
  · rfl
  · cases o <;> rfl
theorem v_wV_fz (d : D) (i : Nat) (ρ : PSt) : vV (some (some (.fz d))) i ρ P = P d ρ := rfl
theorem v_wV_lst (os : List O) (i : Nat) (env : List (Option O)) (w : W) : vV (some (some (.lst os))) i ⟨env, w⟩ P = P (.lst (frzs os)) ⟨env.set i (some (.fz (.lst (frzs os)))), w⟩ := rfl
theorem v_wV_tup (os : List O) (i : Nat) (env : List (Option O)) (w : W) : vV (some (some (.tup os))) i ⟨env, w⟩ P = P (.tup (frzs os)) ⟨env.set i (some (.fz (.tup (frzs os)))), w⟩ := rfl
theorem v_wV_dct (ks : List D) (os : List O) (i : Nat) (env : List (Option O)) (w : W) : vV (some (some (.dct ks os))) i ⟨env, w⟩ P = P (.dct ks (frzs os)) ⟨env.set i (some (.fz (.dct ks (frzs os)))), w⟩ := rfl
theorem v_wG_fz (d : D) (i : Nat) (ρ : PSt) {P : O → PSt → Prop} : vG (some (some (.fz d))) i ρ P = P (.fz d) ρ := rfl
theorem v_wG_lst (os : List O) (i : Nat) (env : List (Option O)) (w : W) {P : O → PSt → Prop} : vG (some (some (.lst os))) i ⟨env, w⟩ P = P (.lst os) ⟨env.set i none, w⟩ := rfl
theorem v_wG_tup (os : List O) (i : Nat) (env : List (Option O)) (w : W) {P : O → PSt → Prop} : vG (some (some (.tup os))) i ⟨env, w⟩ P = P (.tup os) ⟨env.set i none, w⟩ := rfl
theorem v_wG_dct (ks : List D) (os : List O) (i : Nat) (env : List (Option O)) (w : W) {P : O → PSt → Prop} : vG (some (some (.dct ks os))) i ⟨env, w⟩ P = P (.dct ks os) ⟨env.set i none, w⟩ := rfl
theorem v_wO_some (o : O) {P : O → Prop} : vO (some (some o)) P = P o := rfl
theorem v_wL_lst (os : List O) {P : List O → Prop} : vL (some (some (.lst os))) P = P os := rfl
theorem v_x_Op (f : D → D → Option D) (a b : ME) : vE (eOp f a b ρ) P X = vE (a ρ) (fun x ρ1 => vE (b ρ1) (fun y ρ2 => vD (f x y) (fun z => P z ρ2)) X) X := by simp only [eOp, v_wE_bind, v_wE_ofO]
theorem v_x_Un (f : D → Option D) (a : ME) : vE (eUn f a ρ) P X = vE (a ρ) (fun x ρ1 => vD (f x) (fun z => P z ρ1)) X := by simp only [eUn, v_wE_bind, v_wE_ofO]
theorem v_x_And (a b : ME) : vE (eAnd a b ρ) P X = vE (a ρ) (fun x ρ1 => vB x fun k => vI k (vE (b ρ1) P X) (P (.bl false) ρ1)) X := by simp only [eAnd, v_wE_bind, v_wE_asB, v_wE_ite, wE_ok]
theorem v_x_Or (a b : ME) : vE (eOr a b ρ) P X = vE (a ρ) (fun x ρ1 => vB x fun k => vI k (P (.bl true) ρ1) (vE (b ρ1) P X)) X := by simp only [eOr, v_wE_bind, v_wE_asB, v_wE_ite, wE_ok]
theorem v_x_Not (a : ME) : vE (eNot a ρ) P X = vE (a ρ) (fun x ρ1 => vB x fun k => P (.bl (!k)) ρ1) X := by simp only [eNot, v_wE_bind, v_wE_asB, wE_ok]
theorem v_x_If (t : MT) (a b : ME) : vE (eIf t a b ρ) P X = vE (t ρ) (fun k ρ1 => vI k (vE (a ρ1) P X) (vE (b ρ1) P X)) X := by simp only [eIf, v_wE_bind, v_wE_ite]
theorem v_x_Chain (f g : D → D → Option D) (a b c : ME) : vE (eChain f g a b c ρ) P X = vE (a ρ) (fun x ρ1 => vE (b ρ1) (fun y ρ2 => vD (f x y) fun r => vB r fun k => vI k (vE (c ρ2) (fun z ρ3 => vD (g y z) fun v => P v ρ3) X) (P (.bl false) ρ2)) X) X := by
  simp only [eChain, v_wE_bind, v_wE_ofO, v_wE_asB, v_wE_ite, wE_ok]
theorem v_x_Nil {P : List D → PSt → Prop} : vE (aNil ρ) P X = P [] ρ := rfl
theorem v_x_Cons (a : ME) (r : MA) {P : List D → PSt → Prop} : vE (aCons a r ρ) P X = vE (a ρ) (fun x ρ1 => vE (r ρ1) (fun xs ρ2 => P (x :: xs) ρ2) X) X := by simp only [aCons, v_wE_bind, wE_ok]
def vLen (n : Nat) (A : Prop) : Prop := n ≤ 16777216 ∧ A
theorem v_wLen_of {n : Nat} (h : n ≤ 16777216) (A : Prop) : vLen n A = A := by unfold vLen; simp [h]
theorem v_x_Tup (as : MA) : vE (eTup as ρ) P X = vE (as ρ) (fun xs ρ1 => vLen xs.length (P (.tup xs) ρ1)) X := by
  simp only [eTup, v_wE_bind]
  congr
  funext xs ρ1
  unfold vLen
  by_cases h : xs.length ≤ 16777216
  · rw [if_pos h]; simp [vE, h]
  · rw [if_neg h]; simp [vE, h]
theorem v_x_Lst (as : MA) : vE (eLst as ρ) P X = vE (as ρ) (fun xs ρ1 => vLen xs.length (P (.lst xs) ρ1)) X := by
  simp only [eLst, v_wE_bind]
  congr
  funext xs ρ1
  unfold vLen
  by_cases h : xs.length ≤ 16777216
  · rw [if_pos h]; simp [vE, h]
  · rw [if_neg h]; simp [vE, h]
theorem v_x_Mt (f : Tx → List D → Option D) (a : ME) (as : MA) : vE (eMt f a as ρ) P X = vE (a ρ) (fun x ρ1 => vT x fun s => vE (as ρ1) (fun ds ρ2 => vD (f s ds) fun z => P z ρ2) X) X := by
  simp only [eMt, v_wE_bind]
  congr
  funext x ρ1
  cases x <;> simp only [v_wE_bind, v_wE_ofO] <;> rfl
theorem v_x_MtL (f : List D → List D → Option D) (a : ME) (as : MA) : vE (eMtL f a as ρ) P X = vE (a ρ) (fun x ρ1 => vD (asL x) fun s => vE (as ρ1) (fun ds ρ2 => vD (f s ds) fun z => P z ρ2) X) X := by
  simp only [eMtL, v_wE_bind]
  congr
  funext x ρ1
  cases x <;> simp only [v_wE_bind, v_wE_ofO] <;> rfl
theorem v_wT_str (s : Tx) {P : Tx → Prop} : vT (.str s) P = P s := rfl
theorem v_wN_int (s : Int) {P : Int → Prop} : vN (.int s) P = P s := rfl
theorem v_x_No {P : Option Int → PSt → Prop} : vE (pNo ρ) P X = P none ρ := rfl
theorem v_x_So (a : ME) {P : Option Int → PSt → Prop} : vE (pSo a ρ) P X = vE (a ρ) (fun x ρ1 => vN x fun i => P (some i) ρ1) X := by
  simp only [pSo, v_wE_bind]
  congr
  funext x ρ1
  cases x <;> rfl
theorem v_x_Sl (a : ME) (lo hi : MP) : vE (eSl a lo hi ρ) P X = vE (a ρ) (fun x ρ1 => vE (lo ρ1) (fun l ρ2 => vE (hi ρ2) (fun h ρ3 => vD (pSl x l h) fun z => P z ρ3) X) X) X := by simp only [eSl, v_wE_bind, v_wE_ofO]
theorem v_x_O (a : MO) : vE (eO a ρ) P X = vE (a ρ) (fun o ρ1 => P (frz o) ρ1) X := by simp only [eO, v_wE_bind, wE_ok]
variable {R : O → PSt → Prop}
theorem v_x_oE (a : ME) : vE (oE a ρ) R X = vE (a ρ) (fun d ρ1 => R (.fz d) ρ1) X := by simp only [oE, v_wE_bind, wE_ok]
theorem v_x_oV (i : Nat) (env : List (Option O)) (w : W) : vE (oV i ⟨env, w⟩) R X = vG env[i]? i ⟨env, w⟩ R := by
  show vE (match env[i]? with | some (some (.fz d)) => Res.ok (O.fz d) ⟨env, w⟩ | some (some o) => .ok o ⟨env.set i none, w⟩ | _ => .bad) R X = _
  rcases env[i]? with _ | _ | o
  · rfl
  · rfl
  · cases o <;> rfl
theorem v_x_Call (f : MF) (as : MA) : vE (oCall f as ρ) R X = vE (as ρ) (fun ds ρ1 => vF (f ds ρ1.w) (fun o w => R o ⟨ρ1.env, w⟩) fun x w => X x ⟨ρ1.env, w⟩) X := by
  simp only [oCall, v_wE_bind]
  congr
  funext ds ρ1
  cases f ds ρ1.w <;> rfl
theorem v_x_oNew (a : ME) : vE (oNew a ρ) R X = vE (a ρ) (fun d ρ1 => vD (asL d) fun ds => R (.lst (ds.map .fz)) ρ1) X := by
  simp only [oNew, v_wE_bind]
  congr
  funext d ρ1
  cases d <;> rfl
theorem v_x_Dct1 (k : D) (a : ME) : vE (eDct1 k a ρ) P X = vE (a ρ) (fun d ρ1 => P (.dct [k] [d]) ρ1) X := by simp only [eDct1, v_wE_bind, wE_ok]
theorem v_x_Dct0 : vE (eDct0 ρ) P X = P (.dct [] []) ρ := rfl
theorem v_x_oDct0 : vE (oDct0 ρ) R X = R (.dct [] []) ρ := rfl
theorem v_x_PopAt (i : Nat) (a : ME) (env : List (Option O)) (w : W) : vE (ePopAt i a ⟨env, w⟩) P X = vL env[i]? fun _ => vE (a ⟨env, w⟩) (fun d ρ1 => vN d fun z => vL ρ1.env[i]? fun os => vLen os.length (vD (ixn os.length z) fun j => vD os[j]? fun o => vD (asF o) fun y => P y ⟨ρ1.env.set i (some (.lst (os.eraseIdx j))), ρ1.w⟩)) X := by
  show vE (match env[i]? with
  | some (some (.lst _)) => (a ⟨env, w⟩).bind fun d ρ1 => match ρ1.env[i]?, d with
    | some (some (.lst os)), .int z => (match (if os.length ≤ LINE then ixn os.length z else none) with
      | some j => (match os[j]? with
        | some (.fz y) => .ok y ⟨ρ1.env.set i (some (.lst (os.eraseIdx j))), ρ1.w⟩
        | _ => .bad)
      | none => .bad)
    | _, _ => .bad
  | _ => .bad) P X = _
  rcases env[i]? with _ | _ | o
  · rfl
  · rfl
  cases o with
  | lst os0 =>
    simp only [v_wE_bind, vL]
    congr
    funext d ρ1
    cases d with
    | int z =>
      simp only [vN]
      rcases ρ1.env[i]? with _ | _ | o
      · rfl
      · rfl
      cases o with
      | lst os =>
        simp only [vLen]
        by_cases hl : os.length ≤ 16777216
        · simp only [hl, if_pos, true_and]
          cases ixn os.length z with
          | none => rfl
          | some j =>
            simp only [vD]
            rcases os[j]? with _ | o
            · rfl
            · cases o <;> rfl
        · simp only [hl, if_neg, false_and]; simp [vE]
      | _ => rfl
    | _ =>
      rcases ρ1.env[i]? with _ | _ | o
      · rfl
      · rfl
      cases o <;> rfl
  | _ => rfl
theorem v_x_IxV (i : Nat) (b : ME) (env : List (Option O)) (w : W) : vE (eIxV i b ⟨env, w⟩) P X = vO env[i]? fun _ => vE (b ⟨env, w⟩) (fun k ρ1 => vO ρ1.env[i]? fun o => vD (ixO o k) fun z => P z ρ1) X := by
  show vE (match env[i]? with
  | some (some _) => (b ⟨env, w⟩).bind fun k ρ1 => match ρ1.env[i]? with
    | some (some o) => ofO (ixO o k) ρ1
    | _ => .bad
  | _ => .bad) P X = _
  rcases env[i]? with _ | _ | o
  · rfl
  · rfl
  simp only [v_wE_bind, vO]
  congr
  funext k ρ1
  rcases ρ1.env[i]? with _ | _ | o
  · rfl
  · rfl
  exact v_wE_ofO _
theorem v_x_InV (i : Nat) (a : ME) : vE (eInV i a ρ) P X = vE (a ρ) (fun x ρ1 => vO ρ1.env[i]? fun o => vD (inO x o) fun z => P z ρ1) X := by
  simp only [eInV, v_wE_bind]
  congr
  funext x ρ1
  rcases ρ1.env[i]? with _ | _ | o
  · rfl
  · rfl
  exact v_wE_ofO _
theorem v_x_NotInV (i : Nat) (a : ME) : vE (eNotInV i a ρ) P X = vE (a ρ) (fun x ρ1 => vO ρ1.env[i]? fun o => vD (notO (inO x o)) fun z => P z ρ1) X := by
  simp only [eNotInV, v_wE_bind]
  congr
  funext x ρ1
  rcases ρ1.env[i]? with _ | _ | o
  · rfl
  · rfl
  exact v_wE_ofO _
theorem v_x_LenV (i : Nat) : vE (eLenV i ρ) P X = vO ρ.env[i]? fun o => vD (lenO o) fun z => P z ρ := by
  unfold eLenV
  rcases ρ.env[i]? with _ | _ | o
  · rfl
  · rfl
  exact v_wE_ofO _
theorem v_x_IxW (a b : ME) : vE (eIxW a b ρ) P X = vE (a ρ) (fun x ρ1 => vE (b ρ1) (fun y ρ2 => vD (ixW ρ2.w x y) fun z => P z ρ2) X) X := by simp only [eIxW, v_wE_bind, v_wE_ofO]
theorem v_x_Obj (as : MA) : vE (oObj as ρ) R X = vE (as ρ) (fun xs ρ1 => vLen xs.length (R (.fz (.obj ρ1.w.length)) ⟨ρ1.env, ρ1.w ++ [.lst (xs.map .fz)]⟩)) X := by
  simp only [oObj, v_wE_bind]
  congr
  funext xs ρ1
  unfold vLen
  by_cases h : xs.length ≤ 16777216
  · rw [if_pos h]; simp [vE, h]
  · rw [if_neg h]; simp [vE, h]
theorem v_x_Fld (cs : List String) (a : ME) (f : String) : vE (eFld cs a f ρ) P X = vE (a ρ) (fun x ρ1 => vD (fldO cs f ρ1.w x) fun z => P z ρ1) X := by simp only [eFld, v_wE_bind, v_wE_ofO]
theorem v_x_Make (C : String) (init : MF) (as : MA) : vE (oMake C init as ρ) R X = vE (as ρ) (fun ds ρ1 => vF (init (.obj ρ1.w.length :: ds) (ρ1.w ++ [.ins C []])) (fun o w => o = .fz .non ∧ R (.fz (.obj ρ1.w.length)) ⟨ρ1.env, w⟩) fun x w => X x ⟨ρ1.env, w⟩) X := by
  simp only [oMake, v_wE_bind]
  congr
  funext ds ρ1
  cases init (.obj ρ1.w.length :: ds) (ρ1.w ++ [.ins C []]) with
  | ok o w =>
    cases o with
    | fz d => cases d <;> simp [vE, vF]
    | _ => simp [vE, vF]
  | _ => rfl
theorem v_x_Meth (C m : String) (f : MF) (a : ME) (as : MA) : vE (oMeth C m f a as ρ) R X = vE (a ρ) (fun x ρ1 => isIns C m ρ1.w x = true ∧ vE (as ρ1) (fun ds ρ2 => vF (f (x :: ds) ρ2.w) (fun o w => R o ⟨ρ2.env, w⟩) fun x w => X x ⟨ρ2.env, w⟩) X) X := by
  simp only [oMeth, v_wE_bind]
  congr
  funext x ρ1
  by_cases h : isIns C m ρ1.w x = true
  · rw [if_pos h]
    simp only [h, true_and, v_wE_bind]
    congr
    funext ds ρ2
    cases f (x :: ds) ρ2.w <;> rfl
  · rw [if_neg h]
    simp [vE, h]
theorem v_x_Bad : vE (eBad ρ) P X = False := rfl
theorem v_x_IsX (t : ET) (c : String) (x : Exc) : vE (eIsX t c x ρ) P X = vD (sub t x.cls c) fun b => P (.bl b) ρ := by
  unfold eIsX
  cases sub t x.cls c <;> rfl
/-! tests -/
variable {B : Bool → PSt → Prop}
theorem v_x_tE (a : ME) : vE (tE a ρ) B X = vE (a ρ) (fun d ρ1 => vB d fun k => B k ρ1) X := by simp only [tE, v_wE_bind, v_wE_asB]
theorem v_x_tNot (a : MT) : vE (tNot a ρ) B X = vE (a ρ) (fun k ρ1 => B (!k) ρ1) X := by simp only [tNot, v_wE_bind, wE_ok]
theorem v_x_tAnd (a b : MT) : vE (tAnd a b ρ) B X = vE (a ρ) (fun k ρ1 => vI k (vE (b ρ1) B X) (B false ρ1)) X := by simp only [tAnd, v_wE_bind, v_wE_ite, wE_ok]
theorem v_x_tOr (a b : MT) : vE (tOr a b ρ) B X = vE (a ρ) (fun k ρ1 => vI k (B true ρ1) (vE (b ρ1) B X)) X := by simp only [tOr, v_wE_bind, v_wE_ite, wE_ok]
theorem v_x_tT : vE (tT ρ) B X = B true ρ := rfl
/-! what is walked -/
variable {Y : List D → PSt → Prop}
theorem v_x_iSeq (a : ME) : vE (iSeq a ρ) Y X = vE (a ρ) (fun d ρ1 => vD (seqOf d) fun z => Y z ρ1) X := by simp only [iSeq, v_wE_bind, v_wE_ofO]
theorem v_x_iRange1 (a : ME) : vE (iRange1 a ρ) Y X = vE (a ρ) (fun d ρ1 => vD (pRange1 d) fun z => Y z ρ1) X := by simp only [iRange1, v_wE_bind, v_wE_ofO]
theorem v_x_iRange2 (a b : ME) : vE (iRange2 a b ρ) Y X = vE (a ρ) (fun d ρ1 => vE (b ρ1) (fun e ρ2 => vD (pRange2 d e) fun z => Y z ρ2) X) X := by simp only [iRange2, v_wE_bind, v_wE_ofO]
theorem v_x_iZip (a b : ME) : vE (iZip a b ρ) Y X = vE (a ρ) (fun d ρ1 => vE (b ρ1) (fun e ρ2 => vD (zipB d e) fun z => Y z ρ2) X) X := by simp only [iZip, v_wE_bind, v_wE_ofO]
theorem v_x_iEnum (a : ME) : vE (iEnum a ρ) Y X = vE (a ρ) (fun d ρ1 => vD (enB d) fun z => Y z ρ1) X := by simp only [iEnum, v_wE_bind, v_wE_ofO]
theorem v_x_iRev (a : ME) : vE (iRev a ρ) Y X = vE (a ρ) (fun d ρ1 => vD (revB d) fun z => Y z ρ1) X := by simp only [iRev, v_wE_bind, v_wE_ofO]
theorem v_x_Lc (own : List Nat) (it : MI) (g : MG) (t : MT) (e : ME) : vE (eLc own it g t e ρ) P X = vE (it ρ) (fun xs ρ1 => vE (lcL own g t e xs [] ρ1) (fun ys ρ2 => P (.lst ys) ⟨back ρ1.env own (wipeE own ρ2.env), ρ2.w⟩) X) X := by simp only [eLc, v_wE_bind, wE_ok]
theorem v_x_oLc (own : List Nat) (it : MI) (g : MG) (t : MT) (e : ME) : vE (oLc own it g t e ρ) R X = vE (it ρ) (fun xs ρ1 => vE (lcL own g t e xs [] ρ1) (fun ys ρ2 => R (.lst (ys.map .fz)) ⟨back ρ1.env own (wipeE own ρ2.env), ρ2.w⟩) X) X := by simp only [oLc, v_wE_bind, wE_ok]
/-! statements -/
variable {N : PSt → Prop} {rt : O → W → Prop} {bk ct : PSt → Prop} {ex : Exc → PSt → Prop}
theorem v_s_Pass : vS (sPass ρ) ⟨N, rt, bk, ct, ex⟩ = N ρ := rfl
theorem v_s_Break : vS (sBreak ρ) ⟨N, rt, bk, ct, ex⟩ = bk ρ := rfl
theorem v_s_Cont : vS (sCont ρ) ⟨N, rt, bk, ct, ex⟩ = ct ρ := rfl
theorem v_s_Bad : vS (sBad ρ) ⟨N, rt, bk, ct, ex⟩ = False := rfl
theorem v_s_Expr (a : ME) : vS (sExpr a ρ) ⟨N, rt, bk, ct, ex⟩ = vE (a ρ) (fun _ ρ1 => N ρ1) ex := by simp only [sExpr, v_wS_out]; rfl
theorem v_s_Ret (a : MO) : vS (sRet a ρ) ⟨N, rt, bk, ct, ex⟩ = vE (a ρ) (fun o ρ1 => rt o ρ1.w) ex := by simp only [sRet, v_wS_out]; rfl
theorem v_s_RetN : vS (sRetN ρ) ⟨N, rt, bk, ct, ex⟩ = rt (.fz .non) ρ.w := rfl
theorem v_s_Seq (a b : MS) : vS (sSeq a b ρ) ⟨N, rt, bk, ct, ex⟩ = vS (a ρ) ⟨fun ρ1 => vS (b ρ1) ⟨N, rt, bk, ct, ex⟩, rt, bk, ct, ex⟩ := by
  unfold sSeq
  cases a ρ <;> rfl
theorem v_s_If (t : MT) (a b : MS) : vS (sIf t a b ρ) ⟨N, rt, bk, ct, ex⟩ = vE (t ρ) (fun k ρ1 => vI k (vS (a ρ1) ⟨N, rt, bk, ct, ex⟩) (vS (b ρ1) ⟨N, rt, bk, ct, ex⟩)) ex := by simp only [sIf, v_wS_out, v_wS_ite]
def vPut (i n : Nat) (A : Prop) : Prop := i < n ∧ A
theorem v_wPut_of {i n : Nat} (h : i < n) (A : Prop) : vPut i n A = A := by unfold vPut; simp [h]
theorem v_s_Set (i : Nat) (a : MO) : vS (sSet i a ρ) ⟨N, rt, bk, ct, ex⟩ = vE (a ρ) (fun o ρ1 => vPut i ρ1.env.length (N ⟨ρ1.env.set i (some o), ρ1.w⟩)) ex := by
  simp only [sSet, v_wS_out]
  congr
  funext o ρ1
  unfold setE vPut
  by_cases h : i < ρ1.env.length
  · rw [if_pos h]; simp [vS, h]
  · rw [if_neg h]; simp [vS, h]
theorem v_s_Asg (g : MG) (a : ME) : vS (sAsg g a ρ) ⟨N, rt, bk, ct, ex⟩ = vE (a ρ) (fun d ρ1 => vD (g d ρ1) N) ex := by
  simp only [sAsg, v_wS_out]
  congr
  funext o ρ1
  cases g o ρ1 <;> rfl
theorem v_s_Par (i j : Nat) (a b : ME) : vS (sPar i j a b ρ) ⟨N, rt, bk, ct, ex⟩ = vE (a ρ) (fun x ρ1 => vE (b ρ1) (fun y ρ2 => (i < ρ2.env.length ∧ j < ρ2.env.length ∧ i ≠ j) ∧ N ⟨(ρ2.env.set i (some (.fz x))).set j (some (.fz y)), ρ2.w⟩) ex) ex := by
  simp only [sPar, v_wS_out]
  congr
  funext x ρ1
  congr
  funext y ρ2
  split <;> simp_all [vS]
theorem v_s_Aug (f : D → D → Option D) (i : Nat) (a : ME) : vS (sAug f i a ρ) ⟨N, rt, bk, ct, ex⟩ = vO ρ.env[i]? fun o => vD (asF o) fun d => vE (a ρ) (fun y ρ1 => vD (f d y) fun z => vPut i ρ1.env.length (N ⟨ρ1.env.set i (some (.fz z)), ρ1.w⟩)) ex := by
  unfold sAug
  rcases ρ.env[i]? with _ | _ | o
  · rfl
  · rfl
  cases o with
  | fz d =>
    simp only [v_wS_out, vD, vO, asF]
    congr
    funext y ρ1
    cases f d y with
    | none => rfl
    | some z =>
      dsimp only
      unfold setE vPut
      by_cases h : i < ρ1.env.length
      · rw [if_pos h]; simp [vS, h]
      · rw [if_neg h]; simp [vS, h]
  | _ => rfl
theorem v_s_Raise (x : String) : vS (sRaise x ρ) ⟨N, rt, bk, ct, ex⟩ = ex ⟨x, []⟩ ρ := rfl
theorem v_s_RaiseF (x f : String) (a : ME) : vS (sRaiseF x f a ρ) ⟨N, rt, bk, ct, ex⟩ = vE (a ρ) (fun d ρ1 => ex ⟨x, [(f, d)]⟩ ρ1) ex := by simp only [sRaiseF, v_wS_out]; rfl
theorem v_s_App (i : Nat) (a : MO) : vS (sApp i a ρ) ⟨N, rt, bk, ct, ex⟩ = vL ρ.env[i]? fun _ => vE (a ρ) (fun o ρ1 => vL ρ1.env[i]? fun os => vPut os.length 16777216 (N ⟨ρ1.env.set i (some (.lst (os ++ [o]))), ρ1.w⟩)) ex := by
  unfold sApp
  rcases ρ.env[i]? with _ | _ | o
  · rfl
  · rfl
  cases o with
  | lst os0 =>
    simp only [v_wS_out, vL]
    congr
    funext o ρ1
    rcases ρ1.env[i]? with _ | _ | o2
    · rfl
    · rfl
    cases o2 with
    | lst os =>
      dsimp only
      unfold vPut
      by_cases h : os.length < 16777216
      · rw [if_pos h]; simp [vS, h]
      · rw [if_neg h]; simp [vS, h]
    | _ => rfl
  | _ => rfl
theorem v_s_StoL (i : Nat) (k a : ME) : vS (sStoL i k a ρ) ⟨N, rt, bk, ct, ex⟩ = vE (a ρ) (fun d ρ1 => vO ρ1.env[i]? fun _ => vE (k ρ1) (fun y ρ2 => vL ρ2.env[i]? fun os => vN y fun z => vD (ixn os.length z) fun j => N ⟨ρ2.env.set i (some (.lst (os.set j (.fz d)))), ρ2.w⟩) ex) ex := by
  simp only [sStoL, v_wS_out]
  congr
  funext d ρ1
  rcases ρ1.env[i]? with _ | _ | o
  · rfl
  · rfl
  simp only [v_wS_out, vO]
  congr
  funext y ρ2
  rcases ρ2.env[i]? with _ | _ | o2
  · rfl
  · rfl
  cases o2 with
  | lst os =>
    cases y with
    | int z => simp only [vL, vN]; cases ixn os.length z <;> rfl
    | _ => rfl
  | _ => rfl
theorem v_s_StoW (o k a : ME) : vS (sStoW o k a ρ) ⟨N, rt, bk, ct, ex⟩ = vE (a ρ) (fun d ρ1 => vE (o ρ1) (fun x ρ2 => vE (k ρ2) (fun y ρ3 => vD (stoW ρ3.w x y d) fun w => N ⟨ρ3.env, w⟩) ex) ex) ex := by
  simp only [sStoW, v_wS_out]
  congr
  funext d ρ1
  congr
  funext x ρ2
  congr
  funext y ρ3
  cases stoW ρ3.w x y d <;> rfl
theorem v_s_Fld (cs : List String) (a : ME) (f : String) (v : MO) : vS (sFld cs a f v ρ) ⟨N, rt, bk, ct, ex⟩ = vE (v ρ) (fun o ρ1 => vE (a ρ1) (fun x ρ2 => vD (stF cs f o ρ2.w x) fun w => N ⟨ρ2.env, w⟩) ex) ex := by
  simp only [sFld, v_wS_out]
  congr
  funext d ρ1
  congr
  funext x ρ2
  cases stF cs f d ρ2.w x <;> rfl
theorem v_s_For (it : MI) (g : MG) (b : MS) : vS (sFor it g b ρ) ⟨N, rt, bk, ct, ex⟩ = vE (it ρ) (fun ds ρ1 => vS (forL g b ds ρ1) ⟨N, rt, bk, ct, ex⟩) ex := by simp only [sFor, v_wS_out]
theorem v_s_While (n : Nat) (t : MT) (b : MS) : vS (sWhile n t b ρ) ⟨N, rt, bk, ct, ex⟩ = vS (whileL t b n ρ) ⟨N, rt, bk, ct, ex⟩ := rfl
theorem v_s_Try (b : MS) (hs : List ((String → Option Bool) × (Exc → MS))) : vS (sTry b hs ρ) ⟨N, rt, bk, ct, ex⟩ = vS (b ρ) ⟨N, rt, bk, ct, fun x ρ1 => vS (hds hs x ρ1) ⟨N, rt, bk, ct, ex⟩⟩ := by
  unfold sTry
  cases b ρ <;> rfl
theorem v_s_noX (o : Out) : vS (noXS o) ⟨N, rt, bk, ct, ex⟩ = vS o ⟨N, rt, bk, ct, fun _ _ => False⟩ := by cases o <;> rfl
theorem v_s_off (i : Nat) (o : Out) : vS (offS i o) ⟨N, rt, bk, ct, ex⟩ = vS o ⟨fun ρ => N ⟨ρ.env.set i none, ρ.w⟩, rt, fun ρ => bk ⟨ρ.env.set i none, ρ.w⟩, fun ρ => ct ⟨ρ.env.set i none, ρ.w⟩, ex⟩ := by cases o <;> rfl
theorem v_s_hds0 (x : Exc) : vS (hds [] x ρ) ⟨N, rt, bk, ct, ex⟩ = ex x ρ := rfl
theorem v_s_hds (g : String → Option Bool) (h : Exc → MS) (r : List ((String → Option Bool) × (Exc → MS))) (x : Exc) : vS (hds ((g, h) :: r) x ρ) ⟨N, rt, bk, ct, ex⟩ = vD (g x.cls) fun k => vI k (vS (h x ρ) ⟨N, rt, bk, ct, fun _ _ => False⟩) (vS (hds r x ρ) ⟨N, rt, bk, ct, ex⟩) := by
  show vS (match g x.cls with | some true => noXS (h x ρ) | some false => hds r x ρ | none => .bad) _ = _
  cases g x.cls with
  | none => rfl
  | some k => cases k with
    | false => rfl
    | true => exact v_s_noX _
theorem v_s_TryAs (i : Nat) (b : MS) (g : String → Option Bool) (h : Exc → MS) : vS (sTryAs i b g h ρ) ⟨N, rt, bk, ct, ex⟩ = vS (b ρ) ⟨N, rt, bk, ct, fun x ρ1 => vD (g x.cls) fun k => vI k (vS (h x ⟨ρ1.env.set i none, ρ1.w⟩) ⟨fun ρ => N ⟨ρ.env.set i none, ρ.w⟩, rt, fun ρ => bk ⟨ρ.env.set i none, ρ.w⟩, fun ρ => ct ⟨ρ.env.set i none, ρ.w⟩, fun _ _ => False⟩) (ex x ρ1)⟩ := by
  unfold sTryAs
  cases b ρ with
  | exc x ρ1 =>
    show vS (match g x.cls with | some true => offS i (noXS (h x ⟨ρ1.env.set i none, ρ1.w⟩)) | some false => .exc x ρ1 | none => .bad) _ = vD (g x.cls) _
    cases g x.cls with
    | none => rfl
    | some k => cases k with
      | false => rfl
      | true =>
        show vS (offS i _) _ = vS _ _
        rw [v_s_off, v_s_noX]
  | _ => rfl
theorem v_f_fnM {k n : Nat} (b : MS) (ds : List D) (w : W) {Q : O → W → Prop} {X : Exc → W → Prop} (h : ds.length = k) : vF (fnM k n b ds w) Q X = vS (b ⟨ds.map (fun d => some (.fz d)) ++ List.replicate (n - k) none, w⟩) ⟨fun ρ => Q (.fz .non) ρ.w, Q, fun _ => False, fun _ => False, fun x ρ => X x ρ.w⟩ := by
  unfold fnM
  rw [if_pos h]
  cases b ⟨ds.map (fun d => some (.fz d)) ++ List.replicate (n - k) none, w⟩ <;> rfl
theorem v_of_fnM {k n : Nat} {b : MS} {ds : List D} {w : W} {Q : O → W → Prop} {X : Exc → W → Prop} (q : vS (b ⟨ds.map (fun d => some (.fz d)) ++ List.replicate (n - k) none, w⟩) ⟨fun ρ => Q (.fz .non) ρ.w, Q, fun _ => False, fun _ => False, fun x ρ => X x ρ.w⟩) (h : ds.length = k) : vF (fnM k n b ds w) Q X := by
  rw [v_f_fnM _ _ _ h]; exact q
theorem v_wF_ok (o : O) (w : W) {Q : O → W → Prop} {X : Exc → W → Prop} : vF (.ok o w) Q X = Q o w := rfl
theorem v_wF_exc (x : Exc) (w : W) {Q : O → W → Prop} {X : Exc → W → Prop} : vF (.exc x w) Q X = X x w := rfl
theorem vF.mono {r : FRes} {Q Q' : O → W → Prop} {X : Exc → W → Prop} (h : vF r Q FX) (k : ∀ o w, Q o w → Q' o w) : vF r Q' X := by
  cases r with
  | ok o w => exact k _ _ h
  | exc x w => exact h.elim
  | bad => exact h
theorem vF.monoX {r : FRes} {Q Q' : O → W → Prop} {X X' : Exc → W → Prop} (h : vF r Q X) (k : ∀ o w, Q o w → Q' o w) (k2 : ∀ x w, X x w → X' x w) : vF r Q' X' := by
  cases r with
  | ok o w => exact k _ _ h
  | exc x w => exact k2 _ _ h
  | bad => exact h
theorem vF.exi {r : FRes} {Q : O → W → Prop} (h : vF r Q FX) : ∃ o w, r = .ok o w ∧ Q o w := by
  cases r with
  | ok o w => exact ⟨o, w, rfl, h⟩
  | exc x w => exact h.elim
  | bad => exact h.elim
theorem vF.of {r : FRes} {Q : O → W → Prop} {X : Exc → W → Prop} {o : O} {w : W} (e : r = .ok o w) (h : Q o w) : vF r Q X := by rw [e]; exact h
theorem vS.mono {o : Out} {D1 D2 : En} (h : vS o D1) (h1 : ∀ ρ, D1.nx ρ → D2.nx ρ) (h2 : ∀ o w, D1.rt o w → D2.rt o w) (h3 : ∀ ρ, D1.bk ρ → D2.bk ρ) (h4 : ∀ ρ, D1.ct ρ → D2.ct ρ) (h5 : ∀ x ρ, D1.ex x ρ → D2.ex x ρ) : vS o D2 := by
  cases o with
  | nx ρ => exact h1 _ h
  | rt o w => exact h2 _ _ h
  | bk ρ => exact h3 _ h
  | ct ρ => exact h4 _ h
  | exc x ρ => exact h5 _ _ h
  | bad => exact h
theorem vE.mono {r : Res α} {Q Q' : α → PSt → Prop} {X X' : Exc → PSt → Prop} (h : vE r Q X) (k : ∀ a ρ, Q a ρ → Q' a ρ) (k2 : ∀ x ρ, X x ρ → X' x ρ) : vE r Q' X' := by
  cases r with
  | ok a ρ => exact k _ _ h
  | exc x ρ => exact k2 _ _ h
  | bad => exact h
/-- a statement that ends in one of many ways, what follows taken up once -/
theorem v_seq_cut {a b : MS} (J : PSt → Prop) (h : vS (a ρ) ⟨J, rt, bk, ct, ex⟩) (k : ∀ ρ1, J ρ1 → vS (b ρ1) ⟨N, rt, bk, ct, ex⟩) : vS (sSeq a b ρ) ⟨N, rt, bk, ct, ex⟩ := by
  rw [v_s_Seq]
  exact h.mono k (fun _ _ z => z) (fun _ z => z) (fun _ z => z) (fun _ _ z => z)
theorem v_wI_intro {k : Bool} {A B : Prop} (h1 : k = true → A) (h2 : k = false → B) : vI k A B := by
  cases k with
  | true => exact h1 rfl
  | false => exact h2 rfl
theorem v_wI_dec {p : Prop} [Decidable p] {A B : Prop} (h1 : p → A) (h2 : ¬ p → B) : vI (decide p) A B := by
  by_cases h : p
  · rw [decide_eq_true h]; exact h1 h
  · rw [decide_eq_false h]; exact h2 h
/-! loops -/
theorem v_for_inv {g : MG} {b : MS} {ds : List D} (Inv : List D → PSt → Prop) (h0 : Inv [] ρ)
    (step : ∀ pre d post ρ, ds = pre ++ d :: post → Inv pre ρ → vD (g d ρ) fun ρ1 => vS (b ρ1) ⟨Inv (pre ++ [d]), rt, N, Inv (pre ++ [d]), ex⟩)
    (hend : ∀ ρ, Inv ds ρ → N ρ) : vS (forL g b ds ρ) ⟨N, rt, bk, ct, ex⟩ := by
  have main : ∀ (post pre : List D) (ρ : PSt), ds = pre ++ post → Inv pre ρ → vS (forL g b post ρ) ⟨N, rt, bk, ct, ex⟩ := by
    intro post
    induction post with
    | nil =>
      intro pre ρ e h
      rw [List.append_nil] at e
      exact hend ρ (e ▸ h)
    | cons d post ih =>
      intro pre ρ e h
      have s := step pre d post ρ e h
      unfold forL
      cases eg : g d ρ with
      | none => rw [eg] at s; exact s
      | some ρ1 =>
        rw [eg] at s
        have s : vS (b ρ1) _ := s
        dsimp only
        cases eb : b ρ1 with
        | nx ρ2 => rw [eb] at s; exact ih (pre ++ [d]) ρ2 (by rw [e, List.append_assoc]; rfl) s
        | ct ρ2 => rw [eb] at s; exact ih (pre ++ [d]) ρ2 (by rw [e, List.append_assoc]; rfl) s
        | bk ρ2 => rw [eb] at s; exact s
        | rt o w => rw [eb] at s; exact s
        | exc x ρ2 => rw [eb] at s; exact s
        | bad => rw [eb] at s; exact s
  exact main ds [] ρ rfl h0
theorem v_for_map {γ : Type} {g : MG} {b : MS} {f : γ → D} {cs : List γ} (Inv : List γ → PSt → Prop) (h0 : Inv [] ρ)
    (step : ∀ pre c post ρ, cs = pre ++ c :: post → Inv pre ρ → vD (g (f c) ρ) fun ρ1 => vS (b ρ1) ⟨Inv (pre ++ [c]), rt, N, Inv (pre ++ [c]), ex⟩)
    (hend : ∀ ρ, Inv cs ρ → N ρ) : vS (forL g b (cs.map f) ρ) ⟨N, rt, bk, ct, ex⟩ := by
  have main : ∀ (post pre : List γ) (ρ : PSt), cs = pre ++ post → Inv pre ρ → vS (forL g b (post.map f) ρ) ⟨N, rt, bk, ct, ex⟩ := by
    intro post
    induction post with
    | nil =>
      intro pre ρ e h
      rw [List.append_nil] at e
      exact hend ρ (e ▸ h)
    | cons d post ih =>
      intro pre ρ e h
      have s := step pre d post ρ e h
      rw [List.map_cons]
      unfold forL
      cases eg : g (f d) ρ with
      | none => rw [eg] at s; exact s
      | some ρ1 =>
        rw [eg] at s
        have s : vS (b ρ1) _ := s
        dsimp only
        cases eb : b ρ1 with
        | nx ρ2 => rw [eb] at s; exact ih (pre ++ [d]) ρ2 (by rw [e, List.append_assoc]; rfl) s
        | ct ρ2 => rw [eb] at s; exact ih (pre ++ [d]) ρ2 (by rw [e, List.append_assoc]; rfl) s
        | bk ρ2 => rw [eb] at s; exact s
        | rt o w => rw [eb] at s; exact s
        | exc x ρ2 => rw [eb] at s; exact s
        | bad => rw [eb] at s; exact s
  exact main cs [] ρ rfl h0
theorem v_for_rng {g : MG} {b : MS} {lo : Int} {n : Nat} (Inv : Nat → PSt → Prop) (h0 : Inv 0 ρ)
    (step : ∀ k ρ, k < n → Inv k ρ → vD (g (.int (lo + (k : Nat))) ρ) fun ρ1 => vS (b ρ1) ⟨Inv (k + 1), rt, N, Inv (k + 1), ex⟩)
    (hend : ∀ ρ, Inv n ρ → N ρ) : vS (forL g b (rgI lo n) ρ) ⟨N, rt, bk, ct, ex⟩ := by
  unfold rgI
  refine v_for_map (fun pre ρ => Inv pre.length ρ) h0 (fun pre c post ρ e h => ?_) (fun ρ h => hend ρ (by rwa [List.length_range] at h))
  have hl : pre.length < n := by
    have := congrArg List.length e
    rw [List.length_range, List.length_append, List.length_cons] at this
    omega
  have hc : c = pre.length := by
    have h1 : (List.range n)[pre.length]? = some c := by rw [e, List.getElem?_append_right (Nat.le_refl _), Nat.sub_self]; rfl
    rw [List.getElem?_range hl] at h1
    exact (Option.some.inj h1).symm
  subst hc
  have := step pre.length ρ hl h
  simp only [List.length_append, List.length_cons, List.length_nil, Nat.zero_add]
  exact this
/-- while, by a number that falls -/
theorem v_while_inv {t : MT} {b : MS} {n : Nat} (Inv : Nat → PSt → Prop) (m : Nat) (hm : m < n) (h0 : Inv m ρ)
    (step : ∀ m ρ, Inv m ρ → vE (t ρ) (fun k ρ1 => vI k (vS (b ρ1) ⟨fun ρ2 => ∃ m', m' < m ∧ Inv m' ρ2, rt, N, fun ρ2 => ∃ m', m' < m ∧ Inv m' ρ2, ex⟩) (N ρ1)) ex) :
    vS (whileL t b n ρ) ⟨N, rt, bk, ct, ex⟩ := by
  induction n generalizing m ρ with
  | zero => omega
  | succ n ih =>
    have s := step m ρ h0
    unfold whileL
    cases et : t ρ with
    | bad => rw [et] at s; exact s
    | exc x ρ1 => rw [et] at s; exact s
    | ok k ρ1 =>
      rw [et] at s
      have s : vI k _ _ := s
      show vS (if k = true then _ else _) _
      cases k with
      | false => exact s
      | true =>
        rw [if_pos rfl]
        have s : vS (b ρ1) _ := s
        cases eb : b ρ1 with
        | nx ρ2 =>
          rw [eb] at s
          obtain ⟨m', h1, h2⟩ := s
          exact ih m' (by omega) h2
        | ct ρ2 =>
          rw [eb] at s
          obtain ⟨m', h1, h2⟩ := s
          exact ih m' (by omega) h2
        | bk ρ2 => rw [eb] at s; exact s
        | rt o w => rw [eb] at s; exact s
        | exc x ρ2 => rw [eb] at s; exact s
        | bad => rw [eb] at s; exact s
/-- a comprehension, by what is made so far -/
theorem v_lc_inv {own : List Nat} {g : MG} {t : MT} {e : ME} {γ : Type} {f : γ → D} {cs : List γ} {Q : List D → PSt → Prop} (hl : cs.length ≤ 16777216) (Inv : List γ → List D → PSt → Prop) (h0 : Inv [] [] ρ)
    (step : ∀ pre c post acc ρ, cs = pre ++ c :: post → Inv pre acc ρ → vD (g (f c) ⟨wipeE own ρ.env, ρ.w⟩) fun ρ1 => vE (t ρ1) (fun k ρ2 => vI k (vE (e ρ2) (fun y ρ3 => Inv (pre ++ [c]) (acc ++ [y]) ρ3) PX) (Inv (pre ++ [c]) acc ρ2)) PX)
    (hend : ∀ acc ρ, Inv cs acc ρ → Q acc ρ) : vE (lcL own g t e (cs.map f) [] ρ) Q X := by
  have main : ∀ (post pre : List γ) (acc : List D) (ρ : PSt), cs = pre ++ post → acc.length ≤ pre.length → Inv pre acc ρ → vE (lcL own g t e (post.map f) acc ρ) Q X := by
    intro post
    induction post with
    | nil =>
      intro pre acc ρ e' hacc h
      rw [List.append_nil] at e'
      exact hend acc ρ (e' ▸ h)
    | cons d post ih =>
      intro pre acc ρ e' hacc h
      have s := step pre d post acc ρ e' h
      have hpre : pre.length < 16777216 := by
        have := congrArg List.length e'
        rw [List.length_append, List.length_cons] at this
        omega
      rw [List.map_cons]
      unfold lcL
      cases eg : g (f d) ⟨wipeE own ρ.env, ρ.w⟩ with
      | none => rw [eg] at s; exact s
      | some ρ1 =>
        rw [eg] at s
        have s : vE (t ρ1) _ _ := s
        dsimp only
        cases et : t ρ1 with
        | bad => rw [et] at s; exact s
        | exc x ρ2 => rw [et] at s; exact s.elim
        | ok k ρ2 =>
          rw [et] at s
          have s : vI k _ _ := s
          show vE (if k = true then _ else _) Q X
          have e2 : cs = (pre ++ [d]) ++ post := by rw [e', List.append_assoc]; rfl
          cases k with
          | false =>
            rw [if_neg Bool.false_ne_true]
            exact ih (pre ++ [d]) acc ρ2 e2 (by rw [List.length_append]; omega) s
          | true =>
            rw [if_pos rfl]
            have s : vE (e ρ2) _ _ := s
            cases ee : e ρ2 with
            | bad => rw [ee] at s; exact s
            | exc x ρ3 => rw [ee] at s; exact s.elim
            | ok y ρ3 =>
              rw [ee] at s
              show vE (if acc.length < LINE then _ else _) Q X
              rw [if_pos (show acc.length < 16777216 by omega)]
              exact ih (pre ++ [d]) (acc ++ [y]) ρ3 e2 (by rw [List.length_append, List.length_append, List.length_cons, List.length_cons]; omega) s
  exact main cs [] [] ρ rfl (Nat.le_refl _) h0
end
end M

/-! Rules by value; the step. -/
namespace M
def vC (c : Prop) (A : Prop) : Prop := c ∧ A
def vOb (o : Option Ob) (P : List O → Prop) : Prop := match o with
  | some (.lst os) => P os
  | _ => False
def vIns (o : Option Ob) (P : String → List (String × O) → Prop) : Prop := match o with
  | some (.ins C fs) => P C fs
  | _ => False
theorem v_wIns_of (C : String) (fs : List (String × O)) {P : String → List (String × O) → Prop} : vIns (some (.ins C fs)) P = P C fs := rfl
theorem v_d_stF (cs : List String) (f : String) (o : O) (w : W) (n : Nat) {N : W → Prop} : vD (stF cs f o w (.obj n)) N = vIns w[n]? (fun C fs => vC (C ∈ cs ∧ fs.length < 1000) (N (w.set n (.ins C (putO f o fs))))) := by
  show vD (match w[n]? with | some (.ins C fs) => if C ∈ cs ∧ fs.length < 1000 then some (w.set n (.ins C (putO f o fs))) else none | _ => none) N = _
  rcases w[n]? with _ | ob
  · rfl
  · cases ob with
    | ins C fs =>
      show vD (if _ then _ else _) N = vC _ _
      unfold vC
      by_cases h : C ∈ cs ∧ fs.length < 1000
      · rw [if_pos h]; simp [vD, h]
      · rw [if_neg h]
        show False = (_ ∧ _)
        rw [eq_iff_iff]
        exact ⟨False.elim, fun a => h a.1⟩
    | _ => rfl
theorem v_wOb_lst (os : List O) {P : List O → Prop} : vOb (some (.lst os)) P = P os := rfl
theorem v_wC_of {c : Prop} (h : c) (A : Prop) : vC c A = A := by unfold vC; simp [h]
theorem v_wC_true (A : Prop) : vC True A = A := by unfold vC; simp
theorem v_wD_ite {α : Type} {c : Prop} [Decidable c] {x : α} {Q : α → Prop} : vD (if c then some x else none) Q = vC c (Q x) := by
  unfold vC
  by_cases h : c
  · rw [if_pos h]; simp [vD, h]
  · rw [if_neg h]; simp [vD, h]
theorem v_wD_map {α β : Type} {f : α → β} {o : Option α} {Q : β → Prop} : vD (o.map f) Q = vD o (fun a => Q (f a)) := by cases o <;> rfl
theorem v_wD_bind {α β : Type} {f : α → Option β} {o : Option α} {Q : β → Prop} : vD (o.bind f) Q = vD o (fun a => vD (f a) Q) := by cases o <;> rfl
section
variable {Q : D → Prop} {Y : List D → Prop}
theorem v_d_addI (i j : Int) : vD (pAdd (.int i) (.int j)) Q = Q (.int (i + j)) := rfl
theorem v_d_addS (a b : Tx) : vD (pAdd (.str a) (.str b)) Q = vLen (a.length + b.length) (Q (.str (a ++ b))) := v_wD_ite
theorem v_d_addL (a b : List D) : vD (pAdd (.lst a) (.lst b)) Q = vLen (a.length + b.length) (Q (.lst (a ++ b))) := v_wD_ite
theorem v_d_addT (a b : List D) : vD (pAdd (.tup a) (.tup b)) Q = vLen (a.length + b.length) (Q (.tup (a ++ b))) := v_wD_ite
theorem v_d_addI' (i j : Int) : vD (pAddI (.int i) (.int j)) Q = Q (.int (i + j)) := rfl
theorem v_d_sub (i j : Int) : vD (pSub (.int i) (.int j)) Q = Q (.int (i - j)) := rfl
theorem v_d_mul (i j : Int) : vD (pMul (.int i) (.int j)) Q = vC (((-18446744073709551616 < i ∧ i < 18446744073709551616) ∨ (-18446744073709551616 < j ∧ j < 18446744073709551616)) ∨ ((-2582249878086908589655919172003011874329705792829223512830659356540647622016841194629645353280137831435903171972747493376 < i ∧ i < 2582249878086908589655919172003011874329705792829223512830659356540647622016841194629645353280137831435903171972747493376) ∧ (-2582249878086908589655919172003011874329705792829223512830659356540647622016841194629645353280137831435903171972747493376 < j ∧ j < 2582249878086908589655919172003011874329705792829223512830659356540647622016841194629645353280137831435903171972747493376))) (Q (.int (i * j))) := by
  show vD (if (small64 i = true ∨ small64 j = true) ∨ _ then _ else _) Q = _
  rw [v_wD_ite]
  congr 1
  simp [small64]
theorem v_d_mulS (a : Tx) (j : Int) : vD (pMul (.str a) (.int j)) Q = vC (j < 4611686018427387904 ∧ -4611686018427387904 ≤ j ∧ a.length * j.toNat ≤ 16777216) (Q (.str (List.replicate j.toNat a).flatten)) := v_wD_ite
theorem v_d_mulL (a : List D) (j : Int) : vD (pMul (.lst a) (.int j)) Q = vC (j < 4611686018427387904 ∧ -4611686018427387904 ≤ j ∧ a.length * j.toNat ≤ 16777216) (Q (.lst (List.replicate j.toNat a).flatten)) := v_wD_ite
theorem v_d_fdiv (i j : Int) : vD (pFdiv (.int i) (.int j)) Q = vC (0 < j ∧ j < 1606938044258990275541962092341162602522202993782792835301376) (Q (.int (i / j))) := v_wD_ite
theorem v_d_mod (i j : Int) : vD (pMod (.int i) (.int j)) Q = vC (0 < j) (Q (.int (i % j))) := v_wD_ite
theorem v_d_pow (i j : Int) : vD (pPow (.int i) (.int j)) Q = vC (0 ≤ j ∧ j ≤ 1000 ∧ -18446744073709551616 < i ∧ i < 18446744073709551616) (Q (.int (i ^ j.toNat))) := by
  show vD (if 0 ≤ j ∧ j ≤ 1000 ∧ small64 i = true then _ else _) Q = _
  rw [v_wD_ite]
  congr 1
  simp [small64]
theorem v_d_neg (i : Int) : vD (pNeg (.int i)) Q = Q (.int (-i)) := rfl
theorem v_d_eqI (i j : Int) : vD (pEq (.int i) (.int j)) Q = Q (.bl (decide (i = j))) := by
  show Q (.bl (i == j)) = _
  congr 2
theorem v_d_eqS (i j : Tx) : vD (pEq (.str i) (.str j)) Q = Q (.bl (decide (i = j))) := by
  show Q (.bl (i == j)) = _
  congr 2
  rw [Bool.eq_iff_iff]
  simp
theorem v_d_eqB (i j : Bool) : vD (pEq (.bl i) (.bl j)) Q = Q (.bl (i == j)) := rfl
theorem v_d_eq (x y : D) : vD (pEq x y) Q = vC (dat x = true ∧ dat y = true ∧ dep x ≤ 64 ∧ dep y ≤ 64) (Q (.bl (eqb x y))) := by
  unfold pEq ob eqv
  rw [v_wD_map, v_wD_ite]
theorem v_d_neI (i j : Int) : vD (pNe (.int i) (.int j)) Q = Q (.bl (!decide (i = j))) := by
  show Q (.bl (!(i == j))) = _
  congr 3
theorem v_d_neS (i j : Tx) : vD (pNe (.str i) (.str j)) Q = Q (.bl (!decide (i = j))) := by
  show Q (.bl (!(i == j))) = _
  congr 3
  rw [Bool.eq_iff_iff]
  simp
theorem v_d_ne (x y : D) : vD (pNe x y) Q = vC (dat x = true ∧ dat y = true ∧ dep x ≤ 64 ∧ dep y ≤ 64) (Q (.bl (!eqb x y))) := by
  unfold pNe ob eqv
  rw [v_wD_map, v_wD_map, v_wD_ite]
theorem v_d_isN (x : D) : vD (pIs x .non) Q = Q (.bl (isNon x)) := by cases x <;> rfl
theorem v_d_isB (x y : Bool) : vD (pIs (.bl x) (.bl y)) Q = Q (.bl (x == y)) := rfl
theorem v_d_isNotN (x : D) : vD (pIsNot x .non) Q = Q (.bl (!isNon x)) := by cases x <;> rfl
theorem v_d_isNotB (x y : Bool) : vD (pIsNot (.bl x) (.bl y)) Q = Q (.bl (!(x == y))) := rfl
theorem v_d_lt (i j : Int) : vD (pLt (.int i) (.int j)) Q = Q (.bl (decide (i < j))) := rfl
theorem v_d_le (i j : Int) : vD (pLe (.int i) (.int j)) Q = Q (.bl (decide (i ≤ j))) := rfl
theorem v_d_gt (i j : Int) : vD (pGt (.int i) (.int j)) Q = Q (.bl (decide (j < i))) := rfl
theorem v_d_ge (i j : Int) : vD (pGe (.int i) (.int j)) Q = Q (.bl (decide (j ≤ i))) := rfl
theorem v_d_ltS (i j : Tx) : vD (pLt (.str i) (.str j)) Q = Q (.bl (decide (i < j))) := rfl
theorem v_d_leS (i j : Tx) : vD (pLe (.str i) (.str j)) Q = Q (.bl (!decide (j < i))) := rfl
theorem v_d_gtS (i j : Tx) : vD (pGt (.str i) (.str j)) Q = Q (.bl (decide (j < i))) := rfl
theorem v_d_geS (i j : Tx) : vD (pGe (.str i) (.str j)) Q = Q (.bl (!decide (i < j))) := rfl
theorem v_d_inS (c : Nat) (s : Tx) : vD (pIn (.str [c]) (.str s)) Q = Q (.bl (decide (c ∈ s))) := rfl
theorem v_d_ninS (c : Nat) (s : Tx) : vD (pNotIn (.str [c]) (.str s)) Q = Q (.bl (!decide (c ∈ s))) := rfl
theorem sca_ints (ns : List Int) : (ns.map D.int).all sca = true := by induction ns <;> simp_all [sca]
theorem any_ints (i : Int) (ns : List Int) : ((ns.map D.int).any fun d => eqb d (.int i)) = decide (i ∈ ns) := by
  induction ns with
  | nil => rfl
  | cons n ns ih =>
    simp only [List.map_cons, List.any_cons, ih]
    rw [Bool.eq_iff_iff]
    simp [eqb]
    exact ⟨fun h => h.elim (fun e => .inl e.symm) .inr, fun h => h.elim (fun e => .inl e.symm) .inr⟩
theorem v_d_inIT (i : Int) (ns : List Int) : vD (pIn (.int i) (.tup (ns.map .int))) Q = Q (.bl (decide (i ∈ ns))) := by
  show vD (if sca (.int i) = true ∧ (ns.map D.int).all sca = true then some (D.bl ((ns.map D.int).any fun d => eqb d (.int i))) else none) Q = _
  rw [sca_ints, any_ints]
  rfl
theorem v_d_inIL (i : Int) (ns : List Int) : vD (pIn (.int i) (.lst (ns.map .int))) Q = Q (.bl (decide (i ∈ ns))) := by
  show vD (if sca (.int i) = true ∧ (ns.map D.int).all sca = true then some (D.bl ((ns.map D.int).any fun d => eqb d (.int i))) else none) Q = _
  rw [sca_ints, any_ints]
  rfl
theorem v_d_lenS (s : Tx) : vD (pLen (.str s)) Q = Q (.int s.length) := rfl
theorem v_d_lenL (s : List D) : vD (pLen (.lst s)) Q = Q (.int s.length) := rfl
theorem v_d_lenT (s : List D) : vD (pLen (.tup s)) Q = Q (.int s.length) := rfl
theorem v_d_ixS (s : Tx) (i : Int) : vD (pIx (.str s) (.int i)) Q = vD (ati s i) (fun c => Q (.str [c])) := v_wD_map
theorem v_d_ixL (s : List D) (i : Int) : vD (pIx (.lst s) (.int i)) Q = vD (ati s i) Q := rfl
theorem v_d_ixT (s : List D) (i : Int) : vD (pIx (.tup s) (.int i)) Q = vD (ati s i) Q := rfl
theorem ixn_nn {n : Nat} {i : Int} (h : 0 ≤ i) (h2 : i < n) : ixn n i = some i.toNat := by unfold ixn; rw [if_pos h, if_pos h2]
theorem ati_nn {α : Type} {xs : List α} {i : Int} (h : 0 ≤ i) : ati xs i = xs[i.toNat]? := by
  unfold ati ixn
  rw [if_pos h]
  split
  · rfl
  · rename_i h2
    rw [List.getElem?_eq_none (by omega)]
    rfl
theorem ati_in {α : Type} {xs : List α} {i : Int} (h : 0 ≤ i) (h2 : i < xs.length) : ∃ x, ati xs i = some x ∧ x ∈ xs ∧ xs[i.toNat]? = some x := by
  have hl : i.toNat < xs.length := by omega
  refine ⟨xs[i.toNat], ?_, List.getElem_mem hl, List.getElem?_eq_getElem hl⟩
  rw [ati_nn h, List.getElem?_eq_getElem hl]
theorem v_d_slS (s : Tx) (lo hi : Option Int) : vD (pSl (.str s) lo hi) Q = Q (.str (cut s lo hi)) := rfl
theorem v_d_slL (s : List D) (lo hi : Option Int) : vD (pSl (.lst s) lo hi) Q = Q (.lst (cut s lo hi)) := rfl
theorem v_d_slT (s : List D) (lo hi : Option Int) : vD (pSl (.tup s) lo hi) Q = Q (.tup (cut s lo hi)) := rfl
theorem v_d_slR (s : List D) (lo hi : Option Int) : vD (pSl (.scr s) lo hi) Q = Q (.lst (cut s lo hi)) := rfl
theorem cut_to {α : Type} {s : List α} {i : Int} (h : 0 ≤ i) : cut s none (some i) = s.take i.toNat := by
  unfold cut six
  simp only [if_neg (show ¬ i < 0 by omega), List.drop_zero, Nat.sub_zero]
  rcases Nat.le_total i.toNat s.length with h | h
  · rw [Nat.min_eq_left h]
  · rw [Nat.min_eq_right h, List.take_length, List.take_of_length_le h]
theorem cut_from {α : Type} {s : List α} {i : Int} (h : 0 ≤ i) : cut s (some i) none = s.drop i.toNat := by
  unfold cut six
  simp only [if_neg (show ¬ i < 0 by omega)]
  rcases Nat.le_total i.toNat s.length with h | h
  · rw [Nat.min_eq_left h, List.take_of_length_le (by rw [List.length_drop]; omega)]
  · rw [Nat.min_eq_right h, List.drop_length, List.drop_of_length_le h, List.take_nil]
theorem v_d_revS (s : Tx) : vD (pRev (.str s)) Q = Q (.str s.reverse) := rfl
theorem v_d_revL (s : List D) : vD (pRev (.lst s)) Q = Q (.lst s.reverse) := rfl
theorem v_d_revT (s : List D) : vD (pRev (.tup s)) Q = Q (.tup s.reverse) := rfl
theorem strs_map (l : List Tx) : txsOf (l.map .str) = some l := by
  induction l with
  | nil => rfl
  | cons a l ih => simp [txsOf, ih]
theorem joinT_nil : ∀ l : List Tx, joinT [] l = l.flatten
  | [] => rfl
  | [x] => by simp [joinT]
  | x :: y :: r => by
    have := joinT_nil (y :: r)
    simp only [joinT, this, List.flatten_cons, List.nil_append]
theorem v_d_join (l : List Tx) : vD (mJoin [] [.lst (l.map .str)]) Q = vLen (l.map List.length).sum (Q (.str l.flatten)) := by
  show vD ((txsOf (l.map .str)).bind _) Q = _
  rw [strs_map]
  show vD (if _ then _ else _) Q = _
  rw [v_wD_ite, joinT_nil]
  simp [vC, vLen]
theorem sum_one : ∀ l : Tx, ((l.map fun c => [c]).map List.length).sum = l.length
  | [] => rfl
  | c :: l => by simp only [List.map_cons, List.sum_cons, sum_one l, List.length_cons, List.length_nil]; omega
theorem flat_one : ∀ l : Tx, (l.map fun c => [c]).flatten = l
  | [] => rfl
  | c :: l => by simp only [List.map_cons, List.flatten_cons, flat_one l]; rfl
theorem v_d_joinC (l : Tx) : vD (mJoin [] [.lst (l.map chD)]) Q = vLen l.length (Q (.str l)) := by
  have h := v_d_join (Q := Q) (l.map fun c => [c])
  rw [List.map_map, sum_one, flat_one] at h
  exact h
theorem v_d_find (a b : Tx) : vD (mFind a [.str b]) Q = Q (.int (fnd (fstT a b))) := rfl
theorem v_d_index (a b : Tx) : vD (mIndex a [.str b]) Q = vD (fstT a b) (fun i => Q (.int (i : Nat))) := v_wD_map
theorem v_d_upper (s : Tx) : vD (pUpper (.str s)) Q = vC (s.all (fun c => decide (c < 128)) = true ∧ s.length ≤ 5592405) (Q (.str (s.map up1))) := v_wD_ite
theorem v_d_int (i : Int) : vD (pInt (.int i)) Q = Q (.int i) := rfl
theorem v_d_intB (b : Bool) : vD (pInt (.bl b)) Q = Q (.int (if b then 1 else 0)) := rfl
theorem v_d_abs (i : Int) : vD (pAbs (.int i)) Q = Q (.int (if i < 0 then -i else i)) := rfl
theorem v_d_max (i j : Int) : vD (pMax2 (.int i) (.int j)) Q = Q (.int (max i j)) := by
  show Q (.int (if j > i then j else i)) = _
  congr 2
  split <;> omega
theorem v_d_min (i j : Int) : vD (pMin2 (.int i) (.int j)) Q = Q (.int (min i j)) := by
  show Q (.int (if j < i then j else i)) = _
  congr 2
  split <;> omega
theorem v_d_tupL (s : List D) : vD (pTuple (.lst s)) Q = Q (.tup s) := rfl
theorem v_d_tupT (s : List D) : vD (pTuple (.tup s)) Q = Q (.tup s) := rfl
theorem v_d_listL (s : List D) : vD (pListB (.lst s)) Q = Q (.lst s) := rfl
theorem v_d_listT (s : List D) : vD (pListB (.tup s)) Q = Q (.lst s) := rfl
theorem v_d_sortS (s : Tx) : vD (pSorted (.str s)) Q = vC (s.length < 64) (Q (.lst ((sortN s).map chD))) := v_wD_ite
theorem v_d_isT (t : String) (d : D) : vD (pIsT t d) Q = vD (tyn d) (fun n => Q (.bl (n == t || (n == "bool" && t == "int")))) := v_wD_map
theorem ints_of (l : List Int) : intsOf (l.map .int) = some l := by
  induction l with
  | nil => rfl
  | cons a l ih => simp [intsOf, ih]
theorem bools_of (l : List Bool) : bools (l.map .bl) = some l := by
  induction l with
  | nil => rfl
  | cons a l ih => simp [bools, ih]
theorem v_d_sum (l : List Int) : vD (pSum (.lst (l.map .int))) Q = Q (.int l.sum) := by
  show vD ((intsOf (l.map .int)).map _) Q = _
  rw [ints_of]
  rfl
theorem v_d_all (l : List Bool) : vD (pAll (.lst (l.map .bl))) Q = Q (.bl (l.all id)) := by
  show vD ((bools (l.map .bl)).map _) Q = _
  rw [bools_of]
  rfl
theorem v_d_any (l : List Bool) : vD (pAny (.lst (l.map .bl))) Q = Q (.bl (l.any id)) := by
  show vD ((bools (l.map .bl)).map _) Q = _
  rw [bools_of]
  rfl
theorem v_d_seqL (s : List D) : vD (seqOf (.lst s)) Y = Y s := rfl
theorem v_d_seqT (s : List D) : vD (seqOf (.tup s)) Y = Y s := rfl
theorem v_d_seqS (s : Tx) : vD (seqOf (.str s)) Y = Y (s.map chD) := rfl
theorem v_d_rg1 (j : Int) : vD (pRange1 (.int j)) Y = vC (-4611686018427387904 ≤ j ∧ j < 4611686018427387904) (Y (rgI 0 j.toNat)) := by
  show vD (if bd62 j = true then _ else _) Y = _
  rw [v_wD_ite]
  congr 1
  simp [bd62]
theorem v_d_rg2 (i j : Int) : vD (pRange2 (.int i) (.int j)) Y = vC ((-4611686018427387904 ≤ i ∧ i < 4611686018427387904) ∧ (-4611686018427387904 ≤ j ∧ j < 4611686018427387904)) (Y (rgI i (j - i).toNat)) := by
  show vD (if bd62 i = true ∧ bd62 j = true then _ else _) Y = _
  rw [v_wD_ite]
  congr 1
  simp [bd62]
theorem v_d_zipS (a b : Tx) : vD (zipB (.str a) (.str b)) Y = Y (zipD (a.map chD) (b.map chD)) := rfl
theorem v_d_zipL (a b : List D) : vD (zipB (.lst a) (.lst b)) Y = Y (zipD a b) := rfl
theorem v_d_zipT (a b : List D) : vD (zipB (.tup a) (.tup b)) Y = Y (zipD a b) := rfl
theorem v_d_enS (a : Tx) : vD (enB (.str a)) Y = Y (enumD 0 (a.map chD)) := rfl
theorem v_d_enL (a : List D) : vD (enB (.lst a)) Y = Y (enumD 0 a) := rfl
theorem v_d_revBL (a : List D) : vD (revB (.lst a)) Y = Y a.reverse := rfl
theorem v_d_revBT (a : List D) : vD (revB (.tup a)) Y = Y a.reverse := rfl
theorem v_d_lrg1 (j : Int) : vD (pListRg1 (.int j)) Q = vC (RgB 0 j = true) (Q (.lst (intsAB 0 j))) := v_wD_ite
theorem RgB_of {a b : Int} (h1 : 0 ≤ a) (h2 : b ≤ 16777216) (h3 : a ≤ 16777216) (h4 : 0 ≤ b) : RgB a b = true := by
  unfold RgB
  simp only [Bool.and_eq_true, decide_eq_true_eq]
  omega
theorem v_d_gN (i : Nat) (d : D) (env : List (Option O)) (w : W) {N : PSt → Prop} : vD (gN i d ⟨env, w⟩) N = vPut i env.length (N ⟨env.set i (some (.fz d)), w⟩) := v_wD_ite
theorem v_d_gT (is : List Nat) (ds : List D) (ρ : PSt) {N : PSt → Prop} : vD (gT is (.tup ds) ρ) N = vD (gNs is ds ρ) N := rfl
theorem v_d_gs0 (ρ : PSt) {N : PSt → Prop} : vD (gNs [] [] ρ) N = N ρ := rfl
theorem v_d_gs (i : Nat) (is : List Nat) (d : D) (ds : List D) (ρ : PSt) {N : PSt → Prop} : vD (gNs (i :: is) (d :: ds) ρ) N = vD (gN i d ρ) (fun ρ1 => vD (gNs is ds ρ1) N) := v_wD_bind
theorem v_d_ixW (w : W) (n : Nat) (k : D) : vD (ixW w (.obj n) k) Q = vOb w[n]? (fun os => vD (ixO (.lst os) k) Q) := by
  show vD (match w[n]? with | some (.lst os) => ixO (.lst os) k | _ => none) Q = _
  rcases w[n]? with _ | ob
  · rfl
  · cases ob <;> rfl
theorem v_d_ixO (os : List O) (i : Int) : vD (ixO (.lst os) (.int i)) Q = vD (ati os i) (fun o => vD (asF o) Q) := by
  show vD (match ati os i with | some (.fz d) => some d | _ => none) Q = _
  rcases ati os i with _ | o
  · rfl
  · cases o <;> rfl
theorem v_d_asF (d : D) : vD (asF (.fz d)) Q = Q d := rfl
theorem v_d_asL (d : List D) {Q : List D → Prop} : vD (asL (.lst d)) Q = Q d := rfl
theorem v_d_ixOf (d k : D) : vD (ixO (.fz d) k) Q = vD (pIx d k) Q := rfl
theorem v_d_stoW (w : W) (n : Nat) (z : Int) (d : D) {N : W → Prop} : vD (stoW w (.obj n) (.int z) d) N = vOb w[n]? (fun os => vD (ixn os.length z) (fun j => N (w.set n (.lst (os.set j (.fz d)))))) := by
  show vD (match w[n]? with | some (.lst os) => (ixn os.length z).map fun j => w.set n (.lst (os.set j (.fz d))) | _ => none) N = _
  rcases w[n]? with _ | ob
  · rfl
  · cases ob with
    | lst os => exact v_wD_map
    | _ => rfl
theorem v_d_lenOl (os : List O) : vD (lenO (.lst os)) Q = Q (.int os.length) := rfl
theorem v_d_lenOf (d : D) : vD (lenO (.fz d)) Q = vD (pLen d) Q := rfl
end

/-! the same, with what follows kept from simp -/
structure U {α : Sort _} (a : α) : Type where
@[irreducible] def wE {α : Type} (r : Res α) (Q : α → PSt → Prop) (X : Exc → PSt → Prop) (_ : U (Q, X) := U.mk) : Prop := vE r Q X
@[irreducible] def wS (o : Out) (D : En) (_ : U D := U.mk) : Prop := vS o D
@[irreducible] def wF (r : FRes) (Q : O → W → Prop) (X : Exc → W → Prop) (_ : U (Q, X) := U.mk) : Prop := vF r Q X
@[irreducible] def wD {α : Type} (o : Option α) (Q : α → Prop) (_ : U Q := U.mk) : Prop := vD o Q
@[irreducible] def wI (k : Bool) (A B : Prop) (_ : U (A, B) := U.mk) : Prop := vI k A B
@[irreducible] def wB (d : D) (P : Bool → Prop) (_ : U P := U.mk) : Prop := vB d P
@[irreducible] def wT (d : D) (P : Tx → Prop) (_ : U P := U.mk) : Prop := vT d P
@[irreducible] def wN (d : D) (P : Int → Prop) (_ : U P := U.mk) : Prop := vN d P
@[irreducible] def wV (o : Option (Option O)) (i : Nat) (ρ : PSt) (Q : D → PSt → Prop) (_ : U Q := U.mk) : Prop := vV o i ρ Q
@[irreducible] def wG (o : Option (Option O)) (i : Nat) (ρ : PSt) (Q : O → PSt → Prop) (_ : U Q := U.mk) : Prop := vG o i ρ Q
@[irreducible] def wO (o : Option (Option O)) (Q : O → Prop) (_ : U Q := U.mk) : Prop := vO o Q
@[irreducible] def wL (o : Option (Option O)) (Q : List O → Prop) (_ : U Q := U.mk) : Prop := vL o Q
@[irreducible] def wLen (n : Nat) (A : Prop) (_ : U A := U.mk) : Prop := vLen n A
@[irreducible] def wPut (i n : Nat) (A : Prop) (_ : U A := U.mk) : Prop := vPut i n A
@[irreducible] def wC (c : Prop) (A : Prop) (_ : U A := U.mk) : Prop := vC c A
@[irreducible] def wIns (o : Option Ob) (P : String → List (String × O) → Prop) (_ : U P := U.mk) : Prop := vIns o P
@[irreducible] def wOb (o : Option Ob) (P : List O → Prop) (_ : U P := U.mk) : Prop := vOb o P
theorem wE_eq {α : Type} (r : Res α) (Q : α → PSt → Prop) (X : Exc → PSt → Prop) (u : U (Q, X)) : wE r Q X u = vE r Q X := by unfold wE; rfl
theorem wS_eq (o : Out) (D : En) (u : U D) : wS o D u = vS o D := by unfold wS; rfl
theorem wF_eq (r : FRes) (Q : O → W → Prop) (X : Exc → W → Prop) (u : U (Q, X)) : wF r Q X u = vF r Q X := by unfold wF; rfl
theorem wD_eq {α : Type} (o : Option α) (Q : α → Prop) (u : U Q) : wD o Q u = vD o Q := by unfold wD; rfl
theorem wI_eq (k : Bool) (A B : Prop) (u : U (A, B)) : wI k A B u = vI k A B := by unfold wI; rfl
theorem wB_eq (d : D) (P : Bool → Prop) (u : U P) : wB d P u = vB d P := by unfold wB; rfl
theorem wT_eq (d : D) (P : Tx → Prop) (u : U P) : wT d P u = vT d P := by unfold wT; rfl
theorem wN_eq (d : D) (P : Int → Prop) (u : U P) : wN d P u = vN d P := by unfold wN; rfl
theorem wV_eq (o : Option (Option O)) (i : Nat) (ρ : PSt) (Q : D → PSt → Prop) (u : U Q) : wV o i ρ Q u = vV o i ρ Q := by unfold wV; rfl
theorem wG_eq (o : Option (Option O)) (i : Nat) (ρ : PSt) (Q : O → PSt → Prop) (u : U Q) : wG o i ρ Q u = vG o i ρ Q := by unfold wG; rfl
theorem wO_eq (o : Option (Option O)) (Q : O → Prop) (u : U Q) : wO o Q u = vO o Q := by unfold wO; rfl
theorem wL_eq (o : Option (Option O)) (Q : List O → Prop) (u : U Q) : wL o Q u = vL o Q := by unfold wL; rfl
theorem wLen_eq (n : Nat) (A : Prop) (u : U A) : wLen n A u = vLen n A := by unfold wLen; rfl
theorem wPut_eq (i n : Nat) (A : Prop) (u : U A) : wPut i n A u = vPut i n A := by unfold wPut; rfl
theorem wC_eq (c : Prop) (A : Prop) (u : U A) : wC c A u = vC c A := by unfold wC; rfl
theorem wOb_eq (o : Option Ob) (P : List O → Prop) (u : U P) : wOb o P u = vOb o P := by unfold wOb; rfl
theorem wIns_eq (o : Option Ob) (P : String → List (String × O) → Prop) (u : U P) : wIns o P u = vIns o P := by unfold wIns; rfl
section
variable {α β : Type} {Q : α → PSt → Prop} {X : Exc → PSt → Prop} {ρ : PSt} {P : D → PSt → Prop} {D0 : En}
theorem wE_bind (r : Res β) (f : β → PSt → Res α) : wE (r.bind f) Q X = wE r (fun b ρ => wE (f b ρ) Q X) X := by simp only [wE_eq, wS_eq, wF_eq, wD_eq, wI_eq, wB_eq, wT_eq, wN_eq, wV_eq, wG_eq, wO_eq, wL_eq, wLen_eq, wPut_eq, wC_eq, wOb_eq, wIns_eq] at *; first | exact v_wE_bind .. | (apply v_wE_bind <;> assumption)
theorem wS_out (r : Res β) (f : β → PSt → Out) : wS (r.out f) D0 = wE r (fun b ρ => wS (f b ρ) D0) D0.ex := by simp only [wE_eq, wS_eq, wF_eq, wD_eq, wI_eq, wB_eq, wT_eq, wN_eq, wV_eq, wG_eq, wO_eq, wL_eq, wLen_eq, wPut_eq, wC_eq, wOb_eq, wIns_eq] at *; first | exact v_wS_out .. | (apply v_wS_out <;> assumption)
theorem wE_ofO (o : Option α) : wE (ofO o ρ) Q X = wD o (fun z => Q z ρ) := by simp only [wE_eq, wS_eq, wF_eq, wD_eq, wI_eq, wB_eq, wT_eq, wN_eq, wV_eq, wG_eq, wO_eq, wL_eq, wLen_eq, wPut_eq, wC_eq, wOb_eq, wIns_eq] at *; first | exact v_wE_ofO .. | (apply v_wE_ofO <;> assumption)
theorem wE_asB (d : D) {Q : Bool → PSt → Prop} : wE (asB d ρ) Q X = wB d (fun k => Q k ρ) := by simp only [wE_eq, wS_eq, wF_eq, wD_eq, wI_eq, wB_eq, wT_eq, wN_eq, wV_eq, wG_eq, wO_eq, wL_eq, wLen_eq, wPut_eq, wC_eq, wOb_eq, wIns_eq] at *; first | exact v_wE_asB .. | (apply v_wE_asB <;> assumption)
theorem wE_ite (k : Bool) (a b : Res α) : wE (if k = true then a else b) Q X = wI k (wE a Q X) (wE b Q X) := by simp only [wE_eq, wS_eq, wF_eq, wD_eq, wI_eq, wB_eq, wT_eq, wN_eq, wV_eq, wG_eq, wO_eq, wL_eq, wLen_eq, wPut_eq, wC_eq, wOb_eq, wIns_eq] at *; first | exact v_wE_ite .. | (apply v_wE_ite <;> assumption)
theorem wS_ite (k : Bool) (a b : Out) : wS (if k = true then a else b) D0 = wI k (wS a D0) (wS b D0) := by simp only [wE_eq, wS_eq, wF_eq, wD_eq, wI_eq, wB_eq, wT_eq, wN_eq, wV_eq, wG_eq, wO_eq, wL_eq, wLen_eq, wPut_eq, wC_eq, wOb_eq, wIns_eq] at *; first | exact v_wS_ite .. | (apply v_wS_ite <;> assumption)
theorem wD_some (z : α) {Q : α → Prop} : wD (some z) Q = Q z := by simp only [wE_eq, wS_eq, wF_eq, wD_eq, wI_eq, wB_eq, wT_eq, wN_eq, wV_eq, wG_eq, wO_eq, wL_eq, wLen_eq, wPut_eq, wC_eq, wOb_eq, wIns_eq] at *; first | exact v_wD_some .. | (apply v_wD_some <;> assumption)
theorem wB_bl (k : Bool) {Q : Bool → Prop} : wB (.bl k) Q = Q k := by simp only [wE_eq, wS_eq, wF_eq, wD_eq, wI_eq, wB_eq, wT_eq, wN_eq, wV_eq, wG_eq, wO_eq, wL_eq, wLen_eq, wPut_eq, wC_eq, wOb_eq, wIns_eq] at *; first | exact v_wB_bl .. | (apply v_wB_bl <;> assumption)
theorem wI_t (A B : Prop) : wI true A B = A := by simp only [wE_eq, wS_eq, wF_eq, wD_eq, wI_eq, wB_eq, wT_eq, wN_eq, wV_eq, wG_eq, wO_eq, wL_eq, wLen_eq, wPut_eq, wC_eq, wOb_eq, wIns_eq] at *; first | exact v_wI_t .. | (apply v_wI_t <;> assumption)
theorem wI_f (A B : Prop) : wI false A B = B := by simp only [wE_eq, wS_eq, wF_eq, wD_eq, wI_eq, wB_eq, wT_eq, wN_eq, wV_eq, wG_eq, wO_eq, wL_eq, wLen_eq, wPut_eq, wC_eq, wOb_eq, wIns_eq] at *; first | exact v_wI_f .. | (apply v_wI_f <;> assumption)
theorem wI_not (k : Bool) (A B : Prop) : wI (!k) A B = wI k B A := by simp only [wE_eq, wS_eq, wF_eq, wD_eq, wI_eq, wB_eq, wT_eq, wN_eq, wV_eq, wG_eq, wO_eq, wL_eq, wLen_eq, wPut_eq, wC_eq, wOb_eq, wIns_eq] at *; first | exact v_wI_not .. | (apply v_wI_not <;> assumption)
theorem x_C (d : D) : wE (eC d ρ) P X = P d ρ := by simp only [wE_eq, wS_eq, wF_eq, wD_eq, wI_eq, wB_eq, wT_eq, wN_eq, wV_eq, wG_eq, wO_eq, wL_eq, wLen_eq, wPut_eq, wC_eq, wOb_eq, wIns_eq] at *; first | exact v_x_C .. | (apply v_x_C <;> assumption)
theorem x_V (i : Nat) (env : List (Option O)) (w : W) : wE (eV i ⟨env, w⟩) P X = wV env[i]? i ⟨env, w⟩ P := by simp only [wE_eq, wS_eq, wF_eq, wD_eq, wI_eq, wB_eq, wT_eq, wN_eq, wV_eq, wG_eq, wO_eq, wL_eq, wLen_eq, wPut_eq, wC_eq, wOb_eq, wIns_eq] at *; first | exact v_x_V .. | (apply v_x_V <;> assumption)
theorem wV_fz (d : D) (i : Nat) (ρ : PSt) : wV (some (some (.fz d))) i ρ P = P d ρ := by simp only [wE_eq, wS_eq, wF_eq, wD_eq, wI_eq, wB_eq, wT_eq, wN_eq, wV_eq, wG_eq, wO_eq, wL_eq, wLen_eq, wPut_eq, wC_eq, wOb_eq, wIns_eq] at *; first | exact v_wV_fz .. | (apply v_wV_fz <;> assumption)
theorem wV_lst (os : List O) (i : Nat) (env : List (Option O)) (w : W) : wV (some (some (.lst os))) i ⟨env, w⟩ P = P (.lst (frzs os)) ⟨env.set i (some (.fz (.lst (frzs os)))), w⟩ := by simp only [wE_eq, wS_eq, wF_eq, wD_eq, wI_eq, wB_eq, wT_eq, wN_eq, wV_eq, wG_eq, wO_eq, wL_eq, wLen_eq, wPut_eq, wC_eq, wOb_eq, wIns_eq] at *; first | exact v_wV_lst .. | (apply v_wV_lst <;> assumption)
theorem wV_tup (os : List O) (i : Nat) (env : List (Option O)) (w : W) : wV (some (some (.tup os))) i ⟨env, w⟩ P = P (.tup (frzs os)) ⟨env.set i (some (.fz (.tup (frzs os)))), w⟩ := by simp only [wE_eq, wS_eq, wF_eq, wD_eq, wI_eq, wB_eq, wT_eq, wN_eq, wV_eq, wG_eq, wO_eq, wL_eq, wLen_eq, wPut_eq, wC_eq, wOb_eq, wIns_eq] at *; first | exact v_wV_tup .. | (apply v_wV_tup <;> assumption)
theorem wV_dct (ks : List D) (os : List O) (i : Nat) (env : List (Option O)) (w : W) : wV (some (some (.dct ks os))) i ⟨env, w⟩ P = P (.dct ks (frzs os)) ⟨env.set i (some (.fz (.dct ks (frzs os)))), w⟩ := by simp only [wE_eq, wS_eq, wF_eq, wD_eq, wI_eq, wB_eq, wT_eq, wN_eq, wV_eq, wG_eq, wO_eq, wL_eq, wLen_eq, wPut_eq, wC_eq, wOb_eq, wIns_eq] at *; first | exact v_wV_dct .. | (apply v_wV_dct <;> assumption)
theorem wG_fz (d : D) (i : Nat) (ρ : PSt) {P : O → PSt → Prop} : wG (some (some (.fz d))) i ρ P = P (.fz d) ρ := by simp only [wE_eq, wS_eq, wF_eq, wD_eq, wI_eq, wB_eq, wT_eq, wN_eq, wV_eq, wG_eq, wO_eq, wL_eq, wLen_eq, wPut_eq, wC_eq, wOb_eq, wIns_eq] at *; first | exact v_wG_fz .. | (apply v_wG_fz <;> assumption)
theorem wG_lst (os : List O) (i : Nat) (env : List (Option O)) (w : W) {P : O → PSt → Prop} : wG (some (some (.lst os))) i ⟨env, w⟩ P = P (.lst os) ⟨env.set i none, w⟩ := by simp only [wE_eq, wS_eq, wF_eq, wD_eq, wI_eq, wB_eq, wT_eq, wN_eq, wV_eq, wG_eq, wO_eq, wL_eq, wLen_eq, wPut_eq, wC_eq, wOb_eq, wIns_eq] at *; first | exact v_wG_lst .. | (apply v_wG_lst <;> assumption)
theorem wG_tup (os : List O) (i : Nat) (env : List (Option O)) (w : W) {P : O → PSt → Prop} : wG (some (some (.tup os))) i ⟨env, w⟩ P = P (.tup os) ⟨env.set i none, w⟩ := by simp only [wE_eq, wS_eq, wF_eq, wD_eq, wI_eq, wB_eq, wT_eq, wN_eq, wV_eq, wG_eq, wO_eq, wL_eq, wLen_eq, wPut_eq, wC_eq, wOb_eq, wIns_eq] at *; first | exact v_wG_tup .. | (apply v_wG_tup <;> assumption)
theorem wG_dct (ks : List D) (os : List O) (i : Nat) (env : List (Option O)) (w : W) {P : O → PSt → Prop} : wG (some (some (.dct ks os))) i ⟨env, w⟩ P = P (.dct ks os) ⟨env.set i none, w⟩ := by simp only [wE_eq, wS_eq, wF_eq, wD_eq, wI_eq, wB_eq, wT_eq, wN_eq, wV_eq, wG_eq, wO_eq, wL_eq, wLen_eq, wPut_eq, wC_eq, wOb_eq, wIns_eq] at *; first | exact v_wG_dct .. | (apply v_wG_dct <;> assumption)
theorem wO_some (o : O) {P : O → Prop} : wO (some (some o)) P = P o := by simp only [wE_eq, wS_eq, wF_eq, wD_eq, wI_eq, wB_eq, wT_eq, wN_eq, wV_eq, wG_eq, wO_eq, wL_eq, wLen_eq, wPut_eq, wC_eq, wOb_eq, wIns_eq] at *; first | exact v_wO_some .. | (apply v_wO_some <;> assumption)
theorem wL_lst (os : List O) {P : List O → Prop} : wL (some (some (.lst os))) P = P os := by simp only [wE_eq, wS_eq, wF_eq, wD_eq, wI_eq, wB_eq, wT_eq, wN_eq, wV_eq, wG_eq, wO_eq, wL_eq, wLen_eq, wPut_eq, wC_eq, wOb_eq, wIns_eq] at *; first | exact v_wL_lst .. | (apply v_wL_lst <;> assumption)
theorem x_Op (f : D → D → Option D) (a b : ME) : wE (eOp f a b ρ) P X = wE (a ρ) (fun x ρ1 => wE (b ρ1) (fun y ρ2 => wD (f x y) (fun z => P z ρ2)) X) X := by simp only [wE_eq, wS_eq, wF_eq, wD_eq, wI_eq, wB_eq, wT_eq, wN_eq, wV_eq, wG_eq, wO_eq, wL_eq, wLen_eq, wPut_eq, wC_eq, wOb_eq, wIns_eq] at *; first | exact v_x_Op .. | (apply v_x_Op <;> assumption)
theorem x_Un (f : D → Option D) (a : ME) : wE (eUn f a ρ) P X = wE (a ρ) (fun x ρ1 => wD (f x) (fun z => P z ρ1)) X := by simp only [wE_eq, wS_eq, wF_eq, wD_eq, wI_eq, wB_eq, wT_eq, wN_eq, wV_eq, wG_eq, wO_eq, wL_eq, wLen_eq, wPut_eq, wC_eq, wOb_eq, wIns_eq] at *; first | exact v_x_Un .. | (apply v_x_Un <;> assumption)
theorem x_And (a b : ME) : wE (eAnd a b ρ) P X = wE (a ρ) (fun x ρ1 => wB x fun k => wI k (wE (b ρ1) P X) (P (.bl false) ρ1)) X := by simp only [wE_eq, wS_eq, wF_eq, wD_eq, wI_eq, wB_eq, wT_eq, wN_eq, wV_eq, wG_eq, wO_eq, wL_eq, wLen_eq, wPut_eq, wC_eq, wOb_eq, wIns_eq] at *; first | exact v_x_And .. | (apply v_x_And <;> assumption)
theorem x_Or (a b : ME) : wE (eOr a b ρ) P X = wE (a ρ) (fun x ρ1 => wB x fun k => wI k (P (.bl true) ρ1) (wE (b ρ1) P X)) X := by simp only [wE_eq, wS_eq, wF_eq, wD_eq, wI_eq, wB_eq, wT_eq, wN_eq, wV_eq, wG_eq, wO_eq, wL_eq, wLen_eq, wPut_eq, wC_eq, wOb_eq, wIns_eq] at *; first | exact v_x_Or .. | (apply v_x_Or <;> assumption)
theorem x_Not (a : ME) : wE (eNot a ρ) P X = wE (a ρ) (fun x ρ1 => wB x fun k => P (.bl (!k)) ρ1) X := by simp only [wE_eq, wS_eq, wF_eq, wD_eq, wI_eq, wB_eq, wT_eq, wN_eq, wV_eq, wG_eq, wO_eq, wL_eq, wLen_eq, wPut_eq, wC_eq, wOb_eq, wIns_eq] at *; first | exact v_x_Not .. | (apply v_x_Not <;> assumption)
theorem x_If (t : MT) (a b : ME) : wE (eIf t a b ρ) P X = wE (t ρ) (fun k ρ1 => wI k (wE (a ρ1) P X) (wE (b ρ1) P X)) X := by simp only [wE_eq, wS_eq, wF_eq, wD_eq, wI_eq, wB_eq, wT_eq, wN_eq, wV_eq, wG_eq, wO_eq, wL_eq, wLen_eq, wPut_eq, wC_eq, wOb_eq, wIns_eq] at *; first | exact v_x_If .. | (apply v_x_If <;> assumption)
theorem x_Chain (f g : D → D → Option D) (a b c : ME) : wE (eChain f g a b c ρ) P X = wE (a ρ) (fun x ρ1 => wE (b ρ1) (fun y ρ2 => wD (f x y) fun r => wB r fun k => wI k (wE (c ρ2) (fun z ρ3 => wD (g y z) fun v => P v ρ3) X) (P (.bl false) ρ2)) X) X := by simp only [wE_eq, wS_eq, wF_eq, wD_eq, wI_eq, wB_eq, wT_eq, wN_eq, wV_eq, wG_eq, wO_eq, wL_eq, wLen_eq, wPut_eq, wC_eq, wOb_eq, wIns_eq] at *; first | exact v_x_Chain .. | (apply v_x_Chain <;> assumption)
theorem x_Nil {P : List D → PSt → Prop} : wE (aNil ρ) P X = P [] ρ := by simp only [wE_eq, wS_eq, wF_eq, wD_eq, wI_eq, wB_eq, wT_eq, wN_eq, wV_eq, wG_eq, wO_eq, wL_eq, wLen_eq, wPut_eq, wC_eq, wOb_eq, wIns_eq] at *; first | exact v_x_Nil .. | (apply v_x_Nil <;> assumption)
theorem x_Cons (a : ME) (r : MA) {P : List D → PSt → Prop} : wE (aCons a r ρ) P X = wE (a ρ) (fun x ρ1 => wE (r ρ1) (fun xs ρ2 => P (x :: xs) ρ2) X) X := by simp only [wE_eq, wS_eq, wF_eq, wD_eq, wI_eq, wB_eq, wT_eq, wN_eq, wV_eq, wG_eq, wO_eq, wL_eq, wLen_eq, wPut_eq, wC_eq, wOb_eq, wIns_eq] at *; first | exact v_x_Cons .. | (apply v_x_Cons <;> assumption)
theorem wLen_of {n : Nat} (h : n ≤ 16777216) (A : Prop) : wLen n A = A := by simp only [wE_eq, wS_eq, wF_eq, wD_eq, wI_eq, wB_eq, wT_eq, wN_eq, wV_eq, wG_eq, wO_eq, wL_eq, wLen_eq, wPut_eq, wC_eq, wOb_eq, wIns_eq] at *; first | exact v_wLen_of .. | (apply v_wLen_of <;> assumption)
theorem x_Tup (as : MA) : wE (eTup as ρ) P X = wE (as ρ) (fun xs ρ1 => wLen xs.length (P (.tup xs) ρ1)) X := by simp only [wE_eq, wS_eq, wF_eq, wD_eq, wI_eq, wB_eq, wT_eq, wN_eq, wV_eq, wG_eq, wO_eq, wL_eq, wLen_eq, wPut_eq, wC_eq, wOb_eq, wIns_eq] at *; first | exact v_x_Tup .. | (apply v_x_Tup <;> assumption)
theorem x_Lst (as : MA) : wE (eLst as ρ) P X = wE (as ρ) (fun xs ρ1 => wLen xs.length (P (.lst xs) ρ1)) X := by simp only [wE_eq, wS_eq, wF_eq, wD_eq, wI_eq, wB_eq, wT_eq, wN_eq, wV_eq, wG_eq, wO_eq, wL_eq, wLen_eq, wPut_eq, wC_eq, wOb_eq, wIns_eq] at *; first | exact v_x_Lst .. | (apply v_x_Lst <;> assumption)
theorem x_Mt (f : Tx → List D → Option D) (a : ME) (as : MA) : wE (eMt f a as ρ) P X = wE (a ρ) (fun x ρ1 => wT x fun s => wE (as ρ1) (fun ds ρ2 => wD (f s ds) fun z => P z ρ2) X) X := by simp only [wE_eq, wS_eq, wF_eq, wD_eq, wI_eq, wB_eq, wT_eq, wN_eq, wV_eq, wG_eq, wO_eq, wL_eq, wLen_eq, wPut_eq, wC_eq, wOb_eq, wIns_eq] at *; first | exact v_x_Mt .. | (apply v_x_Mt <;> assumption)
theorem x_MtL (f : List D → List D → Option D) (a : ME) (as : MA) : wE (eMtL f a as ρ) P X = wE (a ρ) (fun x ρ1 => wD (asL x) fun s => wE (as ρ1) (fun ds ρ2 => wD (f s ds) fun z => P z ρ2) X) X := by simp only [wE_eq, wS_eq, wF_eq, wD_eq, wI_eq, wB_eq, wT_eq, wN_eq, wV_eq, wG_eq, wO_eq, wL_eq, wLen_eq, wPut_eq, wC_eq, wOb_eq, wIns_eq] at *; first | exact v_x_MtL .. | (apply v_x_MtL <;> assumption)
theorem wT_str (s : Tx) {P : Tx → Prop} : wT (.str s) P = P s := by simp only [wE_eq, wS_eq, wF_eq, wD_eq, wI_eq, wB_eq, wT_eq, wN_eq, wV_eq, wG_eq, wO_eq, wL_eq, wLen_eq, wPut_eq, wC_eq, wOb_eq, wIns_eq] at *; first | exact v_wT_str .. | (apply v_wT_str <;> assumption)
theorem wN_int (s : Int) {P : Int → Prop} : wN (.int s) P = P s := by simp only [wE_eq, wS_eq, wF_eq, wD_eq, wI_eq, wB_eq, wT_eq, wN_eq, wV_eq, wG_eq, wO_eq, wL_eq, wLen_eq, wPut_eq, wC_eq, wOb_eq, wIns_eq] at *; first | exact v_wN_int .. | (apply v_wN_int <;> assumption)
theorem x_No {P : Option Int → PSt → Prop} : wE (pNo ρ) P X = P none ρ := by simp only [wE_eq, wS_eq, wF_eq, wD_eq, wI_eq, wB_eq, wT_eq, wN_eq, wV_eq, wG_eq, wO_eq, wL_eq, wLen_eq, wPut_eq, wC_eq, wOb_eq, wIns_eq] at *; first | exact v_x_No .. | (apply v_x_No <;> assumption)
theorem x_So (a : ME) {P : Option Int → PSt → Prop} : wE (pSo a ρ) P X = wE (a ρ) (fun x ρ1 => wN x fun i => P (some i) ρ1) X := by simp only [wE_eq, wS_eq, wF_eq, wD_eq, wI_eq, wB_eq, wT_eq, wN_eq, wV_eq, wG_eq, wO_eq, wL_eq, wLen_eq, wPut_eq, wC_eq, wOb_eq, wIns_eq] at *; first | exact v_x_So .. | (apply v_x_So <;> assumption)
theorem x_Sl (a : ME) (lo hi : MP) : wE (eSl a lo hi ρ) P X = wE (a ρ) (fun x ρ1 => wE (lo ρ1) (fun l ρ2 => wE (hi ρ2) (fun h ρ3 => wD (pSl x l h) fun z => P z ρ3) X) X) X := by simp only [wE_eq, wS_eq, wF_eq, wD_eq, wI_eq, wB_eq, wT_eq, wN_eq, wV_eq, wG_eq, wO_eq, wL_eq, wLen_eq, wPut_eq, wC_eq, wOb_eq, wIns_eq] at *; first | exact v_x_Sl .. | (apply v_x_Sl <;> assumption)
theorem x_O (a : MO) : wE (eO a ρ) P X = wE (a ρ) (fun o ρ1 => P (frz o) ρ1) X := by simp only [wE_eq, wS_eq, wF_eq, wD_eq, wI_eq, wB_eq, wT_eq, wN_eq, wV_eq, wG_eq, wO_eq, wL_eq, wLen_eq, wPut_eq, wC_eq, wOb_eq, wIns_eq] at *; first | exact v_x_O .. | (apply v_x_O <;> assumption)
variable {R : O → PSt → Prop}
theorem x_oE (a : ME) : wE (oE a ρ) R X = wE (a ρ) (fun d ρ1 => R (.fz d) ρ1) X := by simp only [wE_eq, wS_eq, wF_eq, wD_eq, wI_eq, wB_eq, wT_eq, wN_eq, wV_eq, wG_eq, wO_eq, wL_eq, wLen_eq, wPut_eq, wC_eq, wOb_eq, wIns_eq] at *; first | exact v_x_oE .. | (apply v_x_oE <;> assumption)
theorem x_oV (i : Nat) (env : List (Option O)) (w : W) : wE (oV i ⟨env, w⟩) R X = wG env[i]? i ⟨env, w⟩ R := by simp only [wE_eq, wS_eq, wF_eq, wD_eq, wI_eq, wB_eq, wT_eq, wN_eq, wV_eq, wG_eq, wO_eq, wL_eq, wLen_eq, wPut_eq, wC_eq, wOb_eq, wIns_eq] at *; first | exact v_x_oV .. | (apply v_x_oV <;> assumption)
theorem x_Call (f : MF) (as : MA) : wE (oCall f as ρ) R X = wE (as ρ) (fun ds ρ1 => wF (f ds ρ1.w) (fun o w => R o ⟨ρ1.env, w⟩) fun x w => X x ⟨ρ1.env, w⟩) X := by simp only [wE_eq, wS_eq, wF_eq, wD_eq, wI_eq, wB_eq, wT_eq, wN_eq, wV_eq, wG_eq, wO_eq, wL_eq, wLen_eq, wPut_eq, wC_eq, wOb_eq, wIns_eq] at *; first | exact v_x_Call .. | (apply v_x_Call <;> assumption)
theorem x_oNew (a : ME) : wE (oNew a ρ) R X = wE (a ρ) (fun d ρ1 => wD (asL d) fun ds => R (.lst (ds.map .fz)) ρ1) X := by simp only [wE_eq, wS_eq, wF_eq, wD_eq, wI_eq, wB_eq, wT_eq, wN_eq, wV_eq, wG_eq, wO_eq, wL_eq, wLen_eq, wPut_eq, wC_eq, wOb_eq, wIns_eq] at *; first | exact v_x_oNew .. | (apply v_x_oNew <;> assumption)
theorem x_Dct1 (k : D) (a : ME) : wE (eDct1 k a ρ) P X = wE (a ρ) (fun d ρ1 => P (.dct [k] [d]) ρ1) X := by simp only [wE_eq, wS_eq, wF_eq, wD_eq, wI_eq, wB_eq, wT_eq, wN_eq, wV_eq, wG_eq, wO_eq, wL_eq, wLen_eq, wPut_eq, wC_eq, wOb_eq, wIns_eq] at *; first | exact v_x_Dct1 .. | (apply v_x_Dct1 <;> assumption)
theorem x_Dct0 : wE (eDct0 ρ) P X = P (.dct [] []) ρ := by simp only [wE_eq, wS_eq, wF_eq, wD_eq, wI_eq, wB_eq, wT_eq, wN_eq, wV_eq, wG_eq, wO_eq, wL_eq, wLen_eq, wPut_eq, wC_eq, wOb_eq, wIns_eq] at *; first | exact v_x_Dct0 .. | (apply v_x_Dct0 <;> assumption)
theorem x_oDct0 : wE (oDct0 ρ) R X = R (.dct [] []) ρ := by simp only [wE_eq, wS_eq, wF_eq, wD_eq, wI_eq, wB_eq, wT_eq, wN_eq, wV_eq, wG_eq, wO_eq, wL_eq, wLen_eq, wPut_eq, wC_eq, wOb_eq, wIns_eq] at *; first | exact v_x_oDct0 .. | (apply v_x_oDct0 <;> assumption)
theorem x_PopAt (i : Nat) (a : ME) (env : List (Option O)) (w : W) : wE (ePopAt i a ⟨env, w⟩) P X = wL env[i]? fun _ => wE (a ⟨env, w⟩) (fun d ρ1 => wN d fun z => wL ρ1.env[i]? fun os => wLen os.length (wD (ixn os.length z) fun j => wD os[j]? fun o => wD (asF o) fun y => P y ⟨ρ1.env.set i (some (.lst (os.eraseIdx j))), ρ1.w⟩)) X := by simp only [wE_eq, wS_eq, wF_eq, wD_eq, wI_eq, wB_eq, wT_eq, wN_eq, wV_eq, wG_eq, wO_eq, wL_eq, wLen_eq, wPut_eq, wC_eq, wOb_eq, wIns_eq] at *; first | exact v_x_PopAt .. | (apply v_x_PopAt <;> assumption)
theorem x_IxV (i : Nat) (b : ME) (env : List (Option O)) (w : W) : wE (eIxV i b ⟨env, w⟩) P X = wO env[i]? fun _ => wE (b ⟨env, w⟩) (fun k ρ1 => wO ρ1.env[i]? fun o => wD (ixO o k) fun z => P z ρ1) X := by simp only [wE_eq, wS_eq, wF_eq, wD_eq, wI_eq, wB_eq, wT_eq, wN_eq, wV_eq, wG_eq, wO_eq, wL_eq, wLen_eq, wPut_eq, wC_eq, wOb_eq, wIns_eq] at *; first | exact v_x_IxV .. | (apply v_x_IxV <;> assumption)
theorem x_InV (i : Nat) (a : ME) : wE (eInV i a ρ) P X = wE (a ρ) (fun x ρ1 => wO ρ1.env[i]? fun o => wD (inO x o) fun z => P z ρ1) X := by simp only [wE_eq, wS_eq, wF_eq, wD_eq, wI_eq, wB_eq, wT_eq, wN_eq, wV_eq, wG_eq, wO_eq, wL_eq, wLen_eq, wPut_eq, wC_eq, wOb_eq, wIns_eq] at *; first | exact v_x_InV .. | (apply v_x_InV <;> assumption)
theorem x_NotInV (i : Nat) (a : ME) : wE (eNotInV i a ρ) P X = wE (a ρ) (fun x ρ1 => wO ρ1.env[i]? fun o => wD (notO (inO x o)) fun z => P z ρ1) X := by simp only [wE_eq, wS_eq, wF_eq, wD_eq, wI_eq, wB_eq, wT_eq, wN_eq, wV_eq, wG_eq, wO_eq, wL_eq, wLen_eq, wPut_eq, wC_eq, wOb_eq, wIns_eq] at *; first | exact v_x_NotInV .. | (apply v_x_NotInV <;> assumption)
theorem x_LenV (i : Nat) : wE (eLenV i ρ) P X = wO ρ.env[i]? fun o => wD (lenO o) fun z => P z ρ := by simp only [wE_eq, wS_eq, wF_eq, wD_eq, wI_eq, wB_eq, wT_eq, wN_eq, wV_eq, wG_eq, wO_eq, wL_eq, wLen_eq, wPut_eq, wC_eq, wOb_eq, wIns_eq] at *; first | exact v_x_LenV .. | (apply v_x_LenV <;> assumption)
theorem x_IxW (a b : ME) : wE (eIxW a b ρ) P X = wE (a ρ) (fun x ρ1 => wE (b ρ1) (fun y ρ2 => wD (ixW ρ2.w x y) fun z => P z ρ2) X) X := by simp only [wE_eq, wS_eq, wF_eq, wD_eq, wI_eq, wB_eq, wT_eq, wN_eq, wV_eq, wG_eq, wO_eq, wL_eq, wLen_eq, wPut_eq, wC_eq, wOb_eq, wIns_eq] at *; first | exact v_x_IxW .. | (apply v_x_IxW <;> assumption)
theorem x_Obj (as : MA) : wE (oObj as ρ) R X = wE (as ρ) (fun xs ρ1 => wLen xs.length (R (.fz (.obj ρ1.w.length)) ⟨ρ1.env, ρ1.w ++ [.lst (xs.map .fz)]⟩)) X := by simp only [wE_eq, wS_eq, wF_eq, wD_eq, wI_eq, wB_eq, wT_eq, wN_eq, wV_eq, wG_eq, wO_eq, wL_eq, wLen_eq, wPut_eq, wC_eq, wOb_eq, wIns_eq] at *; first | exact v_x_Obj .. | (apply v_x_Obj <;> assumption)
theorem x_Fld (cs : List String) (a : ME) (f : String) : wE (eFld cs a f ρ) P X = wE (a ρ) (fun x ρ1 => wD (fldO cs f ρ1.w x) fun z => P z ρ1) X := by simp only [wE_eq, wS_eq, wF_eq, wD_eq, wI_eq, wB_eq, wT_eq, wN_eq, wV_eq, wG_eq, wO_eq, wL_eq, wLen_eq, wPut_eq, wC_eq, wOb_eq, wIns_eq] at *; first | exact v_x_Fld .. | (apply v_x_Fld <;> assumption)
theorem x_Make (C : String) (init : MF) (as : MA) : wE (oMake C init as ρ) R X = wE (as ρ) (fun ds ρ1 => wF (init (.obj ρ1.w.length :: ds) (ρ1.w ++ [.ins C []])) (fun o w => o = .fz .non ∧ R (.fz (.obj ρ1.w.length)) ⟨ρ1.env, w⟩) fun x w => X x ⟨ρ1.env, w⟩) X := by simp only [wE_eq, wS_eq, wF_eq, wD_eq, wI_eq, wB_eq, wT_eq, wN_eq, wV_eq, wG_eq, wO_eq, wL_eq, wLen_eq, wPut_eq, wC_eq, wOb_eq, wIns_eq] at *; first | exact v_x_Make .. | (apply v_x_Make <;> assumption)
theorem x_Meth (C m : String) (f : MF) (a : ME) (as : MA) : wE (oMeth C m f a as ρ) R X = wE (a ρ) (fun x ρ1 => isIns C m ρ1.w x = true ∧ wE (as ρ1) (fun ds ρ2 => wF (f (x :: ds) ρ2.w) (fun o w => R o ⟨ρ2.env, w⟩) fun x w => X x ⟨ρ2.env, w⟩) X) X := by simp only [wE_eq, wS_eq, wF_eq, wD_eq, wI_eq, wB_eq, wT_eq, wN_eq, wV_eq, wG_eq, wO_eq, wL_eq, wLen_eq, wPut_eq, wC_eq, wOb_eq, wIns_eq] at *; first | exact v_x_Meth .. | (apply v_x_Meth <;> assumption)
theorem x_Bad : wE (eBad ρ) P X = False := by simp only [wE_eq, wS_eq, wF_eq, wD_eq, wI_eq, wB_eq, wT_eq, wN_eq, wV_eq, wG_eq, wO_eq, wL_eq, wLen_eq, wPut_eq, wC_eq, wOb_eq, wIns_eq] at *; first | exact v_x_Bad .. | (apply v_x_Bad <;> assumption)
theorem x_IsX (t : ET) (c : String) (x : Exc) : wE (eIsX t c x ρ) P X = wD (sub t x.cls c) fun b => P (.bl b) ρ := by simp only [wE_eq, wS_eq, wF_eq, wD_eq, wI_eq, wB_eq, wT_eq, wN_eq, wV_eq, wG_eq, wO_eq, wL_eq, wLen_eq, wPut_eq, wC_eq, wOb_eq, wIns_eq] at *; first | exact v_x_IsX .. | (apply v_x_IsX <;> assumption)
variable {B : Bool → PSt → Prop}
theorem x_tE (a : ME) : wE (tE a ρ) B X = wE (a ρ) (fun d ρ1 => wB d fun k => B k ρ1) X := by simp only [wE_eq, wS_eq, wF_eq, wD_eq, wI_eq, wB_eq, wT_eq, wN_eq, wV_eq, wG_eq, wO_eq, wL_eq, wLen_eq, wPut_eq, wC_eq, wOb_eq, wIns_eq] at *; first | exact v_x_tE .. | (apply v_x_tE <;> assumption)
theorem x_tNot (a : MT) : wE (tNot a ρ) B X = wE (a ρ) (fun k ρ1 => B (!k) ρ1) X := by simp only [wE_eq, wS_eq, wF_eq, wD_eq, wI_eq, wB_eq, wT_eq, wN_eq, wV_eq, wG_eq, wO_eq, wL_eq, wLen_eq, wPut_eq, wC_eq, wOb_eq, wIns_eq] at *; first | exact v_x_tNot .. | (apply v_x_tNot <;> assumption)
theorem x_tAnd (a b : MT) : wE (tAnd a b ρ) B X = wE (a ρ) (fun k ρ1 => wI k (wE (b ρ1) B X) (B false ρ1)) X := by simp only [wE_eq, wS_eq, wF_eq, wD_eq, wI_eq, wB_eq, wT_eq, wN_eq, wV_eq, wG_eq, wO_eq, wL_eq, wLen_eq, wPut_eq, wC_eq, wOb_eq, wIns_eq] at *; first | exact v_x_tAnd .. | (apply v_x_tAnd <;> assumption)
theorem x_tOr (a b : MT) : wE (tOr a b ρ) B X = wE (a ρ) (fun k ρ1 => wI k (B true ρ1) (wE (b ρ1) B X)) X := by simp only [wE_eq, wS_eq, wF_eq, wD_eq, wI_eq, wB_eq, wT_eq, wN_eq, wV_eq, wG_eq, wO_eq, wL_eq, wLen_eq, wPut_eq, wC_eq, wOb_eq, wIns_eq] at *; first | exact v_x_tOr .. | (apply v_x_tOr <;> assumption)
theorem x_tT : wE (tT ρ) B X = B true ρ := by simp only [wE_eq, wS_eq, wF_eq, wD_eq, wI_eq, wB_eq, wT_eq, wN_eq, wV_eq, wG_eq, wO_eq, wL_eq, wLen_eq, wPut_eq, wC_eq, wOb_eq, wIns_eq] at *; first | exact v_x_tT .. | (apply v_x_tT <;> assumption)
variable {Y : List D → PSt → Prop}
theorem x_iSeq (a : ME) : wE (iSeq a ρ) Y X = wE (a ρ) (fun d ρ1 => wD (seqOf d) fun z => Y z ρ1) X := by simp only [wE_eq, wS_eq, wF_eq, wD_eq, wI_eq, wB_eq, wT_eq, wN_eq, wV_eq, wG_eq, wO_eq, wL_eq, wLen_eq, wPut_eq, wC_eq, wOb_eq, wIns_eq] at *; first | exact v_x_iSeq .. | (apply v_x_iSeq <;> assumption)
theorem x_iRange1 (a : ME) : wE (iRange1 a ρ) Y X = wE (a ρ) (fun d ρ1 => wD (pRange1 d) fun z => Y z ρ1) X := by simp only [wE_eq, wS_eq, wF_eq, wD_eq, wI_eq, wB_eq, wT_eq, wN_eq, wV_eq, wG_eq, wO_eq, wL_eq, wLen_eq, wPut_eq, wC_eq, wOb_eq, wIns_eq] at *; first | exact v_x_iRange1 .. | (apply v_x_iRange1 <;> assumption)
theorem x_iRange2 (a b : ME) : wE (iRange2 a b ρ) Y X = wE (a ρ) (fun d ρ1 => wE (b ρ1) (fun e ρ2 => wD (pRange2 d e) fun z => Y z ρ2) X) X := by simp only [wE_eq, wS_eq, wF_eq, wD_eq, wI_eq, wB_eq, wT_eq, wN_eq, wV_eq, wG_eq, wO_eq, wL_eq, wLen_eq, wPut_eq, wC_eq, wOb_eq, wIns_eq] at *; first | exact v_x_iRange2 .. | (apply v_x_iRange2 <;> assumption)
theorem x_iZip (a b : ME) : wE (iZip a b ρ) Y X = wE (a ρ) (fun d ρ1 => wE (b ρ1) (fun e ρ2 => wD (zipB d e) fun z => Y z ρ2) X) X := by simp only [wE_eq, wS_eq, wF_eq, wD_eq, wI_eq, wB_eq, wT_eq, wN_eq, wV_eq, wG_eq, wO_eq, wL_eq, wLen_eq, wPut_eq, wC_eq, wOb_eq, wIns_eq] at *; first | exact v_x_iZip .. | (apply v_x_iZip <;> assumption)
theorem x_iEnum (a : ME) : wE (iEnum a ρ) Y X = wE (a ρ) (fun d ρ1 => wD (enB d) fun z => Y z ρ1) X := by simp only [wE_eq, wS_eq, wF_eq, wD_eq, wI_eq, wB_eq, wT_eq, wN_eq, wV_eq, wG_eq, wO_eq, wL_eq, wLen_eq, wPut_eq, wC_eq, wOb_eq, wIns_eq] at *; first | exact v_x_iEnum .. | (apply v_x_iEnum <;> assumption)
theorem x_iRev (a : ME) : wE (iRev a ρ) Y X = wE (a ρ) (fun d ρ1 => wD (revB d) fun z => Y z ρ1) X := by simp only [wE_eq, wS_eq, wF_eq, wD_eq, wI_eq, wB_eq, wT_eq, wN_eq, wV_eq, wG_eq, wO_eq, wL_eq, wLen_eq, wPut_eq, wC_eq, wOb_eq, wIns_eq] at *; first | exact v_x_iRev .. | (apply v_x_iRev <;> assumption)
theorem x_Lc (own : List Nat) (it : MI) (g : MG) (t : MT) (e : ME) : wE (eLc own it g t e ρ) P X = wE (it ρ) (fun xs ρ1 => wE (lcL own g t e xs [] ρ1) (fun ys ρ2 => P (.lst ys) ⟨back ρ1.env own (wipeE own ρ2.env), ρ2.w⟩) X) X := by simp only [wE_eq, wS_eq, wF_eq, wD_eq, wI_eq, wB_eq, wT_eq, wN_eq, wV_eq, wG_eq, wO_eq, wL_eq, wLen_eq, wPut_eq, wC_eq, wOb_eq, wIns_eq] at *; first | exact v_x_Lc .. | (apply v_x_Lc <;> assumption)
theorem x_oLc (own : List Nat) (it : MI) (g : MG) (t : MT) (e : ME) : wE (oLc own it g t e ρ) R X = wE (it ρ) (fun xs ρ1 => wE (lcL own g t e xs [] ρ1) (fun ys ρ2 => R (.lst (ys.map .fz)) ⟨back ρ1.env own (wipeE own ρ2.env), ρ2.w⟩) X) X := by simp only [wE_eq, wS_eq, wF_eq, wD_eq, wI_eq, wB_eq, wT_eq, wN_eq, wV_eq, wG_eq, wO_eq, wL_eq, wLen_eq, wPut_eq, wC_eq, wOb_eq, wIns_eq] at *; first | exact v_x_oLc .. | (apply v_x_oLc <;> assumption)
variable {N : PSt → Prop} {rt : O → W → Prop} {bk ct : PSt → Prop} {ex : Exc → PSt → Prop}
theorem s_Pass : wS (sPass ρ) ⟨N, rt, bk, ct, ex⟩ = N ρ := by simp only [wE_eq, wS_eq, wF_eq, wD_eq, wI_eq, wB_eq, wT_eq, wN_eq, wV_eq, wG_eq, wO_eq, wL_eq, wLen_eq, wPut_eq, wC_eq, wOb_eq, wIns_eq] at *; first | exact v_s_Pass .. | (apply v_s_Pass <;> assumption)
theorem s_Break : wS (sBreak ρ) ⟨N, rt, bk, ct, ex⟩ = bk ρ := by simp only [wE_eq, wS_eq, wF_eq, wD_eq, wI_eq, wB_eq, wT_eq, wN_eq, wV_eq, wG_eq, wO_eq, wL_eq, wLen_eq, wPut_eq, wC_eq, wOb_eq, wIns_eq] at *; first | exact v_s_Break .. | (apply v_s_Break <;> assumption)
theorem s_Cont : wS (sCont ρ) ⟨N, rt, bk, ct, ex⟩ = ct ρ := by simp only [wE_eq, wS_eq, wF_eq, wD_eq, wI_eq, wB_eq, wT_eq, wN_eq, wV_eq, wG_eq, wO_eq, wL_eq, wLen_eq, wPut_eq, wC_eq, wOb_eq, wIns_eq] at *; first | exact v_s_Cont .. | (apply v_s_Cont <;> assumption)
theorem s_Bad : wS (sBad ρ) ⟨N, rt, bk, ct, ex⟩ = False := by simp only [wE_eq, wS_eq, wF_eq, wD_eq, wI_eq, wB_eq, wT_eq, wN_eq, wV_eq, wG_eq, wO_eq, wL_eq, wLen_eq, wPut_eq, wC_eq, wOb_eq, wIns_eq] at *; first | exact v_s_Bad .. | (apply v_s_Bad <;> assumption)
theorem s_Expr (a : ME) : wS (sExpr a ρ) ⟨N, rt, bk, ct, ex⟩ = wE (a ρ) (fun _ ρ1 => N ρ1) ex := by simp only [wE_eq, wS_eq, wF_eq, wD_eq, wI_eq, wB_eq, wT_eq, wN_eq, wV_eq, wG_eq, wO_eq, wL_eq, wLen_eq, wPut_eq, wC_eq, wOb_eq, wIns_eq] at *; first | exact v_s_Expr .. | (apply v_s_Expr <;> assumption)
theorem s_Ret (a : MO) : wS (sRet a ρ) ⟨N, rt, bk, ct, ex⟩ = wE (a ρ) (fun o ρ1 => rt o ρ1.w) ex := by simp only [wE_eq, wS_eq, wF_eq, wD_eq, wI_eq, wB_eq, wT_eq, wN_eq, wV_eq, wG_eq, wO_eq, wL_eq, wLen_eq, wPut_eq, wC_eq, wOb_eq, wIns_eq] at *; first | exact v_s_Ret .. | (apply v_s_Ret <;> assumption)
theorem s_RetN : wS (sRetN ρ) ⟨N, rt, bk, ct, ex⟩ = rt (.fz .non) ρ.w := by simp only [wE_eq, wS_eq, wF_eq, wD_eq, wI_eq, wB_eq, wT_eq, wN_eq, wV_eq, wG_eq, wO_eq, wL_eq, wLen_eq, wPut_eq, wC_eq, wOb_eq, wIns_eq] at *; first | exact v_s_RetN .. | (apply v_s_RetN <;> assumption)
theorem s_Seq (a b : MS) : wS (sSeq a b ρ) ⟨N, rt, bk, ct, ex⟩ = wS (a ρ) ⟨fun ρ1 => wS (b ρ1) ⟨N, rt, bk, ct, ex⟩, rt, bk, ct, ex⟩ := by simp only [wE_eq, wS_eq, wF_eq, wD_eq, wI_eq, wB_eq, wT_eq, wN_eq, wV_eq, wG_eq, wO_eq, wL_eq, wLen_eq, wPut_eq, wC_eq, wOb_eq, wIns_eq] at *; first | exact v_s_Seq .. | (apply v_s_Seq <;> assumption)
theorem s_If (t : MT) (a b : MS) : wS (sIf t a b ρ) ⟨N, rt, bk, ct, ex⟩ = wE (t ρ) (fun k ρ1 => wI k (wS (a ρ1) ⟨N, rt, bk, ct, ex⟩) (wS (b ρ1) ⟨N, rt, bk, ct, ex⟩)) ex := by simp only [wE_eq, wS_eq, wF_eq, wD_eq, wI_eq, wB_eq, wT_eq, wN_eq, wV_eq, wG_eq, wO_eq, wL_eq, wLen_eq, wPut_eq, wC_eq, wOb_eq, wIns_eq] at *; first | exact v_s_If .. | (apply v_s_If <;> assumption)
theorem wPut_of {i n : Nat} (h : i < n) (A : Prop) : wPut i n A = A := by simp only [wE_eq, wS_eq, wF_eq, wD_eq, wI_eq, wB_eq, wT_eq, wN_eq, wV_eq, wG_eq, wO_eq, wL_eq, wLen_eq, wPut_eq, wC_eq, wOb_eq, wIns_eq] at *; first | exact v_wPut_of .. | (apply v_wPut_of <;> assumption)
theorem s_Set (i : Nat) (a : MO) : wS (sSet i a ρ) ⟨N, rt, bk, ct, ex⟩ = wE (a ρ) (fun o ρ1 => wPut i ρ1.env.length (N ⟨ρ1.env.set i (some o), ρ1.w⟩)) ex := by simp only [wE_eq, wS_eq, wF_eq, wD_eq, wI_eq, wB_eq, wT_eq, wN_eq, wV_eq, wG_eq, wO_eq, wL_eq, wLen_eq, wPut_eq, wC_eq, wOb_eq, wIns_eq] at *; first | exact v_s_Set .. | (apply v_s_Set <;> assumption)
theorem s_Asg (g : MG) (a : ME) : wS (sAsg g a ρ) ⟨N, rt, bk, ct, ex⟩ = wE (a ρ) (fun d ρ1 => wD (g d ρ1) N) ex := by simp only [wE_eq, wS_eq, wF_eq, wD_eq, wI_eq, wB_eq, wT_eq, wN_eq, wV_eq, wG_eq, wO_eq, wL_eq, wLen_eq, wPut_eq, wC_eq, wOb_eq, wIns_eq] at *; first | exact v_s_Asg .. | (apply v_s_Asg <;> assumption)
theorem s_Par (i j : Nat) (a b : ME) : wS (sPar i j a b ρ) ⟨N, rt, bk, ct, ex⟩ = wE (a ρ) (fun x ρ1 => wE (b ρ1) (fun y ρ2 => (i < ρ2.env.length ∧ j < ρ2.env.length ∧ i ≠ j) ∧ N ⟨(ρ2.env.set i (some (.fz x))).set j (some (.fz y)), ρ2.w⟩) ex) ex := by simp only [wE_eq, wS_eq, wF_eq, wD_eq, wI_eq, wB_eq, wT_eq, wN_eq, wV_eq, wG_eq, wO_eq, wL_eq, wLen_eq, wPut_eq, wC_eq, wOb_eq, wIns_eq] at *; first | exact v_s_Par .. | (apply v_s_Par <;> assumption)
theorem s_Aug (f : D → D → Option D) (i : Nat) (a : ME) : wS (sAug f i a ρ) ⟨N, rt, bk, ct, ex⟩ = wO ρ.env[i]? fun o => wD (asF o) fun d => wE (a ρ) (fun y ρ1 => wD (f d y) fun z => wPut i ρ1.env.length (N ⟨ρ1.env.set i (some (.fz z)), ρ1.w⟩)) ex := by simp only [wE_eq, wS_eq, wF_eq, wD_eq, wI_eq, wB_eq, wT_eq, wN_eq, wV_eq, wG_eq, wO_eq, wL_eq, wLen_eq, wPut_eq, wC_eq, wOb_eq, wIns_eq] at *; first | exact v_s_Aug .. | (apply v_s_Aug <;> assumption)
theorem s_Raise (x : String) : wS (sRaise x ρ) ⟨N, rt, bk, ct, ex⟩ = ex ⟨x, []⟩ ρ := by simp only [wE_eq, wS_eq, wF_eq, wD_eq, wI_eq, wB_eq, wT_eq, wN_eq, wV_eq, wG_eq, wO_eq, wL_eq, wLen_eq, wPut_eq, wC_eq, wOb_eq, wIns_eq] at *; first | exact v_s_Raise .. | (apply v_s_Raise <;> assumption)
theorem s_RaiseF (x f : String) (a : ME) : wS (sRaiseF x f a ρ) ⟨N, rt, bk, ct, ex⟩ = wE (a ρ) (fun d ρ1 => ex ⟨x, [(f, d)]⟩ ρ1) ex := by simp only [wE_eq, wS_eq, wF_eq, wD_eq, wI_eq, wB_eq, wT_eq, wN_eq, wV_eq, wG_eq, wO_eq, wL_eq, wLen_eq, wPut_eq, wC_eq, wOb_eq, wIns_eq] at *; first | exact v_s_RaiseF .. | (apply v_s_RaiseF <;> assumption)
theorem s_App (i : Nat) (a : MO) : wS (sApp i a ρ) ⟨N, rt, bk, ct, ex⟩ = wL ρ.env[i]? fun _ => wE (a ρ) (fun o ρ1 => wL ρ1.env[i]? fun os => wPut os.length 16777216 (N ⟨ρ1.env.set i (some (.lst (os ++ [o]))), ρ1.w⟩)) ex := by simp only [wE_eq, wS_eq, wF_eq, wD_eq, wI_eq, wB_eq, wT_eq, wN_eq, wV_eq, wG_eq, wO_eq, wL_eq, wLen_eq, wPut_eq, wC_eq, wOb_eq, wIns_eq] at *; first | exact v_s_App .. | (apply v_s_App <;> assumption)
theorem s_StoL (i : Nat) (k a : ME) : wS (sStoL i k a ρ) ⟨N, rt, bk, ct, ex⟩ = wE (a ρ) (fun d ρ1 => wO ρ1.env[i]? fun _ => wE (k ρ1) (fun y ρ2 => wL ρ2.env[i]? fun os => wN y fun z => wD (ixn os.length z) fun j => N ⟨ρ2.env.set i (some (.lst (os.set j (.fz d)))), ρ2.w⟩) ex) ex := by simp only [wE_eq, wS_eq, wF_eq, wD_eq, wI_eq, wB_eq, wT_eq, wN_eq, wV_eq, wG_eq, wO_eq, wL_eq, wLen_eq, wPut_eq, wC_eq, wOb_eq, wIns_eq] at *; first | exact v_s_StoL .. | (apply v_s_StoL <;> assumption)
theorem s_StoW (o k a : ME) : wS (sStoW o k a ρ) ⟨N, rt, bk, ct, ex⟩ = wE (a ρ) (fun d ρ1 => wE (o ρ1) (fun x ρ2 => wE (k ρ2) (fun y ρ3 => wD (stoW ρ3.w x y d) fun w => N ⟨ρ3.env, w⟩) ex) ex) ex := by simp only [wE_eq, wS_eq, wF_eq, wD_eq, wI_eq, wB_eq, wT_eq, wN_eq, wV_eq, wG_eq, wO_eq, wL_eq, wLen_eq, wPut_eq, wC_eq, wOb_eq, wIns_eq] at *; first | exact v_s_StoW .. | (apply v_s_StoW <;> assumption)
theorem s_Fld (cs : List String) (a : ME) (f : String) (v : MO) : wS (sFld cs a f v ρ) ⟨N, rt, bk, ct, ex⟩ = wE (v ρ) (fun o ρ1 => wE (a ρ1) (fun x ρ2 => wD (stF cs f o ρ2.w x) fun w => N ⟨ρ2.env, w⟩) ex) ex := by simp only [wE_eq, wS_eq, wF_eq, wD_eq, wI_eq, wB_eq, wT_eq, wN_eq, wV_eq, wG_eq, wO_eq, wL_eq, wLen_eq, wPut_eq, wC_eq, wOb_eq, wIns_eq] at *; first | exact v_s_Fld .. | (apply v_s_Fld <;> assumption)
theorem s_For (it : MI) (g : MG) (b : MS) : wS (sFor it g b ρ) ⟨N, rt, bk, ct, ex⟩ = wE (it ρ) (fun ds ρ1 => wS (forL g b ds ρ1) ⟨N, rt, bk, ct, ex⟩) ex := by simp only [wE_eq, wS_eq, wF_eq, wD_eq, wI_eq, wB_eq, wT_eq, wN_eq, wV_eq, wG_eq, wO_eq, wL_eq, wLen_eq, wPut_eq, wC_eq, wOb_eq, wIns_eq] at *; first | exact v_s_For .. | (apply v_s_For <;> assumption)
theorem s_While (n : Nat) (t : MT) (b : MS) : wS (sWhile n t b ρ) ⟨N, rt, bk, ct, ex⟩ = wS (whileL t b n ρ) ⟨N, rt, bk, ct, ex⟩ := by simp only [wE_eq, wS_eq, wF_eq, wD_eq, wI_eq, wB_eq, wT_eq, wN_eq, wV_eq, wG_eq, wO_eq, wL_eq, wLen_eq, wPut_eq, wC_eq, wOb_eq, wIns_eq] at *; first | exact v_s_While .. | (apply v_s_While <;> assumption)
theorem s_Try (b : MS) (hs : List ((String → Option Bool) × (Exc → MS))) : wS (sTry b hs ρ) ⟨N, rt, bk, ct, ex⟩ = wS (b ρ) ⟨N, rt, bk, ct, fun x ρ1 => wS (hds hs x ρ1) ⟨N, rt, bk, ct, ex⟩⟩ := by simp only [wE_eq, wS_eq, wF_eq, wD_eq, wI_eq, wB_eq, wT_eq, wN_eq, wV_eq, wG_eq, wO_eq, wL_eq, wLen_eq, wPut_eq, wC_eq, wOb_eq, wIns_eq] at *; first | exact v_s_Try .. | (apply v_s_Try <;> assumption)
theorem s_noX (o : Out) : wS (noXS o) ⟨N, rt, bk, ct, ex⟩ = wS o ⟨N, rt, bk, ct, fun _ _ => False⟩ := by simp only [wE_eq, wS_eq, wF_eq, wD_eq, wI_eq, wB_eq, wT_eq, wN_eq, wV_eq, wG_eq, wO_eq, wL_eq, wLen_eq, wPut_eq, wC_eq, wOb_eq, wIns_eq] at *; first | exact v_s_noX .. | (apply v_s_noX <;> assumption)
theorem s_off (i : Nat) (o : Out) : wS (offS i o) ⟨N, rt, bk, ct, ex⟩ = wS o ⟨fun ρ => N ⟨ρ.env.set i none, ρ.w⟩, rt, fun ρ => bk ⟨ρ.env.set i none, ρ.w⟩, fun ρ => ct ⟨ρ.env.set i none, ρ.w⟩, ex⟩ := by simp only [wE_eq, wS_eq, wF_eq, wD_eq, wI_eq, wB_eq, wT_eq, wN_eq, wV_eq, wG_eq, wO_eq, wL_eq, wLen_eq, wPut_eq, wC_eq, wOb_eq, wIns_eq] at *; first | exact v_s_off .. | (apply v_s_off <;> assumption)
theorem s_hds0 (x : Exc) : wS (hds [] x ρ) ⟨N, rt, bk, ct, ex⟩ = ex x ρ := by simp only [wE_eq, wS_eq, wF_eq, wD_eq, wI_eq, wB_eq, wT_eq, wN_eq, wV_eq, wG_eq, wO_eq, wL_eq, wLen_eq, wPut_eq, wC_eq, wOb_eq, wIns_eq] at *; first | exact v_s_hds0 .. | (apply v_s_hds0 <;> assumption)
theorem s_hds (g : String → Option Bool) (h : Exc → MS) (r : List ((String → Option Bool) × (Exc → MS))) (x : Exc) : wS (hds ((g, h) :: r) x ρ) ⟨N, rt, bk, ct, ex⟩ = wD (g x.cls) fun k => wI k (wS (h x ρ) ⟨N, rt, bk, ct, fun _ _ => False⟩) (wS (hds r x ρ) ⟨N, rt, bk, ct, ex⟩) := by simp only [wE_eq, wS_eq, wF_eq, wD_eq, wI_eq, wB_eq, wT_eq, wN_eq, wV_eq, wG_eq, wO_eq, wL_eq, wLen_eq, wPut_eq, wC_eq, wOb_eq, wIns_eq] at *; first | exact v_s_hds .. | (apply v_s_hds <;> assumption)
theorem s_TryAs (i : Nat) (b : MS) (g : String → Option Bool) (h : Exc → MS) : wS (sTryAs i b g h ρ) ⟨N, rt, bk, ct, ex⟩ = wS (b ρ) ⟨N, rt, bk, ct, fun x ρ1 => wD (g x.cls) fun k => wI k (wS (h x ⟨ρ1.env.set i none, ρ1.w⟩) ⟨fun ρ => N ⟨ρ.env.set i none, ρ.w⟩, rt, fun ρ => bk ⟨ρ.env.set i none, ρ.w⟩, fun ρ => ct ⟨ρ.env.set i none, ρ.w⟩, fun _ _ => False⟩) (ex x ρ1)⟩ := by simp only [wE_eq, wS_eq, wF_eq, wD_eq, wI_eq, wB_eq, wT_eq, wN_eq, wV_eq, wG_eq, wO_eq, wL_eq, wLen_eq, wPut_eq, wC_eq, wOb_eq, wIns_eq] at *; first | exact v_s_TryAs .. | (apply v_s_TryAs <;> assumption)
theorem f_fnM {k n : Nat} (b : MS) (ds : List D) (w : W) {Q : O → W → Prop} {X : Exc → W → Prop} (h : ds.length = k) : wF (fnM k n b ds w) Q X = wS (b ⟨ds.map (fun d => some (.fz d)) ++ List.replicate (n - k) none, w⟩) ⟨fun ρ => Q (.fz .non) ρ.w, Q, fun _ => False, fun _ => False, fun x ρ => X x ρ.w⟩ := by simp only [wE_eq, wS_eq, wF_eq, wD_eq, wI_eq, wB_eq, wT_eq, wN_eq, wV_eq, wG_eq, wO_eq, wL_eq, wLen_eq, wPut_eq, wC_eq, wOb_eq, wIns_eq] at *; first | exact v_f_fnM .. | (apply v_f_fnM <;> assumption)
theorem of_fnM {k n : Nat} {b : MS} {ds : List D} {w : W} {Q : O → W → Prop} {X : Exc → W → Prop} (q : wS (b ⟨ds.map (fun d => some (.fz d)) ++ List.replicate (n - k) none, w⟩) ⟨fun ρ => Q (.fz .non) ρ.w, Q, fun _ => False, fun _ => False, fun x ρ => X x ρ.w⟩) (h : ds.length = k) : wF (fnM k n b ds w) Q X := by simp only [wE_eq, wS_eq, wF_eq, wD_eq, wI_eq, wB_eq, wT_eq, wN_eq, wV_eq, wG_eq, wO_eq, wL_eq, wLen_eq, wPut_eq, wC_eq, wOb_eq, wIns_eq] at *; first | exact v_of_fnM .. | (apply v_of_fnM <;> assumption)
theorem wF_ok (o : O) (w : W) {Q : O → W → Prop} {X : Exc → W → Prop} : wF (.ok o w) Q X = Q o w := by simp only [wE_eq, wS_eq, wF_eq, wD_eq, wI_eq, wB_eq, wT_eq, wN_eq, wV_eq, wG_eq, wO_eq, wL_eq, wLen_eq, wPut_eq, wC_eq, wOb_eq, wIns_eq] at *; first | exact v_wF_ok .. | (apply v_wF_ok <;> assumption)
theorem wF_exc (x : Exc) (w : W) {Q : O → W → Prop} {X : Exc → W → Prop} : wF (.exc x w) Q X = X x w := by simp only [wE_eq, wS_eq, wF_eq, wD_eq, wI_eq, wB_eq, wT_eq, wN_eq, wV_eq, wG_eq, wO_eq, wL_eq, wLen_eq, wPut_eq, wC_eq, wOb_eq, wIns_eq] at *; first | exact v_wF_exc .. | (apply v_wF_exc <;> assumption)
theorem wF.mono {r : FRes} {Q Q' : O → W → Prop} {X : Exc → W → Prop} (h : wF r Q FX) (k : ∀ o w, Q o w → Q' o w) : wF r Q' X := by simp only [wE_eq, wS_eq, wF_eq, wD_eq, wI_eq, wB_eq, wT_eq, wN_eq, wV_eq, wG_eq, wO_eq, wL_eq, wLen_eq, wPut_eq, wC_eq, wOb_eq, wIns_eq] at *; first | exact vF.mono .. | (apply vF.mono <;> assumption)
theorem wF.monoX {r : FRes} {Q Q' : O → W → Prop} {X X' : Exc → W → Prop} (h : wF r Q X) (k : ∀ o w, Q o w → Q' o w) (k2 : ∀ x w, X x w → X' x w) : wF r Q' X' := by simp only [wE_eq, wS_eq, wF_eq, wD_eq, wI_eq, wB_eq, wT_eq, wN_eq, wV_eq, wG_eq, wO_eq, wL_eq, wLen_eq, wPut_eq, wC_eq, wOb_eq, wIns_eq] at *; first | exact vF.monoX .. | (apply vF.monoX <;> assumption)
theorem wF.exi {r : FRes} {Q : O → W → Prop} (h : wF r Q FX) : ∃ o w, r = .ok o w ∧ Q o w := by simp only [wE_eq, wS_eq, wF_eq, wD_eq, wI_eq, wB_eq, wT_eq, wN_eq, wV_eq, wG_eq, wO_eq, wL_eq, wLen_eq, wPut_eq, wC_eq, wOb_eq, wIns_eq] at *; first | exact vF.exi .. | (apply vF.exi <;> assumption)
theorem wF.of {r : FRes} {Q : O → W → Prop} {X : Exc → W → Prop} {o : O} {w : W} (e : r = .ok o w) (h : Q o w) : wF r Q X := by simp only [wE_eq, wS_eq, wF_eq, wD_eq, wI_eq, wB_eq, wT_eq, wN_eq, wV_eq, wG_eq, wO_eq, wL_eq, wLen_eq, wPut_eq, wC_eq, wOb_eq, wIns_eq] at *; first | exact vF.of .. | (apply vF.of <;> assumption)
theorem wS.mono {o : Out} {D1 D2 : En} (h : wS o D1) (h1 : ∀ ρ, D1.nx ρ → D2.nx ρ) (h2 : ∀ o w, D1.rt o w → D2.rt o w) (h3 : ∀ ρ, D1.bk ρ → D2.bk ρ) (h4 : ∀ ρ, D1.ct ρ → D2.ct ρ) (h5 : ∀ x ρ, D1.ex x ρ → D2.ex x ρ) : wS o D2 := by simp only [wE_eq, wS_eq, wF_eq, wD_eq, wI_eq, wB_eq, wT_eq, wN_eq, wV_eq, wG_eq, wO_eq, wL_eq, wLen_eq, wPut_eq, wC_eq, wOb_eq, wIns_eq] at *; first | exact vS.mono .. | (apply vS.mono <;> assumption)
theorem wE.mono {r : Res α} {Q Q' : α → PSt → Prop} {X X' : Exc → PSt → Prop} (h : wE r Q X) (k : ∀ a ρ, Q a ρ → Q' a ρ) (k2 : ∀ x ρ, X x ρ → X' x ρ) : wE r Q' X' := by simp only [wE_eq, wS_eq, wF_eq, wD_eq, wI_eq, wB_eq, wT_eq, wN_eq, wV_eq, wG_eq, wO_eq, wL_eq, wLen_eq, wPut_eq, wC_eq, wOb_eq, wIns_eq] at *; first | exact vE.mono .. | (apply vE.mono <;> assumption)
theorem seq_cut {a b : MS} (J : PSt → Prop) (h : wS (a ρ) ⟨J, rt, bk, ct, ex⟩) (k : ∀ ρ1, J ρ1 → wS (b ρ1) ⟨N, rt, bk, ct, ex⟩) : wS (sSeq a b ρ) ⟨N, rt, bk, ct, ex⟩ := by simp only [wE_eq, wS_eq, wF_eq, wD_eq, wI_eq, wB_eq, wT_eq, wN_eq, wV_eq, wG_eq, wO_eq, wL_eq, wLen_eq, wPut_eq, wC_eq, wOb_eq, wIns_eq] at *; first | exact v_seq_cut .. | (apply v_seq_cut <;> assumption)
theorem wI_intro {k : Bool} {A B : Prop} (h1 : k = true → A) (h2 : k = false → B) : wI k A B := by simp only [wE_eq, wS_eq, wF_eq, wD_eq, wI_eq, wB_eq, wT_eq, wN_eq, wV_eq, wG_eq, wO_eq, wL_eq, wLen_eq, wPut_eq, wC_eq, wOb_eq, wIns_eq] at *; first | exact v_wI_intro .. | (apply v_wI_intro <;> assumption)
theorem wI_dec {p : Prop} [Decidable p] {A B : Prop} (h1 : p → A) (h2 : ¬ p → B) : wI (decide p) A B := by simp only [wE_eq, wS_eq, wF_eq, wD_eq, wI_eq, wB_eq, wT_eq, wN_eq, wV_eq, wG_eq, wO_eq, wL_eq, wLen_eq, wPut_eq, wC_eq, wOb_eq, wIns_eq] at *; first | exact v_wI_dec .. | (apply v_wI_dec <;> assumption)
theorem for_inv {g : MG} {b : MS} {ds : List D} (Inv : List D → PSt → Prop) (h0 : Inv [] ρ)
    (step : ∀ pre d post ρ, ds = pre ++ d :: post → Inv pre ρ → wD (g d ρ) fun ρ1 => wS (b ρ1) ⟨Inv (pre ++ [d]), rt, N, Inv (pre ++ [d]), ex⟩)
    (hend : ∀ ρ, Inv ds ρ → N ρ) : wS (forL g b ds ρ) ⟨N, rt, bk, ct, ex⟩ := by simp only [wE_eq, wS_eq, wF_eq, wD_eq, wI_eq, wB_eq, wT_eq, wN_eq, wV_eq, wG_eq, wO_eq, wL_eq, wLen_eq, wPut_eq, wC_eq, wOb_eq, wIns_eq] at *; first | exact v_for_inv .. | (apply v_for_inv <;> assumption)
theorem for_map {γ : Type} {g : MG} {b : MS} {f : γ → D} {cs : List γ} (Inv : List γ → PSt → Prop) (h0 : Inv [] ρ)
    (step : ∀ pre c post ρ, cs = pre ++ c :: post → Inv pre ρ → wD (g (f c) ρ) fun ρ1 => wS (b ρ1) ⟨Inv (pre ++ [c]), rt, N, Inv (pre ++ [c]), ex⟩)
    (hend : ∀ ρ, Inv cs ρ → N ρ) : wS (forL g b (cs.map f) ρ) ⟨N, rt, bk, ct, ex⟩ := by simp only [wE_eq, wS_eq, wF_eq, wD_eq, wI_eq, wB_eq, wT_eq, wN_eq, wV_eq, wG_eq, wO_eq, wL_eq, wLen_eq, wPut_eq, wC_eq, wOb_eq, wIns_eq] at *; first | exact v_for_map .. | (apply v_for_map <;> assumption)
theorem for_rng {g : MG} {b : MS} {lo : Int} {n : Nat} (Inv : Nat → PSt → Prop) (h0 : Inv 0 ρ)
    (step : ∀ k ρ, k < n → Inv k ρ → wD (g (.int (lo + (k : Nat))) ρ) fun ρ1 => wS (b ρ1) ⟨Inv (k + 1), rt, N, Inv (k + 1), ex⟩)
    (hend : ∀ ρ, Inv n ρ → N ρ) : wS (forL g b (rgI lo n) ρ) ⟨N, rt, bk, ct, ex⟩ := by simp only [wE_eq, wS_eq, wF_eq, wD_eq, wI_eq, wB_eq, wT_eq, wN_eq, wV_eq, wG_eq, wO_eq, wL_eq, wLen_eq, wPut_eq, wC_eq, wOb_eq, wIns_eq] at *; first | exact v_for_rng .. | (apply v_for_rng <;> assumption)
theorem while_inv {t : MT} {b : MS} {n : Nat} (Inv : Nat → PSt → Prop) (m : Nat) (hm : m < n) (h0 : Inv m ρ)
    (step : ∀ m ρ, Inv m ρ → wE (t ρ) (fun k ρ1 => wI k (wS (b ρ1) ⟨fun ρ2 => ∃ m', m' < m ∧ Inv m' ρ2, rt, N, fun ρ2 => ∃ m', m' < m ∧ Inv m' ρ2, ex⟩) (N ρ1)) ex) :
    wS (whileL t b n ρ) ⟨N, rt, bk, ct, ex⟩ := by simp only [wE_eq, wS_eq, wF_eq, wD_eq, wI_eq, wB_eq, wT_eq, wN_eq, wV_eq, wG_eq, wO_eq, wL_eq, wLen_eq, wPut_eq, wC_eq, wOb_eq, wIns_eq] at *; first | exact v_while_inv .. | (apply v_while_inv <;> assumption)
theorem lc_inv {own : List Nat} {g : MG} {t : MT} {e : ME} {γ : Type} {f : γ → D} {cs : List γ} {Q : List D → PSt → Prop} (hl : cs.length ≤ 16777216) (Inv : List γ → List D → PSt → Prop) (h0 : Inv [] [] ρ)
    (step : ∀ pre c post acc ρ, cs = pre ++ c :: post → Inv pre acc ρ → wD (g (f c) ⟨wipeE own ρ.env, ρ.w⟩) fun ρ1 => wE (t ρ1) (fun k ρ2 => wI k (wE (e ρ2) (fun y ρ3 => Inv (pre ++ [c]) (acc ++ [y]) ρ3) PX) (Inv (pre ++ [c]) acc ρ2)) PX)
    (hend : ∀ acc ρ, Inv cs acc ρ → Q acc ρ) : wE (lcL own g t e (cs.map f) [] ρ) Q X := by simp only [wE_eq, wS_eq, wF_eq, wD_eq, wI_eq, wB_eq, wT_eq, wN_eq, wV_eq, wG_eq, wO_eq, wL_eq, wLen_eq, wPut_eq, wC_eq, wOb_eq, wIns_eq] at *; first | exact v_lc_inv .. | (apply v_lc_inv <;> assumption)
end
theorem wIns_of (C : String) (fs : List (String × O)) {P : String → List (String × O) → Prop} : wIns (some (.ins C fs)) P = P C fs := by simp only [wIns_eq]; exact v_wIns_of ..
theorem d_stF (cs : List String) (f : String) (o : O) (w : W) (n : Nat) {N : W → Prop} : wD (stF cs f o w (.obj n)) N = wIns w[n]? (fun C fs => wC (C ∈ cs ∧ fs.length < 1000) (N (w.set n (.ins C (putO f o fs))))) := by simp only [wD_eq, wIns_eq, wC_eq]; exact v_d_stF ..
theorem wOb_lst (os : List O) {P : List O → Prop} : wOb (some (.lst os)) P = P os := by simp only [wE_eq, wS_eq, wF_eq, wD_eq, wI_eq, wB_eq, wT_eq, wN_eq, wV_eq, wG_eq, wO_eq, wL_eq, wLen_eq, wPut_eq, wC_eq, wOb_eq, wIns_eq] at *; first | exact v_wOb_lst .. | (apply v_wOb_lst <;> assumption)
theorem wC_of {c : Prop} (h : c) (A : Prop) : wC c A = A := by simp only [wE_eq, wS_eq, wF_eq, wD_eq, wI_eq, wB_eq, wT_eq, wN_eq, wV_eq, wG_eq, wO_eq, wL_eq, wLen_eq, wPut_eq, wC_eq, wOb_eq, wIns_eq] at *; first | exact v_wC_of .. | (apply v_wC_of <;> assumption)
theorem wC_true (A : Prop) : wC True A = A := by simp only [wE_eq, wS_eq, wF_eq, wD_eq, wI_eq, wB_eq, wT_eq, wN_eq, wV_eq, wG_eq, wO_eq, wL_eq, wLen_eq, wPut_eq, wC_eq, wOb_eq, wIns_eq] at *; first | exact v_wC_true .. | (apply v_wC_true <;> assumption)
theorem wD_ite {α : Type} {c : Prop} [Decidable c] {x : α} {Q : α → Prop} : wD (if c then some x else none) Q = wC c (Q x) := by simp only [wE_eq, wS_eq, wF_eq, wD_eq, wI_eq, wB_eq, wT_eq, wN_eq, wV_eq, wG_eq, wO_eq, wL_eq, wLen_eq, wPut_eq, wC_eq, wOb_eq, wIns_eq] at *; first | exact v_wD_ite .. | (apply v_wD_ite <;> assumption)
theorem wD_map {α β : Type} {f : α → β} {o : Option α} {Q : β → Prop} : wD (o.map f) Q = wD o (fun a => Q (f a)) := by simp only [wE_eq, wS_eq, wF_eq, wD_eq, wI_eq, wB_eq, wT_eq, wN_eq, wV_eq, wG_eq, wO_eq, wL_eq, wLen_eq, wPut_eq, wC_eq, wOb_eq, wIns_eq] at *; first | exact v_wD_map .. | (apply v_wD_map <;> assumption)
theorem wD_bind {α β : Type} {f : α → Option β} {o : Option α} {Q : β → Prop} : wD (o.bind f) Q = wD o (fun a => wD (f a) Q) := by simp only [wE_eq, wS_eq, wF_eq, wD_eq, wI_eq, wB_eq, wT_eq, wN_eq, wV_eq, wG_eq, wO_eq, wL_eq, wLen_eq, wPut_eq, wC_eq, wOb_eq, wIns_eq] at *; first | exact v_wD_bind .. | (apply v_wD_bind <;> assumption)
section
variable {Q : D → Prop} {Y : List D → Prop}
theorem d_addI (i j : Int) : wD (pAdd (.int i) (.int j)) Q = Q (.int (i + j)) := by simp only [wE_eq, wS_eq, wF_eq, wD_eq, wI_eq, wB_eq, wT_eq, wN_eq, wV_eq, wG_eq, wO_eq, wL_eq, wLen_eq, wPut_eq, wC_eq, wOb_eq, wIns_eq] at *; first | exact v_d_addI .. | (apply v_d_addI <;> assumption)
theorem d_addS (a b : Tx) : wD (pAdd (.str a) (.str b)) Q = wLen (a.length + b.length) (Q (.str (a ++ b))) := by simp only [wE_eq, wS_eq, wF_eq, wD_eq, wI_eq, wB_eq, wT_eq, wN_eq, wV_eq, wG_eq, wO_eq, wL_eq, wLen_eq, wPut_eq, wC_eq, wOb_eq, wIns_eq] at *; first | exact v_d_addS .. | (apply v_d_addS <;> assumption)
theorem d_addL (a b : List D) : wD (pAdd (.lst a) (.lst b)) Q = wLen (a.length + b.length) (Q (.lst (a ++ b))) := by simp only [wE_eq, wS_eq, wF_eq, wD_eq, wI_eq, wB_eq, wT_eq, wN_eq, wV_eq, wG_eq, wO_eq, wL_eq, wLen_eq, wPut_eq, wC_eq, wOb_eq, wIns_eq] at *; first | exact v_d_addL .. | (apply v_d_addL <;> assumption)
theorem d_addT (a b : List D) : wD (pAdd (.tup a) (.tup b)) Q = wLen (a.length + b.length) (Q (.tup (a ++ b))) := by simp only [wE_eq, wS_eq, wF_eq, wD_eq, wI_eq, wB_eq, wT_eq, wN_eq, wV_eq, wG_eq, wO_eq, wL_eq, wLen_eq, wPut_eq, wC_eq, wOb_eq, wIns_eq] at *; first | exact v_d_addT .. | (apply v_d_addT <;> assumption)
theorem d_addI' (i j : Int) : wD (pAddI (.int i) (.int j)) Q = Q (.int (i + j)) := by simp only [wE_eq, wS_eq, wF_eq, wD_eq, wI_eq, wB_eq, wT_eq, wN_eq, wV_eq, wG_eq, wO_eq, wL_eq, wLen_eq, wPut_eq, wC_eq, wOb_eq, wIns_eq] at *; first | exact v_d_addI' .. | (apply v_d_addI' <;> assumption)
theorem d_sub (i j : Int) : wD (pSub (.int i) (.int j)) Q = Q (.int (i - j)) := by simp only [wE_eq, wS_eq, wF_eq, wD_eq, wI_eq, wB_eq, wT_eq, wN_eq, wV_eq, wG_eq, wO_eq, wL_eq, wLen_eq, wPut_eq, wC_eq, wOb_eq, wIns_eq] at *; first | exact v_d_sub .. | (apply v_d_sub <;> assumption)
theorem d_mul (i j : Int) : wD (pMul (.int i) (.int j)) Q = wC (((-18446744073709551616 < i ∧ i < 18446744073709551616) ∨ (-18446744073709551616 < j ∧ j < 18446744073709551616)) ∨ ((-2582249878086908589655919172003011874329705792829223512830659356540647622016841194629645353280137831435903171972747493376 < i ∧ i < 2582249878086908589655919172003011874329705792829223512830659356540647622016841194629645353280137831435903171972747493376) ∧ (-2582249878086908589655919172003011874329705792829223512830659356540647622016841194629645353280137831435903171972747493376 < j ∧ j < 2582249878086908589655919172003011874329705792829223512830659356540647622016841194629645353280137831435903171972747493376))) (Q (.int (i * j))) := by simp only [wE_eq, wS_eq, wF_eq, wD_eq, wI_eq, wB_eq, wT_eq, wN_eq, wV_eq, wG_eq, wO_eq, wL_eq, wLen_eq, wPut_eq, wC_eq, wOb_eq, wIns_eq] at *; first | exact v_d_mul .. | (apply v_d_mul <;> assumption)
theorem d_mulS (a : Tx) (j : Int) : wD (pMul (.str a) (.int j)) Q = wC (j < 4611686018427387904 ∧ -4611686018427387904 ≤ j ∧ a.length * j.toNat ≤ 16777216) (Q (.str (List.replicate j.toNat a).flatten)) := by simp only [wE_eq, wS_eq, wF_eq, wD_eq, wI_eq, wB_eq, wT_eq, wN_eq, wV_eq, wG_eq, wO_eq, wL_eq, wLen_eq, wPut_eq, wC_eq, wOb_eq, wIns_eq] at *; first | exact v_d_mulS .. | (apply v_d_mulS <;> assumption)
theorem d_mulL (a : List D) (j : Int) : wD (pMul (.lst a) (.int j)) Q = wC (j < 4611686018427387904 ∧ -4611686018427387904 ≤ j ∧ a.length * j.toNat ≤ 16777216) (Q (.lst (List.replicate j.toNat a).flatten)) := by simp only [wE_eq, wS_eq, wF_eq, wD_eq, wI_eq, wB_eq, wT_eq, wN_eq, wV_eq, wG_eq, wO_eq, wL_eq, wLen_eq, wPut_eq, wC_eq, wOb_eq, wIns_eq] at *; first | exact v_d_mulL .. | (apply v_d_mulL <;> assumption)
theorem d_fdiv (i j : Int) : wD (pFdiv (.int i) (.int j)) Q = wC (0 < j ∧ j < 1606938044258990275541962092341162602522202993782792835301376) (Q (.int (i / j))) := by simp only [wE_eq, wS_eq, wF_eq, wD_eq, wI_eq, wB_eq, wT_eq, wN_eq, wV_eq, wG_eq, wO_eq, wL_eq, wLen_eq, wPut_eq, wC_eq, wOb_eq, wIns_eq] at *; first | exact v_d_fdiv .. | (apply v_d_fdiv <;> assumption)
theorem d_mod (i j : Int) : wD (pMod (.int i) (.int j)) Q = wC (0 < j) (Q (.int (i % j))) := by simp only [wE_eq, wS_eq, wF_eq, wD_eq, wI_eq, wB_eq, wT_eq, wN_eq, wV_eq, wG_eq, wO_eq, wL_eq, wLen_eq, wPut_eq, wC_eq, wOb_eq, wIns_eq] at *; first | exact v_d_mod .. | (apply v_d_mod <;> assumption)
theorem d_pow (i j : Int) : wD (pPow (.int i) (.int j)) Q = wC (0 ≤ j ∧ j ≤ 1000 ∧ -18446744073709551616 < i ∧ i < 18446744073709551616) (Q (.int (i ^ j.toNat))) := by simp only [wE_eq, wS_eq, wF_eq, wD_eq, wI_eq, wB_eq, wT_eq, wN_eq, wV_eq, wG_eq, wO_eq, wL_eq, wLen_eq, wPut_eq, wC_eq, wOb_eq, wIns_eq] at *; first | exact v_d_pow .. | (apply v_d_pow <;> assumption)
theorem d_neg (i : Int) : wD (pNeg (.int i)) Q = Q (.int (-i)) := by simp only [wE_eq, wS_eq, wF_eq, wD_eq, wI_eq, wB_eq, wT_eq, wN_eq, wV_eq, wG_eq, wO_eq, wL_eq, wLen_eq, wPut_eq, wC_eq, wOb_eq, wIns_eq] at *; first | exact v_d_neg .. | (apply v_d_neg <;> assumption)
theorem d_eqI (i j : Int) : wD (pEq (.int i) (.int j)) Q = Q (.bl (decide (i = j))) := by simp only [wE_eq, wS_eq, wF_eq, wD_eq, wI_eq, wB_eq, wT_eq, wN_eq, wV_eq, wG_eq, wO_eq, wL_eq, wLen_eq, wPut_eq, wC_eq, wOb_eq, wIns_eq] at *; first | exact v_d_eqI .. | (apply v_d_eqI <;> assumption)
theorem d_eqS (i j : Tx) : wD (pEq (.str i) (.str j)) Q = Q (.bl (decide (i = j))) := by simp only [wE_eq, wS_eq, wF_eq, wD_eq, wI_eq, wB_eq, wT_eq, wN_eq, wV_eq, wG_eq, wO_eq, wL_eq, wLen_eq, wPut_eq, wC_eq, wOb_eq, wIns_eq] at *; first | exact v_d_eqS .. | (apply v_d_eqS <;> assumption)
theorem d_eqB (i j : Bool) : wD (pEq (.bl i) (.bl j)) Q = Q (.bl (i == j)) := by simp only [wE_eq, wS_eq, wF_eq, wD_eq, wI_eq, wB_eq, wT_eq, wN_eq, wV_eq, wG_eq, wO_eq, wL_eq, wLen_eq, wPut_eq, wC_eq, wOb_eq, wIns_eq] at *; first | exact v_d_eqB .. | (apply v_d_eqB <;> assumption)
theorem d_eq (x y : D) : wD (pEq x y) Q = wC (dat x = true ∧ dat y = true ∧ dep x ≤ 64 ∧ dep y ≤ 64) (Q (.bl (eqb x y))) := by simp only [wE_eq, wS_eq, wF_eq, wD_eq, wI_eq, wB_eq, wT_eq, wN_eq, wV_eq, wG_eq, wO_eq, wL_eq, wLen_eq, wPut_eq, wC_eq, wOb_eq, wIns_eq] at *; first | exact v_d_eq .. | (apply v_d_eq <;> assumption)
theorem d_neI (i j : Int) : wD (pNe (.int i) (.int j)) Q = Q (.bl (!decide (i = j))) := by simp only [wE_eq, wS_eq, wF_eq, wD_eq, wI_eq, wB_eq, wT_eq, wN_eq, wV_eq, wG_eq, wO_eq, wL_eq, wLen_eq, wPut_eq, wC_eq, wOb_eq, wIns_eq] at *; first | exact v_d_neI .. | (apply v_d_neI <;> assumption)
theorem d_neS (i j : Tx) : wD (pNe (.str i) (.str j)) Q = Q (.bl (!decide (i = j))) := by simp only [wE_eq, wS_eq, wF_eq, wD_eq, wI_eq, wB_eq, wT_eq, wN_eq, wV_eq, wG_eq, wO_eq, wL_eq, wLen_eq, wPut_eq, wC_eq, wOb_eq, wIns_eq] at *; first | exact v_d_neS .. | (apply v_d_neS <;> assumption)
theorem d_ne (x y : D) : wD (pNe x y) Q = wC (dat x = true ∧ dat y = true ∧ dep x ≤ 64 ∧ dep y ≤ 64) (Q (.bl (!eqb x y))) := by simp only [wE_eq, wS_eq, wF_eq, wD_eq, wI_eq, wB_eq, wT_eq, wN_eq, wV_eq, wG_eq, wO_eq, wL_eq, wLen_eq, wPut_eq, wC_eq, wOb_eq, wIns_eq] at *; first | exact v_d_ne .. | (apply v_d_ne <;> assumption)
theorem d_isN (x : D) : wD (pIs x .non) Q = Q (.bl (isNon x)) := by simp only [wE_eq, wS_eq, wF_eq, wD_eq, wI_eq, wB_eq, wT_eq, wN_eq, wV_eq, wG_eq, wO_eq, wL_eq, wLen_eq, wPut_eq, wC_eq, wOb_eq, wIns_eq] at *; first | exact v_d_isN .. | (apply v_d_isN <;> assumption)
theorem d_isB (x y : Bool) : wD (pIs (.bl x) (.bl y)) Q = Q (.bl (x == y)) := by simp only [wE_eq, wS_eq, wF_eq, wD_eq, wI_eq, wB_eq, wT_eq, wN_eq, wV_eq, wG_eq, wO_eq, wL_eq, wLen_eq, wPut_eq, wC_eq, wOb_eq, wIns_eq] at *; first | exact v_d_isB .. | (apply v_d_isB <;> assumption)
theorem d_isNotN (x : D) : wD (pIsNot x .non) Q = Q (.bl (!isNon x)) := by simp only [wE_eq, wS_eq, wF_eq, wD_eq, wI_eq, wB_eq, wT_eq, wN_eq, wV_eq, wG_eq, wO_eq, wL_eq, wLen_eq, wPut_eq, wC_eq, wOb_eq, wIns_eq] at *; first | exact v_d_isNotN .. | (apply v_d_isNotN <;> assumption)
theorem d_isNotB (x y : Bool) : wD (pIsNot (.bl x) (.bl y)) Q = Q (.bl (!(x == y))) := by simp only [wE_eq, wS_eq, wF_eq, wD_eq, wI_eq, wB_eq, wT_eq, wN_eq, wV_eq, wG_eq, wO_eq, wL_eq, wLen_eq, wPut_eq, wC_eq, wOb_eq, wIns_eq] at *; first | exact v_d_isNotB .. | (apply v_d_isNotB <;> assumption)
theorem d_lt (i j : Int) : wD (pLt (.int i) (.int j)) Q = Q (.bl (decide (i < j))) := by simp only [wE_eq, wS_eq, wF_eq, wD_eq, wI_eq, wB_eq, wT_eq, wN_eq, wV_eq, wG_eq, wO_eq, wL_eq, wLen_eq, wPut_eq, wC_eq, wOb_eq, wIns_eq] at *; first | exact v_d_lt .. | (apply v_d_lt <;> assumption)
theorem d_le (i j : Int) : wD (pLe (.int i) (.int j)) Q = Q (.bl (decide (i ≤ j))) := by simp only [wE_eq, wS_eq, wF_eq, wD_eq, wI_eq, wB_eq, wT_eq, wN_eq, wV_eq, wG_eq, wO_eq, wL_eq, wLen_eq, wPut_eq, wC_eq, wOb_eq, wIns_eq] at *; first | exact v_d_le .. | (apply v_d_le <;> assumption)
theorem d_gt (i j : Int) : wD (pGt (.int i) (.int j)) Q = Q (.bl (decide (j < i))) := by simp only [wE_eq, wS_eq, wF_eq, wD_eq, wI_eq, wB_eq, wT_eq, wN_eq, wV_eq, wG_eq, wO_eq, wL_eq, wLen_eq, wPut_eq, wC_eq, wOb_eq, wIns_eq] at *; first | exact v_d_gt .. | (apply v_d_gt <;> assumption)
theorem d_ge (i j : Int) : wD (pGe (.int i) (.int j)) Q = Q (.bl (decide (j ≤ i))) := by simp only [wE_eq, wS_eq, wF_eq, wD_eq, wI_eq, wB_eq, wT_eq, wN_eq, wV_eq, wG_eq, wO_eq, wL_eq, wLen_eq, wPut_eq, wC_eq, wOb_eq, wIns_eq] at *; first | exact v_d_ge .. | (apply v_d_ge <;> assumption)
theorem d_ltS (i j : Tx) : wD (pLt (.str i) (.str j)) Q = Q (.bl (decide (i < j))) := by simp only [wE_eq, wS_eq, wF_eq, wD_eq, wI_eq, wB_eq, wT_eq, wN_eq, wV_eq, wG_eq, wO_eq, wL_eq, wLen_eq, wPut_eq, wC_eq, wOb_eq, wIns_eq] at *; first | exact v_d_ltS .. | (apply v_d_ltS <;> assumption)
theorem d_leS (i j : Tx) : wD (pLe (.str i) (.str j)) Q = Q (.bl (!decide (j < i))) := by simp only [wE_eq, wS_eq, wF_eq, wD_eq, wI_eq, wB_eq, wT_eq, wN_eq, wV_eq, wG_eq, wO_eq, wL_eq, wLen_eq, wPut_eq, wC_eq, wOb_eq, wIns_eq] at *; first | exact v_d_leS .. | (apply v_d_leS <;> assumption)
theorem d_gtS (i j : Tx) : wD (pGt (.str i) (.str j)) Q = Q (.bl (decide (j < i))) := by simp only [wE_eq, wS_eq, wF_eq, wD_eq, wI_eq, wB_eq, wT_eq, wN_eq, wV_eq, wG_eq, wO_eq, wL_eq, wLen_eq, wPut_eq, wC_eq, wOb_eq, wIns_eq] at *; first | exact v_d_gtS .. | (apply v_d_gtS <;> assumption)
theorem d_geS (i j : Tx) : wD (pGe (.str i) (.str j)) Q = Q (.bl (!decide (i < j))) := by simp only [wE_eq, wS_eq, wF_eq, wD_eq, wI_eq, wB_eq, wT_eq, wN_eq, wV_eq, wG_eq, wO_eq, wL_eq, wLen_eq, wPut_eq, wC_eq, wOb_eq, wIns_eq] at *; first | exact v_d_geS .. | (apply v_d_geS <;> assumption)
theorem d_inS (c : Nat) (s : Tx) : wD (pIn (.str [c]) (.str s)) Q = Q (.bl (decide (c ∈ s))) := by simp only [wE_eq, wS_eq, wF_eq, wD_eq, wI_eq, wB_eq, wT_eq, wN_eq, wV_eq, wG_eq, wO_eq, wL_eq, wLen_eq, wPut_eq, wC_eq, wOb_eq, wIns_eq] at *; first | exact v_d_inS .. | (apply v_d_inS <;> assumption)
theorem d_ninS (c : Nat) (s : Tx) : wD (pNotIn (.str [c]) (.str s)) Q = Q (.bl (!decide (c ∈ s))) := by simp only [wE_eq, wS_eq, wF_eq, wD_eq, wI_eq, wB_eq, wT_eq, wN_eq, wV_eq, wG_eq, wO_eq, wL_eq, wLen_eq, wPut_eq, wC_eq, wOb_eq, wIns_eq] at *; first | exact v_d_ninS .. | (apply v_d_ninS <;> assumption)
theorem d_inIT (i : Int) (ns : List Int) : wD (pIn (.int i) (.tup (ns.map .int))) Q = Q (.bl (decide (i ∈ ns))) := by simp only [wE_eq, wS_eq, wF_eq, wD_eq, wI_eq, wB_eq, wT_eq, wN_eq, wV_eq, wG_eq, wO_eq, wL_eq, wLen_eq, wPut_eq, wC_eq, wOb_eq, wIns_eq] at *; first | exact v_d_inIT .. | (apply v_d_inIT <;> assumption)
theorem d_inIL (i : Int) (ns : List Int) : wD (pIn (.int i) (.lst (ns.map .int))) Q = Q (.bl (decide (i ∈ ns))) := by simp only [wE_eq, wS_eq, wF_eq, wD_eq, wI_eq, wB_eq, wT_eq, wN_eq, wV_eq, wG_eq, wO_eq, wL_eq, wLen_eq, wPut_eq, wC_eq, wOb_eq, wIns_eq] at *; first | exact v_d_inIL .. | (apply v_d_inIL <;> assumption)
theorem d_lenS (s : Tx) : wD (pLen (.str s)) Q = Q (.int s.length) := by simp only [wE_eq, wS_eq, wF_eq, wD_eq, wI_eq, wB_eq, wT_eq, wN_eq, wV_eq, wG_eq, wO_eq, wL_eq, wLen_eq, wPut_eq, wC_eq, wOb_eq, wIns_eq] at *; first | exact v_d_lenS .. | (apply v_d_lenS <;> assumption)
theorem d_lenL (s : List D) : wD (pLen (.lst s)) Q = Q (.int s.length) := by simp only [wE_eq, wS_eq, wF_eq, wD_eq, wI_eq, wB_eq, wT_eq, wN_eq, wV_eq, wG_eq, wO_eq, wL_eq, wLen_eq, wPut_eq, wC_eq, wOb_eq, wIns_eq] at *; first | exact v_d_lenL .. | (apply v_d_lenL <;> assumption)
theorem d_lenT (s : List D) : wD (pLen (.tup s)) Q = Q (.int s.length) := by simp only [wE_eq, wS_eq, wF_eq, wD_eq, wI_eq, wB_eq, wT_eq, wN_eq, wV_eq, wG_eq, wO_eq, wL_eq, wLen_eq, wPut_eq, wC_eq, wOb_eq, wIns_eq] at *; first | exact v_d_lenT .. | (apply v_d_lenT <;> assumption)
theorem d_ixS (s : Tx) (i : Int) : wD (pIx (.str s) (.int i)) Q = wD (ati s i) (fun c => Q (.str [c])) := by simp only [wE_eq, wS_eq, wF_eq, wD_eq, wI_eq, wB_eq, wT_eq, wN_eq, wV_eq, wG_eq, wO_eq, wL_eq, wLen_eq, wPut_eq, wC_eq, wOb_eq, wIns_eq] at *; first | exact v_d_ixS .. | (apply v_d_ixS <;> assumption)
theorem d_ixL (s : List D) (i : Int) : wD (pIx (.lst s) (.int i)) Q = wD (ati s i) Q := by simp only [wE_eq, wS_eq, wF_eq, wD_eq, wI_eq, wB_eq, wT_eq, wN_eq, wV_eq, wG_eq, wO_eq, wL_eq, wLen_eq, wPut_eq, wC_eq, wOb_eq, wIns_eq] at *; first | exact v_d_ixL .. | (apply v_d_ixL <;> assumption)
theorem d_ixT (s : List D) (i : Int) : wD (pIx (.tup s) (.int i)) Q = wD (ati s i) Q := by simp only [wE_eq, wS_eq, wF_eq, wD_eq, wI_eq, wB_eq, wT_eq, wN_eq, wV_eq, wG_eq, wO_eq, wL_eq, wLen_eq, wPut_eq, wC_eq, wOb_eq, wIns_eq] at *; first | exact v_d_ixT .. | (apply v_d_ixT <;> assumption)
theorem d_slS (s : Tx) (lo hi : Option Int) : wD (pSl (.str s) lo hi) Q = Q (.str (cut s lo hi)) := by simp only [wE_eq, wS_eq, wF_eq, wD_eq, wI_eq, wB_eq, wT_eq, wN_eq, wV_eq, wG_eq, wO_eq, wL_eq, wLen_eq, wPut_eq, wC_eq, wOb_eq, wIns_eq] at *; first | exact v_d_slS .. | (apply v_d_slS <;> assumption)
theorem d_slL (s : List D) (lo hi : Option Int) : wD (pSl (.lst s) lo hi) Q = Q (.lst (cut s lo hi)) := by simp only [wE_eq, wS_eq, wF_eq, wD_eq, wI_eq, wB_eq, wT_eq, wN_eq, wV_eq, wG_eq, wO_eq, wL_eq, wLen_eq, wPut_eq, wC_eq, wOb_eq, wIns_eq] at *; first | exact v_d_slL .. | (apply v_d_slL <;> assumption)
theorem d_slT (s : List D) (lo hi : Option Int) : wD (pSl (.tup s) lo hi) Q = Q (.tup (cut s lo hi)) := by simp only [wE_eq, wS_eq, wF_eq, wD_eq, wI_eq, wB_eq, wT_eq, wN_eq, wV_eq, wG_eq, wO_eq, wL_eq, wLen_eq, wPut_eq, wC_eq, wOb_eq, wIns_eq] at *; first | exact v_d_slT .. | (apply v_d_slT <;> assumption)
theorem d_slR (s : List D) (lo hi : Option Int) : wD (pSl (.scr s) lo hi) Q = Q (.lst (cut s lo hi)) := by simp only [wE_eq, wS_eq, wF_eq, wD_eq, wI_eq, wB_eq, wT_eq, wN_eq, wV_eq, wG_eq, wO_eq, wL_eq, wLen_eq, wPut_eq, wC_eq, wOb_eq, wIns_eq] at *; first | exact v_d_slR .. | (apply v_d_slR <;> assumption)
theorem d_revS (s : Tx) : wD (pRev (.str s)) Q = Q (.str s.reverse) := by simp only [wE_eq, wS_eq, wF_eq, wD_eq, wI_eq, wB_eq, wT_eq, wN_eq, wV_eq, wG_eq, wO_eq, wL_eq, wLen_eq, wPut_eq, wC_eq, wOb_eq, wIns_eq] at *; first | exact v_d_revS .. | (apply v_d_revS <;> assumption)
theorem d_revL (s : List D) : wD (pRev (.lst s)) Q = Q (.lst s.reverse) := by simp only [wE_eq, wS_eq, wF_eq, wD_eq, wI_eq, wB_eq, wT_eq, wN_eq, wV_eq, wG_eq, wO_eq, wL_eq, wLen_eq, wPut_eq, wC_eq, wOb_eq, wIns_eq] at *; first | exact v_d_revL .. | (apply v_d_revL <;> assumption)
theorem d_revT (s : List D) : wD (pRev (.tup s)) Q = Q (.tup s.reverse) := by simp only [wE_eq, wS_eq, wF_eq, wD_eq, wI_eq, wB_eq, wT_eq, wN_eq, wV_eq, wG_eq, wO_eq, wL_eq, wLen_eq, wPut_eq, wC_eq, wOb_eq, wIns_eq] at *; first | exact v_d_revT .. | (apply v_d_revT <;> assumption)
theorem d_join (l : List Tx) : wD (mJoin [] [.lst (l.map .str)]) Q = wLen (l.map List.length).sum (Q (.str l.flatten)) := by simp only [wE_eq, wS_eq, wF_eq, wD_eq, wI_eq, wB_eq, wT_eq, wN_eq, wV_eq, wG_eq, wO_eq, wL_eq, wLen_eq, wPut_eq, wC_eq, wOb_eq, wIns_eq] at *; first | exact v_d_join .. | (apply v_d_join <;> assumption)
theorem d_joinC (l : Tx) : wD (mJoin [] [.lst (l.map chD)]) Q = wLen l.length (Q (.str l)) := by simp only [wE_eq, wS_eq, wF_eq, wD_eq, wI_eq, wB_eq, wT_eq, wN_eq, wV_eq, wG_eq, wO_eq, wL_eq, wLen_eq, wPut_eq, wC_eq, wOb_eq, wIns_eq] at *; first | exact v_d_joinC .. | (apply v_d_joinC <;> assumption)
theorem d_find (a b : Tx) : wD (mFind a [.str b]) Q = Q (.int (fnd (fstT a b))) := by simp only [wE_eq, wS_eq, wF_eq, wD_eq, wI_eq, wB_eq, wT_eq, wN_eq, wV_eq, wG_eq, wO_eq, wL_eq, wLen_eq, wPut_eq, wC_eq, wOb_eq, wIns_eq] at *; first | exact v_d_find .. | (apply v_d_find <;> assumption)
theorem d_index (a b : Tx) : wD (mIndex a [.str b]) Q = wD (fstT a b) (fun i => Q (.int (i : Nat))) := by simp only [wE_eq, wS_eq, wF_eq, wD_eq, wI_eq, wB_eq, wT_eq, wN_eq, wV_eq, wG_eq, wO_eq, wL_eq, wLen_eq, wPut_eq, wC_eq, wOb_eq, wIns_eq] at *; first | exact v_d_index .. | (apply v_d_index <;> assumption)
theorem d_upper (s : Tx) : wD (pUpper (.str s)) Q = wC (s.all (fun c => decide (c < 128)) = true ∧ s.length ≤ 5592405) (Q (.str (s.map up1))) := by simp only [wE_eq, wS_eq, wF_eq, wD_eq, wI_eq, wB_eq, wT_eq, wN_eq, wV_eq, wG_eq, wO_eq, wL_eq, wLen_eq, wPut_eq, wC_eq, wOb_eq, wIns_eq] at *; first | exact v_d_upper .. | (apply v_d_upper <;> assumption)
theorem d_int (i : Int) : wD (pInt (.int i)) Q = Q (.int i) := by simp only [wE_eq, wS_eq, wF_eq, wD_eq, wI_eq, wB_eq, wT_eq, wN_eq, wV_eq, wG_eq, wO_eq, wL_eq, wLen_eq, wPut_eq, wC_eq, wOb_eq, wIns_eq] at *; first | exact v_d_int .. | (apply v_d_int <;> assumption)
theorem d_intB (b : Bool) : wD (pInt (.bl b)) Q = Q (.int (if b then 1 else 0)) := by simp only [wE_eq, wS_eq, wF_eq, wD_eq, wI_eq, wB_eq, wT_eq, wN_eq, wV_eq, wG_eq, wO_eq, wL_eq, wLen_eq, wPut_eq, wC_eq, wOb_eq, wIns_eq] at *; first | exact v_d_intB .. | (apply v_d_intB <;> assumption)
theorem d_abs (i : Int) : wD (pAbs (.int i)) Q = Q (.int (if i < 0 then -i else i)) := by simp only [wE_eq, wS_eq, wF_eq, wD_eq, wI_eq, wB_eq, wT_eq, wN_eq, wV_eq, wG_eq, wO_eq, wL_eq, wLen_eq, wPut_eq, wC_eq, wOb_eq, wIns_eq] at *; first | exact v_d_abs .. | (apply v_d_abs <;> assumption)
theorem d_max (i j : Int) : wD (pMax2 (.int i) (.int j)) Q = Q (.int (max i j)) := by simp only [wE_eq, wS_eq, wF_eq, wD_eq, wI_eq, wB_eq, wT_eq, wN_eq, wV_eq, wG_eq, wO_eq, wL_eq, wLen_eq, wPut_eq, wC_eq, wOb_eq, wIns_eq] at *; first | exact v_d_max .. | (apply v_d_max <;> assumption)
theorem d_min (i j : Int) : wD (pMin2 (.int i) (.int j)) Q = Q (.int (min i j)) := by simp only [wE_eq, wS_eq, wF_eq, wD_eq, wI_eq, wB_eq, wT_eq, wN_eq, wV_eq, wG_eq, wO_eq, wL_eq, wLen_eq, wPut_eq, wC_eq, wOb_eq, wIns_eq] at *; first | exact v_d_min .. | (apply v_d_min <;> assumption)
theorem d_tupL (s : List D) : wD (pTuple (.lst s)) Q = Q (.tup s) := by simp only [wE_eq, wS_eq, wF_eq, wD_eq, wI_eq, wB_eq, wT_eq, wN_eq, wV_eq, wG_eq, wO_eq, wL_eq, wLen_eq, wPut_eq, wC_eq, wOb_eq, wIns_eq] at *; first | exact v_d_tupL .. | (apply v_d_tupL <;> assumption)
theorem d_tupT (s : List D) : wD (pTuple (.tup s)) Q = Q (.tup s) := by simp only [wE_eq, wS_eq, wF_eq, wD_eq, wI_eq, wB_eq, wT_eq, wN_eq, wV_eq, wG_eq, wO_eq, wL_eq, wLen_eq, wPut_eq, wC_eq, wOb_eq, wIns_eq] at *; first | exact v_d_tupT .. | (apply v_d_tupT <;> assumption)
theorem d_listL (s : List D) : wD (pListB (.lst s)) Q = Q (.lst s) := by simp only [wE_eq, wS_eq, wF_eq, wD_eq, wI_eq, wB_eq, wT_eq, wN_eq, wV_eq, wG_eq, wO_eq, wL_eq, wLen_eq, wPut_eq, wC_eq, wOb_eq, wIns_eq] at *; first | exact v_d_listL .. | (apply v_d_listL <;> assumption)
theorem d_listT (s : List D) : wD (pListB (.tup s)) Q = Q (.lst s) := by simp only [wE_eq, wS_eq, wF_eq, wD_eq, wI_eq, wB_eq, wT_eq, wN_eq, wV_eq, wG_eq, wO_eq, wL_eq, wLen_eq, wPut_eq, wC_eq, wOb_eq, wIns_eq] at *; first | exact v_d_listT .. | (apply v_d_listT <;> assumption)
theorem d_sortS (s : Tx) : wD (pSorted (.str s)) Q = wC (s.length < 64) (Q (.lst ((sortN s).map chD))) := by simp only [wE_eq, wS_eq, wF_eq, wD_eq, wI_eq, wB_eq, wT_eq, wN_eq, wV_eq, wG_eq, wO_eq, wL_eq, wLen_eq, wPut_eq, wC_eq, wOb_eq, wIns_eq] at *; first | exact v_d_sortS .. | (apply v_d_sortS <;> assumption)
theorem d_isT (t : String) (d : D) : wD (pIsT t d) Q = wD (tyn d) (fun n => Q (.bl (n == t || (n == "bool" && t == "int")))) := by simp only [wE_eq, wS_eq, wF_eq, wD_eq, wI_eq, wB_eq, wT_eq, wN_eq, wV_eq, wG_eq, wO_eq, wL_eq, wLen_eq, wPut_eq, wC_eq, wOb_eq, wIns_eq] at *; first | exact v_d_isT .. | (apply v_d_isT <;> assumption)
theorem d_sum (l : List Int) : wD (pSum (.lst (l.map .int))) Q = Q (.int l.sum) := by simp only [wE_eq, wS_eq, wF_eq, wD_eq, wI_eq, wB_eq, wT_eq, wN_eq, wV_eq, wG_eq, wO_eq, wL_eq, wLen_eq, wPut_eq, wC_eq, wOb_eq, wIns_eq] at *; first | exact v_d_sum .. | (apply v_d_sum <;> assumption)
theorem d_all (l : List Bool) : wD (pAll (.lst (l.map .bl))) Q = Q (.bl (l.all id)) := by simp only [wE_eq, wS_eq, wF_eq, wD_eq, wI_eq, wB_eq, wT_eq, wN_eq, wV_eq, wG_eq, wO_eq, wL_eq, wLen_eq, wPut_eq, wC_eq, wOb_eq, wIns_eq] at *; first | exact v_d_all .. | (apply v_d_all <;> assumption)
theorem d_any (l : List Bool) : wD (pAny (.lst (l.map .bl))) Q = Q (.bl (l.any id)) := by simp only [wE_eq, wS_eq, wF_eq, wD_eq, wI_eq, wB_eq, wT_eq, wN_eq, wV_eq, wG_eq, wO_eq, wL_eq, wLen_eq, wPut_eq, wC_eq, wOb_eq, wIns_eq] at *; first | exact v_d_any .. | (apply v_d_any <;> assumption)
theorem d_seqL (s : List D) : wD (seqOf (.lst s)) Y = Y s := by simp only [wE_eq, wS_eq, wF_eq, wD_eq, wI_eq, wB_eq, wT_eq, wN_eq, wV_eq, wG_eq, wO_eq, wL_eq, wLen_eq, wPut_eq, wC_eq, wOb_eq, wIns_eq] at *; first | exact v_d_seqL .. | (apply v_d_seqL <;> assumption)
theorem d_seqT (s : List D) : wD (seqOf (.tup s)) Y = Y s := by simp only [wE_eq, wS_eq, wF_eq, wD_eq, wI_eq, wB_eq, wT_eq, wN_eq, wV_eq, wG_eq, wO_eq, wL_eq, wLen_eq, wPut_eq, wC_eq, wOb_eq, wIns_eq] at *; first | exact v_d_seqT .. | (apply v_d_seqT <;> assumption)
theorem d_seqS (s : Tx) : wD (seqOf (.str s)) Y = Y (s.map chD) := by simp only [wE_eq, wS_eq, wF_eq, wD_eq, wI_eq, wB_eq, wT_eq, wN_eq, wV_eq, wG_eq, wO_eq, wL_eq, wLen_eq, wPut_eq, wC_eq, wOb_eq, wIns_eq] at *; first | exact v_d_seqS .. | (apply v_d_seqS <;> assumption)
theorem d_rg1 (j : Int) : wD (pRange1 (.int j)) Y = wC (-4611686018427387904 ≤ j ∧ j < 4611686018427387904) (Y (rgI 0 j.toNat)) := by simp only [wE_eq, wS_eq, wF_eq, wD_eq, wI_eq, wB_eq, wT_eq, wN_eq, wV_eq, wG_eq, wO_eq, wL_eq, wLen_eq, wPut_eq, wC_eq, wOb_eq, wIns_eq] at *; first | exact v_d_rg1 .. | (apply v_d_rg1 <;> assumption)
theorem d_rg2 (i j : Int) : wD (pRange2 (.int i) (.int j)) Y = wC ((-4611686018427387904 ≤ i ∧ i < 4611686018427387904) ∧ (-4611686018427387904 ≤ j ∧ j < 4611686018427387904)) (Y (rgI i (j - i).toNat)) := by simp only [wE_eq, wS_eq, wF_eq, wD_eq, wI_eq, wB_eq, wT_eq, wN_eq, wV_eq, wG_eq, wO_eq, wL_eq, wLen_eq, wPut_eq, wC_eq, wOb_eq, wIns_eq] at *; first | exact v_d_rg2 .. | (apply v_d_rg2 <;> assumption)
theorem d_zipS (a b : Tx) : wD (zipB (.str a) (.str b)) Y = Y (zipD (a.map chD) (b.map chD)) := by simp only [wE_eq, wS_eq, wF_eq, wD_eq, wI_eq, wB_eq, wT_eq, wN_eq, wV_eq, wG_eq, wO_eq, wL_eq, wLen_eq, wPut_eq, wC_eq, wOb_eq, wIns_eq] at *; first | exact v_d_zipS .. | (apply v_d_zipS <;> assumption)
theorem d_zipL (a b : List D) : wD (zipB (.lst a) (.lst b)) Y = Y (zipD a b) := by simp only [wE_eq, wS_eq, wF_eq, wD_eq, wI_eq, wB_eq, wT_eq, wN_eq, wV_eq, wG_eq, wO_eq, wL_eq, wLen_eq, wPut_eq, wC_eq, wOb_eq, wIns_eq] at *; first | exact v_d_zipL .. | (apply v_d_zipL <;> assumption)
theorem d_zipT (a b : List D) : wD (zipB (.tup a) (.tup b)) Y = Y (zipD a b) := by simp only [wE_eq, wS_eq, wF_eq, wD_eq, wI_eq, wB_eq, wT_eq, wN_eq, wV_eq, wG_eq, wO_eq, wL_eq, wLen_eq, wPut_eq, wC_eq, wOb_eq, wIns_eq] at *; first | exact v_d_zipT .. | (apply v_d_zipT <;> assumption)
theorem d_enS (a : Tx) : wD (enB (.str a)) Y = Y (enumD 0 (a.map chD)) := by simp only [wE_eq, wS_eq, wF_eq, wD_eq, wI_eq, wB_eq, wT_eq, wN_eq, wV_eq, wG_eq, wO_eq, wL_eq, wLen_eq, wPut_eq, wC_eq, wOb_eq, wIns_eq] at *; first | exact v_d_enS .. | (apply v_d_enS <;> assumption)
theorem d_enL (a : List D) : wD (enB (.lst a)) Y = Y (enumD 0 a) := by simp only [wE_eq, wS_eq, wF_eq, wD_eq, wI_eq, wB_eq, wT_eq, wN_eq, wV_eq, wG_eq, wO_eq, wL_eq, wLen_eq, wPut_eq, wC_eq, wOb_eq, wIns_eq] at *; first | exact v_d_enL .. | (apply v_d_enL <;> assumption)
theorem d_revBL (a : List D) : wD (revB (.lst a)) Y = Y a.reverse := by simp only [wE_eq, wS_eq, wF_eq, wD_eq, wI_eq, wB_eq, wT_eq, wN_eq, wV_eq, wG_eq, wO_eq, wL_eq, wLen_eq, wPut_eq, wC_eq, wOb_eq, wIns_eq] at *; first | exact v_d_revBL .. | (apply v_d_revBL <;> assumption)
theorem d_revBT (a : List D) : wD (revB (.tup a)) Y = Y a.reverse := by simp only [wE_eq, wS_eq, wF_eq, wD_eq, wI_eq, wB_eq, wT_eq, wN_eq, wV_eq, wG_eq, wO_eq, wL_eq, wLen_eq, wPut_eq, wC_eq, wOb_eq, wIns_eq] at *; first | exact v_d_revBT .. | (apply v_d_revBT <;> assumption)
theorem d_lrg1 (j : Int) : wD (pListRg1 (.int j)) Q = wC (RgB 0 j = true) (Q (.lst (intsAB 0 j))) := by simp only [wE_eq, wS_eq, wF_eq, wD_eq, wI_eq, wB_eq, wT_eq, wN_eq, wV_eq, wG_eq, wO_eq, wL_eq, wLen_eq, wPut_eq, wC_eq, wOb_eq, wIns_eq] at *; first | exact v_d_lrg1 .. | (apply v_d_lrg1 <;> assumption)
theorem d_gN (i : Nat) (d : D) (env : List (Option O)) (w : W) {N : PSt → Prop} : wD (gN i d ⟨env, w⟩) N = wPut i env.length (N ⟨env.set i (some (.fz d)), w⟩) := by simp only [wE_eq, wS_eq, wF_eq, wD_eq, wI_eq, wB_eq, wT_eq, wN_eq, wV_eq, wG_eq, wO_eq, wL_eq, wLen_eq, wPut_eq, wC_eq, wOb_eq, wIns_eq] at *; first | exact v_d_gN .. | (apply v_d_gN <;> assumption)
theorem d_gT (is : List Nat) (ds : List D) (ρ : PSt) {N : PSt → Prop} : wD (gT is (.tup ds) ρ) N = wD (gNs is ds ρ) N := by simp only [wE_eq, wS_eq, wF_eq, wD_eq, wI_eq, wB_eq, wT_eq, wN_eq, wV_eq, wG_eq, wO_eq, wL_eq, wLen_eq, wPut_eq, wC_eq, wOb_eq, wIns_eq] at *; first | exact v_d_gT .. | (apply v_d_gT <;> assumption)
theorem d_gs0 (ρ : PSt) {N : PSt → Prop} : wD (gNs [] [] ρ) N = N ρ := by simp only [wE_eq, wS_eq, wF_eq, wD_eq, wI_eq, wB_eq, wT_eq, wN_eq, wV_eq, wG_eq, wO_eq, wL_eq, wLen_eq, wPut_eq, wC_eq, wOb_eq, wIns_eq] at *; first | exact v_d_gs0 .. | (apply v_d_gs0 <;> assumption)
theorem d_gs (i : Nat) (is : List Nat) (d : D) (ds : List D) (ρ : PSt) {N : PSt → Prop} : wD (gNs (i :: is) (d :: ds) ρ) N = wD (gN i d ρ) (fun ρ1 => wD (gNs is ds ρ1) N) := by simp only [wE_eq, wS_eq, wF_eq, wD_eq, wI_eq, wB_eq, wT_eq, wN_eq, wV_eq, wG_eq, wO_eq, wL_eq, wLen_eq, wPut_eq, wC_eq, wOb_eq, wIns_eq] at *; first | exact v_d_gs .. | (apply v_d_gs <;> assumption)
theorem d_ixW (w : W) (n : Nat) (k : D) : wD (ixW w (.obj n) k) Q = wOb w[n]? (fun os => wD (ixO (.lst os) k) Q) := by simp only [wE_eq, wS_eq, wF_eq, wD_eq, wI_eq, wB_eq, wT_eq, wN_eq, wV_eq, wG_eq, wO_eq, wL_eq, wLen_eq, wPut_eq, wC_eq, wOb_eq, wIns_eq] at *; first | exact v_d_ixW .. | (apply v_d_ixW <;> assumption)
theorem d_ixO (os : List O) (i : Int) : wD (ixO (.lst os) (.int i)) Q = wD (ati os i) (fun o => wD (asF o) Q) := by simp only [wE_eq, wS_eq, wF_eq, wD_eq, wI_eq, wB_eq, wT_eq, wN_eq, wV_eq, wG_eq, wO_eq, wL_eq, wLen_eq, wPut_eq, wC_eq, wOb_eq, wIns_eq] at *; first | exact v_d_ixO .. | (apply v_d_ixO <;> assumption)
theorem d_asF (d : D) : wD (asF (.fz d)) Q = Q d := by simp only [wE_eq, wS_eq, wF_eq, wD_eq, wI_eq, wB_eq, wT_eq, wN_eq, wV_eq, wG_eq, wO_eq, wL_eq, wLen_eq, wPut_eq, wC_eq, wOb_eq, wIns_eq] at *; first | exact v_d_asF .. | (apply v_d_asF <;> assumption)
theorem d_asL (d : List D) {Q : List D → Prop} : wD (asL (.lst d)) Q = Q d := by simp only [wE_eq, wS_eq, wF_eq, wD_eq, wI_eq, wB_eq, wT_eq, wN_eq, wV_eq, wG_eq, wO_eq, wL_eq, wLen_eq, wPut_eq, wC_eq, wOb_eq, wIns_eq] at *; first | exact v_d_asL .. | (apply v_d_asL <;> assumption)
theorem d_ixOf (d k : D) : wD (ixO (.fz d) k) Q = wD (pIx d k) Q := by simp only [wE_eq, wS_eq, wF_eq, wD_eq, wI_eq, wB_eq, wT_eq, wN_eq, wV_eq, wG_eq, wO_eq, wL_eq, wLen_eq, wPut_eq, wC_eq, wOb_eq, wIns_eq] at *; first | exact v_d_ixOf .. | (apply v_d_ixOf <;> assumption)
theorem d_stoW (w : W) (n : Nat) (z : Int) (d : D) {N : W → Prop} : wD (stoW w (.obj n) (.int z) d) N = wOb w[n]? (fun os => wD (ixn os.length z) (fun j => N (w.set n (.lst (os.set j (.fz d)))))) := by simp only [wE_eq, wS_eq, wF_eq, wD_eq, wI_eq, wB_eq, wT_eq, wN_eq, wV_eq, wG_eq, wO_eq, wL_eq, wLen_eq, wPut_eq, wC_eq, wOb_eq, wIns_eq] at *; first | exact v_d_stoW .. | (apply v_d_stoW <;> assumption)
theorem d_lenOl (os : List O) : wD (lenO (.lst os)) Q = Q (.int os.length) := by simp only [wE_eq, wS_eq, wF_eq, wD_eq, wI_eq, wB_eq, wT_eq, wN_eq, wV_eq, wG_eq, wO_eq, wL_eq, wLen_eq, wPut_eq, wC_eq, wOb_eq, wIns_eq] at *; first | exact v_d_lenOl .. | (apply v_d_lenOl <;> assumption)
theorem d_lenOf (d : D) : wD (lenO (.fz d)) Q = wD (pLen d) Q := by simp only [wE_eq, wS_eq, wF_eq, wD_eq, wI_eq, wB_eq, wT_eq, wN_eq, wV_eq, wG_eq, wO_eq, wL_eq, wLen_eq, wPut_eq, wC_eq, wOb_eq, wIns_eq] at *; first | exact v_d_lenOf .. | (apply v_d_lenOf <;> assumption)
end

theorem d_t_int_non  {Q : D → Prop} : wD (pIsT "int" .non) Q = Q (.bl false) := by rw [d_isT, wD_eq]; rfl
theorem d_t_int_bl (a : Bool) {Q : D → Prop} : wD (pIsT "int" (.bl a)) Q = Q (.bl true) := by rw [d_isT, wD_eq]; rfl
theorem d_t_int_int (a : Int) {Q : D → Prop} : wD (pIsT "int" (.int a)) Q = Q (.bl true) := by rw [d_isT, wD_eq]; rfl
theorem d_t_int_str (a : Tx) {Q : D → Prop} : wD (pIsT "int" (.str a)) Q = Q (.bl false) := by rw [d_isT, wD_eq]; rfl
theorem d_t_int_tup (a : List D) {Q : D → Prop} : wD (pIsT "int" (.tup a)) Q = Q (.bl false) := by rw [d_isT, wD_eq]; rfl
theorem d_t_int_lst (a : List D) {Q : D → Prop} : wD (pIsT "int" (.lst a)) Q = Q (.bl false) := by rw [d_isT, wD_eq]; rfl
theorem d_t_int_dct (a b : List D) {Q : D → Prop} : wD (pIsT "int" (.dct a b)) Q = Q (.bl false) := by rw [d_isT, wD_eq]; rfl
theorem d_t_bool_non  {Q : D → Prop} : wD (pIsT "bool" .non) Q = Q (.bl false) := by rw [d_isT, wD_eq]; rfl
theorem d_t_bool_bl (a : Bool) {Q : D → Prop} : wD (pIsT "bool" (.bl a)) Q = Q (.bl true) := by rw [d_isT, wD_eq]; rfl
theorem d_t_bool_int (a : Int) {Q : D → Prop} : wD (pIsT "bool" (.int a)) Q = Q (.bl false) := by rw [d_isT, wD_eq]; rfl
theorem d_t_bool_str (a : Tx) {Q : D → Prop} : wD (pIsT "bool" (.str a)) Q = Q (.bl false) := by rw [d_isT, wD_eq]; rfl
theorem d_t_bool_tup (a : List D) {Q : D → Prop} : wD (pIsT "bool" (.tup a)) Q = Q (.bl false) := by rw [d_isT, wD_eq]; rfl
theorem d_t_bool_lst (a : List D) {Q : D → Prop} : wD (pIsT "bool" (.lst a)) Q = Q (.bl false) := by rw [d_isT, wD_eq]; rfl
theorem d_t_bool_dct (a b : List D) {Q : D → Prop} : wD (pIsT "bool" (.dct a b)) Q = Q (.bl false) := by rw [d_isT, wD_eq]; rfl
theorem d_t_str_non  {Q : D → Prop} : wD (pIsT "str" .non) Q = Q (.bl false) := by rw [d_isT, wD_eq]; rfl
theorem d_t_str_bl (a : Bool) {Q : D → Prop} : wD (pIsT "str" (.bl a)) Q = Q (.bl false) := by rw [d_isT, wD_eq]; rfl
theorem d_t_str_int (a : Int) {Q : D → Prop} : wD (pIsT "str" (.int a)) Q = Q (.bl false) := by rw [d_isT, wD_eq]; rfl
theorem d_t_str_str (a : Tx) {Q : D → Prop} : wD (pIsT "str" (.str a)) Q = Q (.bl true) := by rw [d_isT, wD_eq]; rfl
theorem d_t_str_tup (a : List D) {Q : D → Prop} : wD (pIsT "str" (.tup a)) Q = Q (.bl false) := by rw [d_isT, wD_eq]; rfl
theorem d_t_str_lst (a : List D) {Q : D → Prop} : wD (pIsT "str" (.lst a)) Q = Q (.bl false) := by rw [d_isT, wD_eq]; rfl
theorem d_t_str_dct (a b : List D) {Q : D → Prop} : wD (pIsT "str" (.dct a b)) Q = Q (.bl false) := by rw [d_isT, wD_eq]; rfl
theorem d_t_tuple_non  {Q : D → Prop} : wD (pIsT "tuple" .non) Q = Q (.bl false) := by rw [d_isT, wD_eq]; rfl
theorem d_t_tuple_bl (a : Bool) {Q : D → Prop} : wD (pIsT "tuple" (.bl a)) Q = Q (.bl false) := by rw [d_isT, wD_eq]; rfl
theorem d_t_tuple_int (a : Int) {Q : D → Prop} : wD (pIsT "tuple" (.int a)) Q = Q (.bl false) := by rw [d_isT, wD_eq]; rfl
theorem d_t_tuple_str (a : Tx) {Q : D → Prop} : wD (pIsT "tuple" (.str a)) Q = Q (.bl false) := by rw [d_isT, wD_eq]; rfl
theorem d_t_tuple_tup (a : List D) {Q : D → Prop} : wD (pIsT "tuple" (.tup a)) Q = Q (.bl true) := by rw [d_isT, wD_eq]; rfl
theorem d_t_tuple_lst (a : List D) {Q : D → Prop} : wD (pIsT "tuple" (.lst a)) Q = Q (.bl false) := by rw [d_isT, wD_eq]; rfl
theorem d_t_tuple_dct (a b : List D) {Q : D → Prop} : wD (pIsT "tuple" (.dct a b)) Q = Q (.bl false) := by rw [d_isT, wD_eq]; rfl
theorem d_t_list_non  {Q : D → Prop} : wD (pIsT "list" .non) Q = Q (.bl false) := by rw [d_isT, wD_eq]; rfl
theorem d_t_list_bl (a : Bool) {Q : D → Prop} : wD (pIsT "list" (.bl a)) Q = Q (.bl false) := by rw [d_isT, wD_eq]; rfl
theorem d_t_list_int (a : Int) {Q : D → Prop} : wD (pIsT "list" (.int a)) Q = Q (.bl false) := by rw [d_isT, wD_eq]; rfl
theorem d_t_list_str (a : Tx) {Q : D → Prop} : wD (pIsT "list" (.str a)) Q = Q (.bl false) := by rw [d_isT, wD_eq]; rfl
theorem d_t_list_tup (a : List D) {Q : D → Prop} : wD (pIsT "list" (.tup a)) Q = Q (.bl false) := by rw [d_isT, wD_eq]; rfl
theorem d_t_list_lst (a : List D) {Q : D → Prop} : wD (pIsT "list" (.lst a)) Q = Q (.bl true) := by rw [d_isT, wD_eq]; rfl
theorem d_t_list_dct (a b : List D) {Q : D → Prop} : wD (pIsT "list" (.dct a b)) Q = Q (.bl false) := by rw [d_isT, wD_eq]; rfl
theorem d_t_dict_non  {Q : D → Prop} : wD (pIsT "dict" .non) Q = Q (.bl false) := by rw [d_isT, wD_eq]; rfl
theorem d_t_dict_bl (a : Bool) {Q : D → Prop} : wD (pIsT "dict" (.bl a)) Q = Q (.bl false) := by rw [d_isT, wD_eq]; rfl
theorem d_t_dict_int (a : Int) {Q : D → Prop} : wD (pIsT "dict" (.int a)) Q = Q (.bl false) := by rw [d_isT, wD_eq]; rfl
theorem d_t_dict_str (a : Tx) {Q : D → Prop} : wD (pIsT "dict" (.str a)) Q = Q (.bl false) := by rw [d_isT, wD_eq]; rfl
theorem d_t_dict_tup (a : List D) {Q : D → Prop} : wD (pIsT "dict" (.tup a)) Q = Q (.bl false) := by rw [d_isT, wD_eq]; rfl
theorem d_t_dict_lst (a : List D) {Q : D → Prop} : wD (pIsT "dict" (.lst a)) Q = Q (.bl false) := by rw [d_isT, wD_eq]; rfl
theorem d_t_dict_dct (a b : List D) {Q : D → Prop} : wD (pIsT "dict" (.dct a b)) Q = Q (.bl true) := by rw [d_isT, wD_eq]; rfl
theorem d_fld {cs : List String} {f C : String} {w : W} {n : Nat} {fs : List (String × O)} {d : D} {Q : D → Prop} (h : w[n]? = some (.ins C fs)) (hc : C ∈ cs) (hf : fs.lookup f = some (.fz d)) : wD (fldO cs f w (.obj n)) Q = Q d := by
  have e : fldO cs f w (.obj n) = some d := by simp [fldO, h, hc, hf]
  rw [e]
  exact wD_some d
theorem d_indexL (l : List Int) (v : Int) {Q : D → Prop} : wD (mIndexL (l.map .int) [.int v]) Q = wC (v ∈ l) (Q (.int (l.idxOf v : Nat))) := by
  show wD ((intsOf (l.map .int)).bind fun ns => if v ∈ ns then some (D.int ((ns.idxOf v : Nat) : Int)) else none) Q = _
  rw [ints_of, Option.bind_some, wD_ite]
/-! helpers -/
theorem wI_yes {p : Prop} [Decidable p] (h : p) (A B : Prop) : wI (decide p) A B = A := by rw [decide_eq_true h]; exact wI_t A B
theorem wI_no {p : Prop} [Decidable p] (h : ¬ p) (A B : Prop) : wI (decide p) A B = B := by rw [decide_eq_false h]; exact wI_f A B
theorem bl_t {b : Bool} (h : b = true) : O.fz (.bl true) = O.fz (.bl b) := by rw [h]
theorem bl_f {b : Bool} (h : b = false) : O.fz (.bl false) = O.fz (.bl b) := by rw [h]
theorem ati_map {α β : Type} (f : α → β) (l : List α) (i : Int) : ati (l.map f) i = (ati l i).map f := by
  unfold ati
  rw [List.length_map]
  cases ixn l.length i with
  | none => rfl
  | some j => simp
theorem get_step {α : Type} {xs : List α} {i : Nat} {Q : α → Prop} (h : i < xs.length) (k : ∀ x, x ∈ xs → xs[i]? = some x → Q x) : wD xs[i]? Q := by
  rw [List.getElem?_eq_getElem h, wD_some]
  exact k _ (List.getElem_mem h) (List.getElem?_eq_getElem h)
theorem ati_step {α : Type} {xs : List α} {i : Int} {Q : α → Prop} (h : 0 ≤ i) (h2 : i < xs.length) (k : ∀ x, x ∈ xs → xs[i.toNat]? = some x → Q x) : wD (ati xs i) Q := by
  rw [ati_nn h]
  exact get_step (by omega) k
theorem lt_of_get {α : Type} {l : List α} {i : Nat} {x : α} (h : l[i]? = some x) : i < l.length := (List.getElem?_eq_some_iff.mp h).1
theorem wC_intro {c A : Prop} (h : c) (a : A) : wC c A := by rw [wC_eq]; exact ⟨h, a⟩
theorem wLen_intro {n : Nat} {A : Prop} (h : n ≤ 16777216) (a : A) : wLen n A := by rw [wLen_eq]; exact ⟨h, a⟩
/-- only the object at n may differ -/
def But (n : Nat) (w w' : W) : Prop := w'.length = w.length ∧ ∀ j, j ≠ n → w'[j]? = w[j]?
theorem But.refl {n : Nat} {w : W} : But n w w := ⟨rfl, fun _ _ => rfl⟩
theorem But.trans {n : Nat} {w w1 w2 : W} (a : But n w w1) (b : But n w1 w2) : But n w w2 := ⟨b.1.trans a.1, fun j h => (b.2 j h).trans (a.2 j h)⟩
theorem But.set {n : Nat} {w w1 : W} {o : Ob} (a : But n w w1) : But n w (w1.set n o) := ⟨by rw [List.length_set]; exact a.1, fun j h => by rw [List.getElem?_set_ne (Ne.symm h)]; exact a.2 j h⟩
theorem tn1 (d : Nat) : ((d : Int) + 1).toNat = d + 1 := rfl
theorem app_fz (l : List D) (d : D) : l.map O.fz ++ [O.fz d] = (l ++ [d]).map O.fz := by simp
theorem frz_lst (l : List D) : frz (.lst (l.map .fz)) = .lst l := by simp [frz]
theorem wI_true {k : Bool} {A B : Prop} (h : k = true) (a : A) : wI k A B := by subst h; rw [wI_t]; exact a
theorem wI_false {k : Bool} {A B : Prop} (h : k = false) (a : B) : wI k A B := by subst h; rw [wI_f]; exact a
theorem wI_bool {k : Bool} {A B : Prop} (h1 : k = true → A) (h2 : k = false → B) : wI k A B := by
  cases k
  · rw [wI_f]; exact h2 rfl
  · rw [wI_t]; exact h1 rfl
theorem wI_cut {k : Bool} {a b : Out} {N bk ct : PSt → Prop} {rt : O → W → Prop} {ex : Exc → PSt → Prop} (J : PSt → Prop) (h : wI k (wS a ⟨J, rt, bk, ct, ex⟩) (wS b ⟨J, rt, bk, ct, ex⟩)) (hk : ∀ ρ, J ρ → N ρ) : wI k (wS a ⟨N, rt, bk, ct, ex⟩) (wS b ⟨N, rt, bk, ct, ex⟩) := by
  cases k
  · rw [wI_f] at *
    exact wS.mono h hk (fun _ _ h => h) (fun _ h => h) (fun _ h => h) (fun _ _ h => h)
  · rw [wI_t] at *
    exact wS.mono h hk (fun _ _ h => h) (fun _ h => h) (fun _ h => h) (fun _ _ h => h)
/-- a hand that draws stands at n -/
def Hand (w : W) (n : Nat) : Prop := ∃ (cells : List Int) (i b s c : Int), w[n]? = some (.lst [.fz (.lst (cells.map .int)), .fz (.int i), .fz (.int b), .fz (.int s), .fz (.int c)]) ∧ 0 ≤ i
end M

/-! Machines in plain mathematics. -/
namespace M
mutual
theorem eqb_refl : ∀ (d : D), dat d = true → eqb d d = true
  | .non, _ => rfl
  | .bl b, _ => by simp [eqb]
  | .int i, _ => by simp [eqb]
  | .str s, _ => by simp [eqb]
  | .tup ds, h => by simp only [eqb]; exact eqbs_refl ds (by simpa [dat] using h)
  | .lst ds, h => by simp only [eqb]; exact eqbs_refl ds (by simpa [dat] using h)
theorem eqbs_refl : ∀ (ds : List D), dats ds = true → eqbs ds ds = true
  | [], _ => rfl
  | d :: r, h => by
    simp only [dats, Bool.and_eq_true] at h
    simp only [eqbs, eqb_refl d h.1, eqbs_refl r h.2, Bool.and_self]
end
theorem d_neSame (x : D) (h : dat x = true) (h2 : dep x ≤ 64) {Q : D → Prop} : wD (pNe x x) Q = Q (.bl false) := by
  rw [d_ne, wC_of ⟨h, h, h2, h2⟩, eqb_refl x h]; rfl
theorem d_eqSame (x : D) (h : dat x = true) (h2 : dep x ≤ 64) {Q : D → Prop} : wD (pEq x x) Q = Q (.bl true) := by
  rw [d_eq, wC_of ⟨h, h, h2, h2⟩, eqb_refl x h]
def rowD (r : List Nat) : D := .tup (r.map fun t => .int (t : Nat))
def tabD (T : List (List Nat)) : D := .tup (T.map rowD)
def accD (A : List Nat) : D := .tup (A.map fun a => .int (a : Nat))
def TabOk (T : List (List Nat)) (size many : Nat) : Prop := T.length = size ∧ ∀ r ∈ T, r.length = many ∧ ∀ t ∈ r, t < size
abbrev abc : Tx := [97, 98, 99, 100, 101, 102, 103, 104, 105, 106, 107, 108, 109, 110, 111, 112, 113, 114, 115, 116, 117, 118, 119, 120, 121, 122]
theorem mem_abc {c : Nat} : c ∈ abc ↔ 97 ≤ c ∧ c ≤ 122 := by
  simp only [List.mem_cons, List.not_mem_nil, or_false]
  omega
structure LetOk (L : Tx) (most : Nat) : Prop where
  ne : 1 ≤ L.length
  le : L.length ≤ most
  asc : L.Pairwise (· < ·)
  abc : ∀ c ∈ L, 97 ≤ c ∧ c ≤ 122
structure AccOk (A : List Nat) (size : Nat) : Prop where
  asc : A.Pairwise (· < ·)
  lt : ∀ a ∈ A, a < size
structure MacOk (L : Tx) (T : List (List Nat)) (A : List Nat) (most states : Nat) : Prop where
  let' : LetOk L most
  tab : TabOk T T.length L.length
  ne : 1 ≤ T.length
  le : T.length ≤ states
  acc : AccOk A T.length
theorem d_ixTab (T : List (List Nat)) (s : Nat) {Q : D → Prop} : wD (pIx (tabD T) (.int (s : Nat))) Q = wD T[s]? (fun r => Q (rowD r)) := by
  unfold tabD
  rw [d_ixT, ati_nn (by omega), List.getElem?_map, wD_map, Int.toNat_natCast]
theorem d_ixRow (r : List Nat) (s : Nat) {Q : D → Prop} : wD (pIx (rowD r) (.int (s : Nat))) Q = wD r[s]? (fun t => Q (.int (t : Nat))) := by
  unfold rowD
  rw [d_ixT, ati_nn (by omega), List.getElem?_map, wD_map, Int.toNat_natCast]
theorem d_inAcc (A : List Nat) (s : Nat) {Q : D → Prop} : wD (pIn (.int (s : Nat)) (accD A)) Q = Q (.bl (decide (s ∈ A))) := by
  unfold accD
  have := d_inIT (Q := Q) (s : Int) (A.map (Nat.cast : Nat → Int))
  rw [List.map_map] at this
  rw [show (A.map fun a => D.int (a : Nat)) = A.map (D.int ∘ (Nat.cast : Nat → Int)) from rfl, this]
  congr 2
  simp only [List.mem_map, decide_eq_decide]
  constructor
  · rintro ⟨a, h, e⟩
    have : a = s := by omega
    exact this ▸ h
  · exact fun h => ⟨s, h, rfl⟩
theorem d_lenTab (T : List (List Nat)) {Q : D → Prop} : wD (pLen (tabD T)) Q = Q (.int T.length) := by
  unfold tabD
  rw [d_lenT, List.length_map]
theorem d_lenRow (T : List Nat) {Q : D → Prop} : wD (pLen (rowD T)) Q = Q (.int T.length) := by
  unfold rowD
  rw [d_lenT, List.length_map]
theorem d_lenAcc (T : List Nat) {Q : D → Prop} : wD (pLen (accD T)) Q = Q (.int T.length) := by
  unfold accD
  rw [d_lenT, List.length_map]
theorem idx_cast (v : Nat) : ∀ l : List Nat, (l.map (Nat.cast : Nat → Int)).idxOf (v : Int) = l.idxOf v
  | [] => rfl
  | a :: l => by
    simp only [List.map_cons, List.idxOf_cons, idx_cast v l]
    have : ((a : Int) == (v : Int)) = (a == v) := by rw [Bool.eq_iff_iff]; simp; omega
    rw [this]
theorem d_indexN (l : List Nat) (v : Nat) {Q : D → Prop} : wD (mIndexL (l.map fun s => .int (s : Nat)) [.int (v : Nat)]) Q = wC (v ∈ l) (Q (.int (l.idxOf v : Nat))) := by
  have h := d_indexL (Q := Q) (l.map (Nat.cast : Nat → Int)) (v : Int)
  rw [List.map_map, idx_cast] at h
  rw [show (l.map fun s => D.int (s : Nat)) = l.map (D.int ∘ (Nat.cast : Nat → Int)) from rfl, h]
  congr 1
  simp only [List.mem_map]
  rw [eq_iff_iff]
  constructor
  · rintro ⟨a, h, e⟩
    have : a = v := by omega
    exact this ▸ h
  · exact fun h => ⟨v, h, rfl⟩
theorem fnd_some (i : Nat) : fnd (some i) = (i : Int) := rfl
theorem isAt_one (a : Tx) (c : Nat) (i : Nat) : isAt a [c] i = decide (a[i]? = some c) := by
  unfold isAt
  rw [Bool.eq_iff_iff]
  simp only [Bool.and_eq_true, decide_eq_true_eq, List.length_cons, List.length_nil]
  constructor
  · rintro ⟨h1, h2⟩
    rw [List.take_one, List.head?_drop] at h2
    revert h2
    cases a[i]? <;> simp
  · intro h
    have := (List.getElem?_eq_some_iff.mp h).1
    refine ⟨by omega, ?_⟩
    rw [List.take_one, List.head?_drop, h]
    rfl
theorem fstT_mem {a : Tx} {c : Nat} (h : c ∈ a) : fstT a [c] = some (a.idxOf c) := by
  unfold fstT
  rw [List.find?_range_eq_some]
  have hi : a.idxOf c < a.length := List.idxOf_lt_length_iff.mpr h
  refine ⟨?_, by simp; omega, ?_⟩
  · rw [isAt_one, decide_eq_true_iff, List.getElem?_eq_getElem hi, List.getElem_idxOf]
  · intro j hj
    rw [isAt_one]
    simp only [Bool.not_eq_eq_eq_not, Bool.not_true, decide_eq_false_iff_not]
    intro e
    obtain ⟨hl, e⟩ := List.getElem?_eq_some_iff.mp e
    have := List.not_of_lt_findIdx (p := (· == c)) (xs := a) hj
    simp [e] at this
/-- one letter's step -/
def stp (L : Tx) (T : List (List Nat)) (s c : Nat) : Nat := (((T[s]?).getD [])[L.idxOf c]?).getD 0
def run (L : Tx) (T : List (List Nat)) (s : Nat) (x : Tx) : Nat := x.foldl (stp L T) s
theorem stp_ok {L : Tx} {T : List (List Nat)} (h : TabOk T T.length L.length) {s c : Nat} (hs : s < T.length) (hc : c ∈ L) : ∃ r, T[s]? = some r ∧ r[L.idxOf c]? = some (stp L T s c) ∧ stp L T s c < T.length := by
  have hr := h.2 T[s] (List.getElem_mem hs)
  have hi : L.idxOf c < T[s].length := by rw [hr.1]; exact List.idxOf_lt_length_iff.mpr hc
  have e : stp L T s c = T[s][L.idxOf c] := by
    unfold stp
    rw [List.getElem?_eq_getElem hs, Option.getD_some, List.getElem?_eq_getElem hi, Option.getD_some]
  exact ⟨T[s], List.getElem?_eq_getElem hs, by rw [e, List.getElem?_eq_getElem hi], by rw [e]; exact hr.2 _ (List.getElem_mem hi)⟩
theorem run_nil {L T s} : run L T s [] = s := rfl
theorem run_snoc {L T s x c} : run L T s (x ++ [c]) = stp L T (run L T s x) c := by unfold run; rw [List.foldl_append]; rfl
theorem run_append {L T s x y} : run L T s (x ++ y) = run L T (run L T s x) y := by unfold run; rw [List.foldl_append]
theorem run_cons {L T s c x} : run L T s (c :: x) = run L T (stp L T s c) x := rfl
theorem run_ok {L : Tx} {T : List (List Nat)} (h : TabOk T T.length L.length) {s : Nat} (hs : s < T.length) : ∀ {x : Tx}, (∀ c ∈ x, c ∈ L) → run L T s x < T.length := by
  intro x
  induction x generalizing s with
  | nil => intro _; exact hs
  | cons c x ih =>
    intro hx
    obtain ⟨_, _, _, h3⟩ := stp_ok h hs (hx c (by simp))
    exact ih h3 (fun d hd => hx d (by simp [hd]))
/-- a machine made, its fields as at its birth -/
def newM (L : Tx) (T : List (List Nat)) (A : List Nat) : Ob := .ins "Machine" [("kept_letters", .fz (.str L)), ("kept_table", .fz (tabD T)), ("kept_accepts", .fz (accD A)), ("kept_least", .fz .non), ("kept_field", .fz .non), ("kept_lots", .dct [] []), ("kept_more", .dct [] [])]
/-- the machine at m -/
structure Mac (w : W) (m : Nat) (L : Tx) (T : List (List Nat)) (A : List Nat) : Prop where
  fl : ∀ cs, "Machine" ∈ cs → fldO cs "kept_letters" w (.obj m) = some (.str L)
  ft : ∀ cs, "Machine" ∈ cs → fldO cs "kept_table" w (.obj m) = some (tabD T)
  fa : ∀ cs, "Machine" ∈ cs → fldO cs "kept_accepts" w (.obj m) = some (accD A)
theorem Mac.new {w : W} {m : Nat} {L T A} (h : w[m]? = some (newM L T A)) : Mac w m L T A := by
  refine ⟨fun cs hc => ?_, fun cs hc => ?_, fun cs hc => ?_⟩
  all_goals simp [fldO, h, newM, hc, List.lookup]
theorem Mac.but {w w' : W} {m n : Nat} {L T A} (h : Mac w m L T A) (hb : But n w w') (hn : m ≠ n) : Mac w' m L T A := by
  refine ⟨fun cs hc => ?_, fun cs hc => ?_, fun cs hc => ?_⟩
  · have := h.fl cs hc; simpa only [fldO, hb.2 m hn] using this
  · have := h.ft cs hc; simpa only [fldO, hb.2 m hn] using this
  · have := h.fa cs hc; simpa only [fldO, hb.2 m hn] using this
theorem Mac.snoc {w : W} {m : Nat} {L T A} {o : Ob} (h : Mac w m L T A) (hn : m < w.length) : Mac (w ++ [o]) m L T A := by
  have e : (w ++ [o])[m]? = w[m]? := List.getElem?_append_left hn
  refine ⟨fun cs hc => ?_, fun cs hc => ?_, fun cs hc => ?_⟩
  · have := h.fl cs hc; simpa only [fldO, e] using this
  · have := h.ft cs hc; simpa only [fldO, e] using this
  · have := h.fa cs hc; simpa only [fldO, e] using this
theorem Hand.snoc {w : W} {n : Nat} {o : Ob} (h : Hand w n) : Hand (w ++ [o]) n := by
  obtain ⟨c, i, b, s, k, e, hi⟩ := h
  exact ⟨c, i, b, s, k, by rw [List.getElem?_append_left (lt_of_get e)]; exact e, hi⟩
theorem Mac.made {w : W} {L T A} : Mac (w ++ [newM L T A]) w.length L T A := Mac.new (by rw [List.getElem?_append_right (by omega), Nat.sub_self]; rfl)
end M

/-! Comprehensions whose suite changes nothing. -/
namespace M
theorem wD.mono {α : Type} {o : Option α} {Q Q' : α → Prop} (h : wD o Q) (k : ∀ a, Q a → Q' a) : wD o Q' := by
  rw [wD_eq] at *
  cases o with
  | none => exact h
  | some a => exact k a h
theorem lc_flt {own : List Nat} {g : MG} {t : MT} {e : ME} {γ : Type} {f : γ → D} {cs : List γ} {Q : List D → PSt → Prop} {X : Exc → PSt → Prop} {env : List (Option O)} {w : W} (p : γ → Bool) (v : γ → D) (hl : cs.length ≤ 16777216)
    (step : ∀ c ∈ cs, wD (g (f c) ⟨wipeE own env, w⟩) fun ρ1 => wE (t ρ1) (fun k ρ2 => k = p c ∧ ρ2.w = w ∧ wipeE own ρ2.env = wipeE own env ∧ (p c = true → wE (e ρ2) (fun y ρ3 => y = v c ∧ ρ3.w = w ∧ wipeE own ρ3.env = wipeE own env) PX)) PX)
    (hend : ∀ env2, wipeE own env2 = wipeE own env → Q ((cs.filter p).map v) ⟨env2, w⟩) : wE (lcL own g t e (cs.map f) [] ⟨env, w⟩) Q X := by
  refine lc_inv hl (fun pre acc ρ => acc = (pre.filter p).map v ∧ ρ.w = w ∧ wipeE own ρ.env = wipeE own env) ⟨rfl, rfl, rfl⟩ ?_ ?_
  · rintro pre c post acc ρ ec ⟨rfl, hw, he⟩
    have s := step c (by rw [ec]; simp)
    rw [he, hw]
    refine s.mono fun ρ1 s => ?_
    refine s.mono ?_ (fun _ _ z => z)
    rintro k ρ2 ⟨rfl, h1, h2, h3⟩
    cases hp : p c with
    | false =>
      rw [wI_f]
      exact ⟨by simp [hp], h1, h2⟩
    | true =>
      rw [wI_t]
      refine (h3 hp).mono ?_ (fun _ _ z => z)
      rintro y ρ3 ⟨rfl, h4, h5⟩
      exact ⟨by simp [hp], h4, h5⟩
  · rintro acc ⟨env2, w2⟩ ⟨rfl, hw, he⟩
    simp only at hw he
    subst hw
    exact hend env2 he
theorem lc_map {own : List Nat} {g : MG} {t : MT} {e : ME} {γ : Type} {f : γ → D} {cs : List γ} {Q : List D → PSt → Prop} {X : Exc → PSt → Prop} {env : List (Option O)} {w : W} (v : γ → D) (hl : cs.length ≤ 16777216)
    (step : ∀ c ∈ cs, wD (g (f c) ⟨wipeE own env, w⟩) fun ρ1 => wE (t ρ1) (fun k ρ2 => k = true ∧ wE (e ρ2) (fun y ρ3 => y = v c ∧ ρ3.w = w ∧ wipeE own ρ3.env = wipeE own env) PX) PX)
    (hend : ∀ env2, wipeE own env2 = wipeE own env → Q (cs.map v) ⟨env2, w⟩) : wE (lcL own g t e (cs.map f) [] ⟨env, w⟩) Q X := by
  refine lc_inv hl (fun pre acc ρ => acc = pre.map v ∧ ρ.w = w ∧ wipeE own ρ.env = wipeE own env) ⟨rfl, rfl, rfl⟩ ?_ ?_
  · rintro pre c post acc ρ ec ⟨rfl, hw, he⟩
    have s := step c (by rw [ec]; simp)
    rw [he, hw]
    refine s.mono fun ρ1 s => ?_
    refine s.mono ?_ (fun _ _ z => z)
    rintro k ρ2 ⟨rfl, h3⟩
    rw [wI_t]
    refine h3.mono ?_ (fun _ _ z => z)
    rintro y ρ3 ⟨rfl, h4, h5⟩
    exact ⟨by simp, h4, h5⟩
  · rintro acc ⟨env2, w2⟩ ⟨rfl, hw, he⟩
    simp only at hw he
    subst hw
    exact hend env2 he
/-- over a range -/
theorem lcr_flt {own : List Nat} {g : MG} {t : MT} {e : ME} {lo : Int} {n : Nat} {Q : List D → PSt → Prop} {X : Exc → PSt → Prop} {env : List (Option O)} {w : W} (p : Nat → Bool) (v : Nat → D) (hl : n ≤ 16777216)
    (step : ∀ c < n, wD (g (.int (lo + (c : Nat))) ⟨wipeE own env, w⟩) fun ρ1 => wE (t ρ1) (fun k ρ2 => k = p c ∧ ρ2.w = w ∧ wipeE own ρ2.env = wipeE own env ∧ (p c = true → wE (e ρ2) (fun y ρ3 => y = v c ∧ ρ3.w = w ∧ wipeE own ρ3.env = wipeE own env) PX)) PX)
    (hend : ∀ env2, wipeE own env2 = wipeE own env → Q (((List.range n).filter p).map v) ⟨env2, w⟩) : wE (lcL own g t e (rgI lo n) [] ⟨env, w⟩) Q X :=
  lc_flt (f := fun i : Nat => D.int (lo + (i : Nat))) p v (by simpa using hl) (fun c hc => step c (List.mem_range.mp hc)) hend
theorem lcr_map {own : List Nat} {g : MG} {t : MT} {e : ME} {lo : Int} {n : Nat} {Q : List D → PSt → Prop} {X : Exc → PSt → Prop} {env : List (Option O)} {w : W} (v : Nat → D) (hl : n ≤ 16777216)
    (step : ∀ c < n, wD (g (.int (lo + (c : Nat))) ⟨wipeE own env, w⟩) fun ρ1 => wE (t ρ1) (fun k ρ2 => k = true ∧ wE (e ρ2) (fun y ρ3 => y = v c ∧ ρ3.w = w ∧ wipeE own ρ3.env = wipeE own env) PX) PX)
    (hend : ∀ env2, wipeE own env2 = wipeE own env → Q ((List.range n).map v) ⟨env2, w⟩) : wE (lcL own g t e (rgI lo n) [] ⟨env, w⟩) Q X :=
  lc_map (f := fun i : Nat => D.int (lo + (i : Nat))) v (by simpa using hl) (fun c hc => step c (List.mem_range.mp hc)) hend
/-- a walk of a few things, one by one -/
theorem s_forN {g : MG} {b : MS} {ρ : PSt} {N bk ct : PSt → Prop} {rt : O → W → Prop} {ex : Exc → PSt → Prop} (h : N ρ) : wS (forL g b [] ρ) ⟨N, rt, bk, ct, ex⟩ := by
  rw [wS_eq]; exact h
theorem s_forC {g : MG} {b : MS} {ρ : PSt} {d : D} {ds : List D} {N bk ct : PSt → Prop} {rt : O → W → Prop} {ex : Exc → PSt → Prop}
    (h : wD (g d ρ) fun ρ1 => wS (b ρ1) ⟨fun ρ2 => wS (forL g b ds ρ2) ⟨N, rt, bk, ct, ex⟩, rt, N, fun ρ2 => wS (forL g b ds ρ2) ⟨N, rt, bk, ct, ex⟩, ex⟩) : wS (forL g b (d :: ds) ρ) ⟨N, rt, bk, ct, ex⟩ := by
  rw [wD_eq] at h
  rw [wS_eq]
  unfold forL
  cases hg : g d ρ with
  | none => rw [hg] at h; exact h
  | some ρ1 =>
    rw [hg] at h
    have h : wS (b ρ1) _ := h
    rw [wS_eq] at h
    dsimp only
    cases hb : b ρ1 with
    | nx ρ2 => rw [hb] at h; have h : wS _ _ := h; rw [wS_eq] at h; exact h
    | ct ρ2 => rw [hb] at h; have h : wS _ _ := h; rw [wS_eq] at h; exact h
    | bk ρ2 => rw [hb] at h; exact h
    | rt o w => rw [hb] at h; exact h
    | exc x ρ2 => rw [hb] at h; exact h
    | bad => rw [hb] at h; exact h
end M

namespace M
def f_is_integer : MF := fnM 1 1 ((sRet (oE (eAnd (eUn (pIsT "int") (eV 0)) (eNot (eUn (pIsT "bool") (eV 0)))))))
def f_is_string_of : MF := fnM 2 3 ((sSeq (sIf (tNot (tE (eUn (pIsT "str") (eV 0)))) (sRet (oE (eC (.bl false)))) sPass)
  (sSeq (sFor (iSeq (eV 0)) (gN 2) (sIf (tE (eOp pNotIn (eV 2) (eV 1))) (sRet (oE (eC (.bl false)))) sPass))
  (sRet (oE (eC (.bl true)))))))
def f_is_ascending : MF := fnM 1 3 ((sSeq (sFor (iZip (eV 0) (eSl (eV 0) (pSo (eC (.int 1))) pNo)) (gT [1, 2]) (sIf (tE (eOp pGe (eV 1) (eV 2))) (sRet (oE (eC (.bl false)))) sPass))
  (sRet (oE (eC (.bl true))))))
def f_is_choice : MF := fnM 2 2 ((sRet (oE (eAnd (eO (oCall f_is_string_of (aCons (eV 0) (aCons (eV 1) aNil)))) (eO (oCall f_is_ascending (aCons (eV 0) aNil)))))))
def f_is_letter : MF := fnM 2 2 ((sRet (oE (eAnd (eO (oCall f_is_string_of (aCons (eV 0) (aCons (eV 1) aNil)))) (eOp pEq (eUn pLen (eV 0)) (eC (.int 1)))))))
def f_is_between : MF := fnM 3 3 ((sRet (oE (eAnd (eO (oCall f_is_integer (aCons (eV 0) aNil))) (eChain pLe pLe (eV 1) (eV 0) (eV 2))))))
def f_is_small_word : MF := fnM 2 2 ((sRet (oE (eAnd (eO (oCall f_is_string_of (aCons (eV 0) (aCons (eV 1) aNil)))) (eChain pLe pLe (eC (.int 1)) (eUn pLen (eV 0)) (eC (.int 4)))))))
def f_is_plain : MF := fnM 2 2 ((sSeq (sIf (tAnd (tE (eOp pEq (eUn pLen (eV 0)) (eC (.int 2)))) (tE (eOp pIn (eOp pIx (eV 0) (eC (.int 0))) (eTup (aCons (eC (.str [102, 105, 114, 115, 116])) (aCons (eC (.str [108, 97, 115, 116])) aNil)))))) (sRet (oCall f_is_letter (aCons (eOp pIx (eV 0) (eC (.int 1))) (aCons (eV 1) aNil)))) sPass)
  (sSeq (sIf (tAnd (tE (eOp pEq (eUn pLen (eV 0)) (eC (.int 2)))) (tE (eOp pIn (eOp pIx (eV 0) (eC (.int 0))) (eTup (aCons (eC (.str [105, 110])) (aCons (eC (.str [114, 111, 119])) aNil)))))) (sRet (oCall f_is_small_word (aCons (eOp pIx (eV 0) (eC (.int 1))) (aCons (eV 1) aNil)))) sPass)
  (sSeq (sIf (tAnd (tE (eOp pEq (eUn pLen (eV 0)) (eC (.int 2)))) (tE (eOp pEq (eOp pIx (eV 0) (eC (.int 0))) (eC (.str [111, 110, 108, 121]))))) (sRet (oCall f_is_choice (aCons (eOp pIx (eV 0) (eC (.int 1))) (aCons (eV 1) aNil)))) sPass)
  (sSeq (sIf (tAnd (tE (eOp pEq (eUn pLen (eV 0)) (eC (.int 3)))) (tE (eOp pEq (eOp pIx (eV 0) (eC (.int 0))) (eC (.str [108, 101, 97, 115, 116]))))) (sRet (oE (eAnd (eO (oCall f_is_letter (aCons (eOp pIx (eV 0) (eC (.int 1))) (aCons (eV 1) aNil)))) (eO (oCall f_is_between (aCons (eOp pIx (eV 0) (eC (.int 2))) (aCons (eC (.int 1)) (aCons (eC (.int 5)) aNil)))))))) sPass)
  (sSeq (sIf (tAnd (tE (eOp pEq (eUn pLen (eV 0)) (eC (.int 4)))) (tE (eOp pEq (eOp pIx (eV 0) (eC (.int 0))) (eC (.str [99, 111, 117, 110, 116]))))) (sRet (oE (eAnd (eO (oCall f_is_letter (aCons (eOp pIx (eV 0) (eC (.int 1))) (aCons (eV 1) aNil)))) (eAnd (eO (oCall f_is_between (aCons (eOp pIx (eV 0) (eC (.int 2))) (aCons (eC (.int 1)) (aCons (eC (.int 6)) aNil))))) (eO (oCall f_is_between (aCons (eOp pIx (eV 0) (eC (.int 3))) (aCons (eC (.int 0)) (aCons (eOp pSub (eOp pIx (eV 0) (eC (.int 2))) (eC (.int 1))) aNil))))))))) sPass)
  (sRet (oE (eC (.bl false))))))))))
def f_parts_of : MF := fnM 1 1 ((sSeq (sIf (tAnd (tE (eUn (pInK [([110, 111, 116], true), ([97, 110, 100], true), ([111, 114], true), ([99, 117, 116], false), ([99, 117, 116, 108, 97, 115, 116], false), ([102, 105, 114, 115, 116], false), ([108, 97, 115, 116], false), ([99, 111, 117, 110, 116], false), ([108, 101, 97, 115, 116], false), ([105, 110], false), ([114, 111, 119], false), ([111, 110, 108, 121], false)]) (eOp pIx (eV 0) (eC (.int 0))))) (tE (eOp pEq (eUn pLen (eV 0)) (eOp pAdd (eC (.int 1)) (eUn (pItK [([110, 111, 116], (1 : Int)), ([97, 110, 100], (2 : Int)), ([111, 114], (2 : Int))]) (eOp pIx (eV 0) (eC (.int 0)))))))) (sRet (oE (eSl (eV 0) (pSo (eC (.int 1))) pNo))) sPass)
  (sSeq (sIf (tAnd (tE (eOp pIn (eOp pIx (eV 0) (eC (.int 0))) (eC (.tup [(.str [99, 117, 116]), (.str [99, 117, 116, 108, 97, 115, 116])])))) (tE (eOp pEq (eUn pLen (eV 0)) (eC (.int 4))))) (sRet (oE (eSl (eV 0) (pSo (eC (.int 2))) pNo))) sPass)
  (sRet (oE (eTup aNil))))))
def f_is_saying : Nat → MF
  | 0 => fun _ _ => .bad
  | n + 1 => fnM 3 5 ((sSeq (sIf (tOr (tNot (tE (eUn (pIsT "tuple") (eV 0)))) (tOr (tE (eOp pEq (eUn pLen (eV 0)) (eC (.int 0)))) (tOr (tNot (tE (eUn (pIsT "str") (eOp pIx (eV 0) (eC (.int 0)))))) (tE (eOp pEq (eV 2) (eC (.int 0))))))) (sRet (oE (eC (.bl false)))) sPass)
  (sSeq (sSet 3 (oCall f_parts_of (aCons (eV 0) aNil)))
  (sSeq (sIf (tE (eOp pEq (eUn pLen (eV 3)) (eC (.int 0)))) (sRet (oCall f_is_plain (aCons (eV 0) (aCons (eV 1) aNil)))) sPass)
  (sSeq (sIf (tAnd (tE (eOp pIn (eOp pIx (eV 0) (eC (.int 0))) (eC (.tup [(.str [99, 117, 116]), (.str [99, 117, 116, 108, 97, 115, 116])])))) (tNot (tE (eO (oCall f_is_letter (aCons (eOp pIx (eV 0) (eC (.int 1))) (aCons (eV 1) aNil))))))) (sRet (oE (eC (.bl false)))) sPass)
  (sRet (oE (eUn pAll (eLc [4] (iSeq (eV 3)) (gN 4) tT (eO (oCall (f_is_saying n) (aCons (eV 4) (aCons (eV 1) (aCons (eOp pSub (eV 2) (eC (.int 1))) aNil))))))))))))))
def f_check_saying : MF := fnM 2 2 ((sSeq (sIf (tOr (tNot (tE (eO (oCall f_is_choice (aCons (eV 0) (aCons (eC (.str [97, 98, 99, 100, 101, 102, 103, 104, 105, 106, 107, 108, 109, 110, 111, 112, 113, 114, 115, 116, 117, 118, 119, 120, 121, 122])) aNil)))))) (tNot (tE (eChain pLe pLe (eC (.int 1)) (eUn pLen (eV 0)) (eC (.int 4)))))) (sRaise "NoLetters") sPass)
  (sIf (tNot (tE (eO (oCall (f_is_saying 7) (aCons (eV 1) (aCons (eV 0) (aCons (eC (.int 6)) aNil))))))) (sRaise "NoSaying") sPass)))
def f_stands_in : MF := fnM 2 4 ((sSeq (sSet 2 (oE (eC (.int 0))))
  (sSeq (sFor (iSeq (eV 0)) (gN 3) (sIf (tAnd (tE (eOp pLt (eV 2) (eUn pLen (eV 1)))) (tE (eOp pEq (eV 3) (eOp pIx (eV 1) (eV 2))))) (sAug pAddI 2 (eC (.int 1))) sPass))
  (sRet (oE (eOp pEq (eV 2) (eUn pLen (eV 1))))))))
def f_is_so : Nat → MF
  | 0 => fun _ _ => .bad
  | n + 1 => fnM 2 4 ((sSeq (sSet 2 (oE (eOp pIx (eV 0) (eC (.int 0)))))
  (sSeq (sIf (tE (eOp pEq (eV 2) (eC (.str [110, 111, 116])))) (sRet (oE (eNot (eO (oCall (f_is_so n) (aCons (eOp pIx (eV 0) (eC (.int 1))) (aCons (eV 1) aNil))))))) sPass)
  (sSeq (sIf (tE (eOp pEq (eV 2) (eC (.str [97, 110, 100])))) (sRet (oE (eAnd (eO (oCall (f_is_so n) (aCons (eOp pIx (eV 0) (eC (.int 1))) (aCons (eV 1) aNil)))) (eO (oCall (f_is_so n) (aCons (eOp pIx (eV 0) (eC (.int 2))) (aCons (eV 1) aNil))))))) sPass)
  (sSeq (sIf (tE (eOp pEq (eV 2) (eC (.str [111, 114])))) (sRet (oE (eOr (eO (oCall (f_is_so n) (aCons (eOp pIx (eV 0) (eC (.int 1))) (aCons (eV 1) aNil)))) (eO (oCall (f_is_so n) (aCons (eOp pIx (eV 0) (eC (.int 2))) (aCons (eV 1) aNil))))))) sPass)
  (sSeq (sIf (tE (eOp pIn (eV 2) (eC (.tup [(.str [99, 117, 116]), (.str [99, 117, 116, 108, 97, 115, 116])])))) (sSeq (sSet 3 (oE (eMt mFind (eV 1) (aCons (eOp pIx (eV 0) (eC (.int 1))) aNil))))
  (sSeq (sIf (tE (eOp pEq (eV 2) (eC (.str [99, 117, 116, 108, 97, 115, 116])))) (sSet 3 (oE (eMt mRfind (eV 1) (aCons (eOp pIx (eV 0) (eC (.int 1))) aNil)))) sPass)
  (sRet (oE (eAnd (eOp pGe (eV 3) (eC (.int 0))) (eAnd (eO (oCall (f_is_so n) (aCons (eOp pIx (eV 0) (eC (.int 2))) (aCons (eSl (eV 1) pNo (pSo (eV 3))) aNil)))) (eO (oCall (f_is_so n) (aCons (eOp pIx (eV 0) (eC (.int 3))) (aCons (eSl (eV 1) (pSo (eOp pAdd (eV 3) (eC (.int 1)))) pNo) aNil)))))))))) sPass)
  (sSeq (sIf (tE (eOp pEq (eV 2) (eC (.str [102, 105, 114, 115, 116])))) (sRet (oE (eOp pEq (eSl (eV 1) pNo (pSo (eC (.int 1)))) (eOp pIx (eV 0) (eC (.int 1)))))) sPass)
  (sSeq (sIf (tE (eOp pEq (eV 2) (eC (.str [108, 97, 115, 116])))) (sRet (oE (eOp pEq (eSl (eV 1) (pSo (eUn pNeg (eC (.int 1)))) pNo) (eOp pIx (eV 0) (eC (.int 1)))))) sPass)
  (sSeq (sIf (tE (eOp pEq (eV 2) (eC (.str [99, 111, 117, 110, 116])))) (sRet (oE (eOp pEq (eOp pMod (eMt mCount (eV 1) (aCons (eOp pIx (eV 0) (eC (.int 1))) aNil)) (eOp pIx (eV 0) (eC (.int 2)))) (eOp pIx (eV 0) (eC (.int 3)))))) sPass)
  (sSeq (sIf (tE (eOp pEq (eV 2) (eC (.str [108, 101, 97, 115, 116])))) (sRet (oE (eOp pGe (eMt mCount (eV 1) (aCons (eOp pIx (eV 0) (eC (.int 1))) aNil)) (eOp pIx (eV 0) (eC (.int 2)))))) sPass)
  (sSeq (sIf (tE (eOp pEq (eV 2) (eC (.str [105, 110])))) (sRet (oCall f_stands_in (aCons (eV 1) (aCons (eOp pIx (eV 0) (eC (.int 1))) aNil)))) sPass)
  (sSeq (sIf (tE (eOp pEq (eV 2) (eC (.str [114, 111, 119])))) (sRet (oE (eOp pInT (eOp pIx (eV 0) (eC (.int 1))) (eV 1)))) sPass)
  (sRet (oCall f_is_string_of (aCons (eV 1) (aCons (eOp pIx (eV 0) (eC (.int 1))) aNil))))))))))))))))
def f_holds : MF := fnM 3 3 ((sSeq (sExpr (eO (oCall f_check_saying (aCons (eV 0) (aCons (eV 1) aNil)))))
  (sSeq (sIf (tNot (tE (eO (oCall f_is_string_of (aCons (eV 2) (aCons (eV 0) aNil)))))) (sRaise "NoWord") sPass)
  (sRet (oCall (f_is_so 7) (aCons (eV 1) (aCons (eV 2) aNil)))))))
def f__law_hand : MF := fnM 1 3 ((sSeq (sSet 1 (oLc [2] (iSeq (eSl (eV 0) pNo (pSo (eC (.int 63))))) (gN 2) tT (eUn pAbs (eUn pInt (eV 2)))))
  (sRet (oObj (aCons (eV 1) (aCons (eC (.int 0)) (aCons (eC (.int 0)) (aCons (eOp pAdd (eC (.int 1)) (eUn pLen (eV 1))) (aCons (eC (.int 0)) aNil)))))))))
def f__law_draw : MF := fnM 2 5 ((sSeq (sIf (tAnd (tE (eOp pEq (eIxW (eV 0) (eC (.int 2))) (eC (.int 0)))) (tE (eOp pLt (eIxW (eV 0) (eC (.int 1))) (eUn pLen (eIxW (eV 0) (eC (.int 0))))))) (sSeq (sSet 2 (oE (eOp pIx (eIxW (eV 0) (eC (.int 0))) (eIxW (eV 0) (eC (.int 1))))))
  (sSeq (sStoW (eV 0) (eC (.int 1)) (eOp pAdd (eIxW (eV 0) (eC (.int 1))) (eC (.int 1))))
  (sSeq (sStoW (eV 0) (eC (.int 3)) (eOp pMod (eUn pInt (eOp pAdd (eOp pAdd (eOp pMul (eIxW (eV 0) (eC (.int 3))) (eC (.int 69621))) (eV 2)) (eC (.int 11)))) (eC (.int 2147483629))))
  (sIf (tE (eOp pGe (eV 2) (eOp pPow (eC (.int 10)) (eC (.int 18))))) (sStoW (eV 0) (eC (.int 2)) (eV 2)) sPass)))) sPass)
  (sSeq (sIf (tE (eOp pGt (eIxW (eV 0) (eC (.int 2))) (eC (.int 0)))) (sSeq (sSet 3 (oE (eOp pMod (eUn pInt (eIxW (eV 0) (eC (.int 2)))) (eV 1))))
  (sSeq (sStoW (eV 0) (eC (.int 2)) (eOp pFdiv (eIxW (eV 0) (eC (.int 2))) (eV 1)))
  (sRet (oV 3)))) sPass)
  (sSeq (sStoW (eV 0) (eC (.int 4)) (eOp pAdd (eIxW (eV 0) (eC (.int 4))) (eC (.int 1))))
  (sSeq (sSet 4 (oE (eOp pMod (eUn pInt (eOp pMul (eUn pInt (eOp pAdd (eIxW (eV 0) (eC (.int 3))) (eOp pMul (eC (.int 7919)) (eIxW (eV 0) (eC (.int 4)))))) (eC (.int 48271)))) (eC (.int 2147483647)))))
  (sSeq (sSet 4 (oE (eOp pMod (eUn pInt (eOp pMul (eV 4) (eOp pAdd (eOp pFdiv (eV 4) (eC (.int 1009))) (eC (.int 69621))))) (eC (.int 2147483647)))))
  (sSeq (sSet 4 (oE (eOp pMod (eUn pInt (eOp pMul (eV 4) (eOp pAdd (eOp pFdiv (eV 4) (eC (.int 2003))) (eC (.int 40692))))) (eC (.int 2147483399)))))
  (sRet (oE (eOp pMod (eUn pInt (eOp pFdiv (eV 4) (eC (.int 16)))) (eV 1)))))))))))
def f__law_letters : MF := fnM 3 7 ((sSeq (sSet 3 (oE (eV 1)))
  (sSeq (sSet 4 (oE (eC (.str []))))
  (sSeq (sFor (iRange1 (eV 2)) (gN 5) (sSeq (sSet 6 (oCall f__law_draw (aCons (eV 0) (aCons (eUn pLen (eV 3)) aNil))))
  (sSeq (sSet 4 (oE (eOp pAdd (eV 4) (eOp pIx (eV 3) (eV 6)))))
  (sSet 3 (oE (eOp pAdd (eSl (eV 3) pNo (pSo (eV 6))) (eSl (eV 3) (pSo (eOp pAdd (eV 6) (eC (.int 1)))) pNo)))))))
  (sRet (oV 4))))))
def f__law_word : MF := fnM 3 5 ((sSeq (sSet 3 (oE (eC (.str []))))
  (sSeq (sFor (iRange1 (eV 2)) (gN 4) (sSet 3 (oE (eOp pAdd (eV 3) (eOp pIx (eV 1) (eO (oCall f__law_draw (aCons (eV 0) (aCons (eUn pLen (eV 1)) aNil)))))))))
  (sRet (oV 3)))))
def f__law_plain : MF := fnM 2 6 ((sSeq (sSet 2 (oE (eOp pIx (eLst (aCons (eC (.str [102, 105, 114, 115, 116])) (aCons (eC (.str [108, 97, 115, 116])) (aCons (eC (.str [99, 111, 117, 110, 116])) (aCons (eC (.str [108, 101, 97, 115, 116])) (aCons (eC (.str [105, 110])) (aCons (eC (.str [114, 111, 119])) (aCons (eC (.str [111, 110, 108, 121])) aNil)))))))) (eO (oCall f__law_draw (aCons (eV 0) (aCons (eC (.int 7)) aNil)))))))
  (sSeq (sSet 3 (oE (eOp pIx (eV 1) (eO (oCall f__law_draw (aCons (eV 0) (aCons (eUn pLen (eV 1)) aNil)))))))
  (sSeq (sIf (tOr (tE (eOp pEq (eV 2) (eC (.str [102, 105, 114, 115, 116])))) (tE (eOp pEq (eV 2) (eC (.str [108, 97, 115, 116]))))) (sRet (oE (eTup (aCons (eV 2) (aCons (eV 3) aNil))))) sPass)
  (sSeq (sIf (tE (eOp pEq (eV 2) (eC (.str [99, 111, 117, 110, 116])))) (sSeq (sSet 4 (oE (eOp pAdd (eC (.int 1)) (eO (oCall f__law_draw (aCons (eV 0) (aCons (eC (.int 6)) aNil)))))))
  (sRet (oE (eTup (aCons (eV 2) (aCons (eV 3) (aCons (eV 4) (aCons (eO (oCall f__law_draw (aCons (eV 0) (aCons (eV 4) aNil)))) aNil)))))))) sPass)
  (sSeq (sIf (tE (eOp pEq (eV 2) (eC (.str [108, 101, 97, 115, 116])))) (sRet (oE (eTup (aCons (eV 2) (aCons (eV 3) (aCons (eOp pAdd (eC (.int 1)) (eO (oCall f__law_draw (aCons (eV 0) (aCons (eC (.int 5)) aNil))))) aNil)))))) sPass)
  (sSeq (sIf (tE (eOp pEq (eV 2) (eC (.str [111, 110, 108, 121])))) (sRet (oE (eTup (aCons (eV 2) (aCons (eMt mJoin (eC (.str [])) (aCons (eLc [5] (iSeq (eV 1)) (gN 5) (tE (eOp pGt (eO (oCall f__law_draw (aCons (eV 0) (aCons (eC (.int 3)) aNil)))) (eC (.int 0)))) (eV 5)) aNil)) aNil))))) sPass)
  (sRet (oE (eTup (aCons (eV 2) (aCons (eO (oCall f__law_word (aCons (eV 0) (aCons (eV 1) (aCons (eOp pAdd (eC (.int 1)) (eO (oCall f__law_draw (aCons (eV 0) (aCons (eC (.int 4)) aNil))))) aNil))))) aNil))))))))))))
def f__law_saying : Nat → MF
  | 0 => fun _ _ => .bad
  | n + 1 => fnM 3 7 ((sSeq (sSet 3 (oCall f__law_draw (aCons (eV 0) (aCons (eC (.int 8)) aNil))))
  (sSeq (sIf (tOr (tE (eOp pEq (eV 2) (eC (.int 1)))) (tE (eOp pGt (eV 3) (eC (.int 5))))) (sRet (oCall f__law_plain (aCons (eV 0) (aCons (eV 1) aNil)))) sPass)
  (sSeq (sIf (tE (eOp pEq (eV 3) (eC (.int 0)))) (sRet (oE (eTup (aCons (eC (.str [110, 111, 116])) (aCons (eO (oCall (f__law_saying n) (aCons (eV 0) (aCons (eV 1) (aCons (eOp pSub (eV 2) (eC (.int 1))) aNil))))) aNil))))) sPass)
  (sSeq (sSet 4 (oE (eOp pIx (eV 1) (eO (oCall f__law_draw (aCons (eV 0) (aCons (eUn pLen (eV 1)) aNil)))))))
  (sSeq (sSet 5 (oCall (f__law_saying n) (aCons (eV 0) (aCons (eV 1) (aCons (eOp pSub (eV 2) (eC (.int 1))) aNil)))))
  (sSeq (sSet 6 (oCall (f__law_saying n) (aCons (eV 0) (aCons (eV 1) (aCons (eOp pSub (eV 2) (eC (.int 1))) aNil)))))
  (sSeq (sIf (tOr (tE (eOp pEq (eV 3) (eC (.int 1)))) (tE (eOp pEq (eV 3) (eC (.int 2))))) (sRet (oE (eTup (aCons (eOp pIx (eLst (aCons (eC (.str [97, 110, 100])) (aCons (eC (.str [111, 114])) aNil))) (eOp pSub (eV 3) (eC (.int 1)))) (aCons (eV 5) (aCons (eV 6) aNil)))))) sPass)
  (sRet (oE (eTup (aCons (eOp pIx (eLst (aCons (eC (.str [99, 117, 116])) (aCons (eC (.str [99, 117, 116, 108, 97, 115, 116])) (aCons (eC (.str [99, 117, 116])) aNil)))) (eOp pSub (eV 3) (eC (.int 3)))) (aCons (eV 4) (aCons (eV 5) (aCons (eV 6) aNil)))))))))))))))
def f__law_stands : MF := fnM 2 5 ((sSeq (sSet 2 (oE (eC (.int 0))))
  (sSeq (sFor (iSeq (eV 1)) (gN 3) (sSeq (sSet 4 (oE (eMt mFind2 (eV 0) (aCons (eV 3) (aCons (eV 2) aNil)))))
  (sSeq (sIf (tE (eOp pLt (eV 4) (eC (.int 0)))) (sRet (oE (eC (.bl false)))) sPass)
  (sSet 2 (oE (eOp pAdd (eV 4) (eC (.int 1))))))))
  (sRet (oE (eC (.bl true)))))))
def f__law_plain_so : MF := fnM 2 7 ((sSeq (sSet 2 (oE (eOp pIx (eV 0) (eC (.int 0)))))
  (sSeq (sIf (tE (eOp pEq (eV 2) (eC (.str [102, 105, 114, 115, 116])))) (sRet (oE (eAnd (eOp pGt (eUn pLen (eV 1)) (eC (.int 0))) (eOp pEq (eOp pIx (eV 1) (eC (.int 0))) (eOp pIx (eV 0) (eC (.int 1))))))) sPass)
  (sSeq (sIf (tE (eOp pEq (eV 2) (eC (.str [108, 97, 115, 116])))) (sRet (oE (eAnd (eOp pGt (eUn pLen (eV 1)) (eC (.int 0))) (eOp pEq (eOp pIx (eV 1) (eOp pSub (eUn pLen (eV 1)) (eC (.int 1)))) (eOp pIx (eV 0) (eC (.int 1))))))) sPass)
  (sSeq (sSet 3 (oE (eUn pSum (eLc [5] (iSeq (eV 1)) (gN 5) tT (eUn pInt (eOp pEq (eV 5) (eOp pIx (eV 0) (eC (.int 1)))))))))
  (sSeq (sIf (tE (eOp pEq (eV 2) (eC (.str [99, 111, 117, 110, 116])))) (sRet (oE (eOp pEq (eOp pMod (eUn pInt (eOp pSub (eV 3) (eOp pIx (eV 0) (eC (.int 3))))) (eOp pIx (eV 0) (eC (.int 2)))) (eC (.int 0))))) sPass)
  (sSeq (sIf (tE (eOp pEq (eV 2) (eC (.str [108, 101, 97, 115, 116])))) (sRet (oE (eOp pGe (eV 3) (eOp pIx (eV 0) (eC (.int 2)))))) sPass)
  (sSeq (sIf (tE (eOp pEq (eV 2) (eC (.str [105, 110])))) (sRet (oCall f__law_stands (aCons (eV 1) (aCons (eOp pIx (eV 0) (eC (.int 1))) aNil)))) sPass)
  (sSeq (sIf (tE (eOp pEq (eV 2) (eC (.str [114, 111, 119])))) (sSeq (sSet 4 (oE (eUn pLen (eOp pIx (eV 0) (eC (.int 1))))))
  (sRet (oE (eUn pAny (eLc [6] (iRange1 (eUn pLen (eV 1))) (gN 6) tT (eOp pEq (eSl (eV 1) (pSo (eV 6)) (pSo (eOp pAdd (eV 6) (eV 4)))) (eOp pIx (eV 0) (eC (.int 1))))))))) sPass)
  (sRet (oE (eUn pAll (eLc [5] (iSeq (eV 1)) (gN 5) tT (eOp pIn (eV 5) (eOp pIx (eV 0) (eC (.int 1)))))))))))))))))
def f__law_so : Nat → MF
  | 0 => fun _ _ => .bad
  | n + 1 => fnM 2 5 ((sSeq (sSet 2 (oE (eOp pIx (eV 0) (eC (.int 0)))))
  (sSeq (sIf (tE (eOp pEq (eV 2) (eC (.str [110, 111, 116])))) (sRet (oE (eNot (eO (oCall (f__law_so n) (aCons (eOp pIx (eV 0) (eC (.int 1))) (aCons (eV 1) aNil))))))) sPass)
  (sSeq (sIf (tE (eOp pEq (eV 2) (eC (.str [97, 110, 100])))) (sRet (oE (eAnd (eO (oCall (f__law_so n) (aCons (eOp pIx (eV 0) (eC (.int 1))) (aCons (eV 1) aNil)))) (eO (oCall (f__law_so n) (aCons (eOp pIx (eV 0) (eC (.int 2))) (aCons (eV 1) aNil))))))) sPass)
  (sSeq (sIf (tE (eOp pEq (eV 2) (eC (.str [111, 114])))) (sRet (oE (eOr (eO (oCall (f__law_so n) (aCons (eOp pIx (eV 0) (eC (.int 1))) (aCons (eV 1) aNil)))) (eO (oCall (f__law_so n) (aCons (eOp pIx (eV 0) (eC (.int 2))) (aCons (eV 1) aNil))))))) sPass)
  (sSeq (sIf (tAnd (tE (eOp pNe (eV 2) (eC (.str [99, 117, 116])))) (tE (eOp pNe (eV 2) (eC (.str [99, 117, 116, 108, 97, 115, 116]))))) (sRet (oCall f__law_plain_so (aCons (eV 0) (aCons (eV 1) aNil)))) sPass)
  (sSeq (sSet 3 (oLc [4] (iRange1 (eUn pLen (eV 1))) (gN 4) (tE (eOp pEq (eOp pIx (eV 1) (eV 4)) (eOp pIx (eV 0) (eC (.int 1))))) (eV 4)))
  (sSeq (sIf (tE (eOp pEq (eUn pLen (eV 3)) (eC (.int 0)))) (sRet (oE (eC (.bl false)))) sPass)
  (sSeq (sSet 4 (oE (eOp pIx (eV 3) (eC (.int 0)))))
  (sSeq (sIf (tE (eOp pEq (eV 2) (eC (.str [99, 117, 116, 108, 97, 115, 116])))) (sSet 4 (oE (eOp pIx (eV 3) (eOp pSub (eUn pLen (eV 3)) (eC (.int 1)))))) sPass)
  (sRet (oE (eAnd (eO (oCall (f__law_so n) (aCons (eOp pIx (eV 0) (eC (.int 2))) (aCons (eSl (eV 1) pNo (pSo (eV 4))) aNil)))) (eO (oCall (f__law_so n) (aCons (eOp pIx (eV 0) (eC (.int 3))) (aCons (eSl (eV 1) (pSo (eOp pAdd (eV 4) (eC (.int 1)))) pNo) aNil)))))))))))))))))
def f__law_some_letters : MF := fnM 1 1 ((sRet (oE (eMt mJoin (eC (.str [])) (aCons (eUn pSorted (eO (oCall f__law_letters (aCons (eV 0) (aCons (eC (.str [97, 98, 99, 100, 101, 102, 103, 104, 105, 106, 107, 108, 109, 110, 111, 112, 113, 114, 115, 116, 117, 118, 119, 120, 121, 122])) (aCons (eOp pAdd (eC (.int 1)) (eO (oCall f__law_draw (aCons (eV 0) (aCons (eC (.int 4)) aNil))))) aNil)))))) aNil)))))
def f__law_flag : MF := fnM 2 2 ((sRet (oE (eAnd (eUn (pIsT "bool") (eV 0)) (eOp pEq (eV 0) (eV 1))))))
def f_law : MF := fnM 1 14 ((sSeq (sSet 1 (oCall f__law_hand (aCons (eV 0) aNil)))
  (sSeq (sSet 2 (oCall f__law_some_letters (aCons (eV 1) aNil)))
  (sSeq (sFor (iRange1 (eC (.int 5))) (gN 3) (sSeq (sSet 4 (oCall (f__law_saying 6) (aCons (eV 1) (aCons (eV 2) (aCons (eC (.int 5)) aNil)))))
  (sSeq (sSet 5 (oCall (f__law_saying 6) (aCons (eV 1) (aCons (eV 2) (aCons (eOp pAdd (eC (.int 1)) (eO (oCall f__law_draw (aCons (eV 1) (aCons (eC (.int 5)) aNil))))) aNil)))))
  (sSeq (sSet 6 (oE (eSl (eV 2) (pSo (eO (oCall f__law_draw (aCons (eV 1) (aCons (eUn pLen (eV 2)) aNil))))) pNo)))
  (sFor (iRange1 (eC (.int 3))) (gN 7) (sSeq (sSet 8 (oCall f__law_word (aCons (eV 1) (aCons (eOp pIx (eLst (aCons (eV 2) (aCons (eV 6) aNil))) (eOp pMod (eV 7) (eC (.int 2)))) (aCons (eO (oCall f__law_draw (aCons (eV 1) (aCons (eC (.int 41)) aNil)))) aNil)))))
  (sSeq (sSet 9 (oCall f_holds (aCons (eV 2) (aCons (eV 4) (aCons (eV 8) aNil)))))
  (sSeq (sSet 10 (oCall f_holds (aCons (eV 2) (aCons (eV 5) (aCons (eV 8) aNil)))))
  (sSeq (sIf (tOr (tNot (tE (eO (oCall f__law_flag (aCons (eV 9) (aCons (eO (oCall (f__law_so 7) (aCons (eV 4) (aCons (eV 8) aNil)))) aNil)))))) (tNot (tE (eO (oCall f__law_flag (aCons (eV 10) (aCons (eO (oCall (f__law_so 7) (aCons (eV 5) (aCons (eV 8) aNil)))) aNil))))))) (sRet (oE (eC (.bl false)))) sPass)
  (sSeq (sIf (tNot (tE (eO (oCall f__law_flag (aCons (eO (oCall f_holds (aCons (eV 2) (aCons (eTup (aCons (eC (.str [110, 111, 116])) (aCons (eV 4) aNil))) (aCons (eV 8) aNil))))) (aCons (eNot (eV 9)) aNil)))))) (sRet (oE (eC (.bl false)))) sPass)
  (sSeq (sIf (tNot (tE (eO (oCall f__law_flag (aCons (eO (oCall f_holds (aCons (eV 2) (aCons (eTup (aCons (eC (.str [97, 110, 100])) (aCons (eV 4) (aCons (eV 5) aNil)))) (aCons (eV 8) aNil))))) (aCons (eAnd (eV 9) (eV 10)) aNil)))))) (sRet (oE (eC (.bl false)))) sPass)
  (sSeq (sIf (tNot (tE (eO (oCall f__law_flag (aCons (eO (oCall f_holds (aCons (eV 2) (aCons (eTup (aCons (eC (.str [111, 114])) (aCons (eV 4) (aCons (eV 5) aNil)))) (aCons (eV 8) aNil))))) (aCons (eOr (eV 9) (eV 10)) aNil)))))) (sRet (oE (eC (.bl false)))) sPass)
  (sSeq (sSet 11 (oE (eOp pIx (eV 2) (eO (oCall f__law_draw (aCons (eV 1) (aCons (eUn pLen (eV 2)) aNil)))))))
  (sFor (iSeq (eTup (aCons (eC (.str [99, 117, 116])) (aCons (eC (.str [99, 117, 116, 108, 97, 115, 116])) aNil)))) (gN 12) (sSeq (sSet 13 (oE (eTup (aCons (eV 12) (aCons (eV 11) (aCons (eV 4) (aCons (eV 5) aNil)))))))
  (sIf (tNot (tE (eO (oCall f__law_flag (aCons (eO (oCall f_holds (aCons (eV 2) (aCons (eV 13) (aCons (eV 8) aNil))))) (aCons (eO (oCall (f__law_so 7) (aCons (eV 13) (aCons (eV 8) aNil)))) aNil)))))) (sRet (oE (eC (.bl false)))) sPass))))))))))))))))
  (sRet (oE (eC (.bl true))))))))
end M

namespace M
section
local macro_rules | `(tactic| walk_at "s") => `(tactic| simp (disch := first | assumption | omega | decide) only [*, ↓x_C, ↓x_V, ↓x_Op, ↓x_Un, ↓x_And, ↓x_Or, ↓x_Not, ↓x_If, ↓x_Chain, ↓x_Nil, ↓x_Cons, ↓x_Tup, ↓x_Lst, ↓x_Mt, ↓x_MtL, ↓x_No, ↓x_So, ↓x_Sl, ↓x_O, ↓x_oE, ↓x_oV, ↓x_Call, ↓x_oNew, ↓x_Dct1, ↓x_Dct0, ↓x_oDct0, ↓x_PopAt, ↓x_IxV, ↓x_InV, ↓x_NotInV, ↓x_LenV, ↓x_IxW, ↓x_Obj, ↓x_Fld, ↓x_Make, ↓x_Meth, ↓x_IsX, ↓x_tE, ↓x_tNot, ↓x_tAnd, ↓x_tOr, ↓x_tT, ↓x_iSeq, ↓x_iRange1, ↓x_iRange2, ↓x_iZip, ↓x_iEnum, ↓x_iRev, ↓x_Lc, ↓x_oLc,
  ↓s_Pass, ↓s_Break, ↓s_Cont, ↓s_Expr, ↓s_Ret, ↓s_RetN, ↓s_Seq, ↓s_If, ↓s_Set, ↓s_Asg, ↓s_Par, ↓s_Aug, ↓s_Raise, ↓s_RaiseF, ↓s_App, ↓s_StoL, ↓s_StoW, ↓s_Fld, ↓s_For, ↓s_While, ↓s_Try, ↓s_TryAs, ↓s_hds0, ↓s_hds, ↓wF_ok, ↓wF_exc,
  wV_fz, wV_lst, wV_tup, wV_dct, wG_fz, wG_lst, wG_tup, wG_dct, wO_some, wL_lst, wB_bl, wT_str, wN_int, wI_t, wI_f, wI_not, wI_yes, wI_no, wD_some, wLen_of, wPut_of, wC_of, wC_true,
  d_addI, d_addS, d_addL, d_addT, d_addI', d_sub, d_mul, d_mulS, d_mulL, d_fdiv, d_mod, d_pow, d_neg, d_eqI, d_eqS, d_eqB, d_neI, d_neS, d_ixTab, d_ixRow, d_inAcc, d_lenTab, d_lenRow, d_lenAcc, fnd_some, d_isN, d_isB, d_isNotN, d_isNotB, d_lt, d_le, d_gt, d_ge, d_ltS, d_leS, d_gtS, d_geS, d_inS, d_ninS, d_inIT, d_inIL, d_lenS, d_lenL, d_lenT, d_ixS, d_ixL, d_ixT, wipeE, back, ati_map, wD_map, List.getElem?_map, ati_nn, ixn_nn, d_slS, d_slL, d_slT, d_slR, cut_to, cut_from, d_revS, d_revL, d_revT, d_join, d_joinC, d_find, d_index, d_indexL, d_indexN, d_upper, d_int, d_intB, d_abs, d_max, d_min, d_tupL, d_tupT, d_listL, d_listT, d_sortS, d_t_int_non, d_t_int_bl, d_t_int_int, d_t_int_str, d_t_int_tup, d_t_int_lst, d_t_int_dct, d_t_bool_non, d_t_bool_bl, d_t_bool_int, d_t_bool_str, d_t_bool_tup, d_t_bool_lst, d_t_bool_dct, d_t_str_non, d_t_str_bl, d_t_str_int, d_t_str_str, d_t_str_tup, d_t_str_lst, d_t_str_dct, d_t_tuple_non, d_t_tuple_bl, d_t_tuple_int, d_t_tuple_str, d_t_tuple_tup, d_t_tuple_lst, d_t_tuple_dct, d_t_list_non, d_t_list_bl, d_t_list_int, d_t_list_str, d_t_list_tup, d_t_list_lst, d_t_list_dct, d_t_dict_non, d_t_dict_bl, d_t_dict_int, d_t_dict_str, d_t_dict_tup, d_t_dict_lst, d_t_dict_dct, d_sum, d_all, d_any, d_seqL, d_seqT, d_seqS, d_rg1, d_rg2, d_zipS, d_zipL, d_zipT, d_enS, d_enL, d_revBL, d_revBT, d_lrg1, RgB_of, d_gN, d_gT, d_gs0, d_gs, d_ixW, d_ixO, d_ixOf, d_stoW, d_stF, wIns_of, putO, String.reduceEq, reduceIte, wOb_lst, List.getElem?_set_self, List.getElem?_set_ne, List.set_set, d_lenOl, d_lenOf, d_asF, d_asL, chD,
  frz, frzs_fz, app_fz, tn1, Int.zero_add, Bool.not_false, Bool.not_true, Bool.and_true, Bool.true_and, Bool.and_false, Bool.false_and, Bool.or_true, Bool.true_or, Bool.or_false, Bool.false_or, List.getElem?_cons_zero, List.getElem?_cons_succ, List.set_cons_zero, List.set_cons_succ, List.length_cons, List.length_nil, List.map_cons, List.map_nil, List.cons_append, List.nil_append, List.replicate_succ, List.replicate_zero, List.length_map, List.length_set, Int.toNat_natCast, and_self, or_true, true_or, true_and, and_true, or_self, Int.reduceToNat, Int.toNat_zero, Int.toNat_one, Int.reduceNeg, Int.reducePow, Int.reduceAdd, Int.reduceSub, Int.reduceMul, Int.reduceLT, Int.reduceLE, Nat.reduceAdd, Nat.reduceSub, Nat.reduceLT, Nat.reduceLeDiff])
local macro_rules | `(tactic| walk_at "f0") => `(tactic| (refine of_fnM ?_ rfl; simp only [List.map_cons, List.map_nil, List.replicate_succ, List.replicate_zero, List.cons_append, List.nil_append, Nat.reduceSub]))
local macro_rules | `(tactic| walk_at "f") => `(tactic| (walk_at "f0"; walk_at "s"))

local macro_rules | `(tactic| walk_at "l") => `(tactic| (intro env2_ he_; simp only [wipeE, List.set_cons_zero, List.set_cons_succ] at he_; rw [he_]; clear he_))

theorem draw_spec0 {w : W} {n : Nat} {m : Int} (h : Hand w n) (h1 : 0 < m) (h2 : m < 1606938044258990275541962092341162602522202993782792835301376) : wF (f__law_draw [.obj n, .int m] w) (fun o w' => ∃ d, o = .fz (.int d) ∧ 0 ≤ d ∧ d < m ∧ Hand w' n ∧ But n w w') FX := by
  obtain ⟨cells, i, b, s, c, hw, hi⟩ := h
  have hn := lt_of_get hw
  unfold f__law_draw
  walk_at "f0"
  refine seq_cut (fun ρ => ∃ x w', ρ = ⟨[some (.fz (.obj n)), some (.fz (.int m)), x, none, none], w'⟩ ∧ Hand w' n ∧ But n w w') ?_ ?_
  · walk_at "s"
    refine wI_dec (fun hb => ?_) (fun hb => ?_)
    · walk_at "s"
      refine wI_dec (fun hc => ?_) (fun hc => ?_)
      · walk_at "s"
        refine get_step ?_ fun x _ hx => ?_
        · omega
        walk_at "s"
        refine wI_dec (fun hc => ?_) (fun hc => ?_)
        · walk_at "s"
          exact ⟨_, _, rfl, ⟨cells, _, _, _, _, List.getElem?_set_self hn, by omega⟩, But.refl.set⟩
        · walk_at "s"
          exact ⟨_, _, rfl, ⟨cells, _, _, _, _, List.getElem?_set_self hn, by omega⟩, But.refl.set⟩
      · walk_at "s"
        exact ⟨_, _, rfl, ⟨cells, _, _, _, _, hw, hi⟩, But.refl⟩
    · walk_at "s"
      exact ⟨_, _, rfl, ⟨cells, _, _, _, _, hw, hi⟩, But.refl⟩
  · rintro ρ1 ⟨x, w1, rfl, ⟨cells1, i1, b1, s1, c1, hw1, hi1⟩, bt⟩
    have hn1 := lt_of_get hw1
    walk_at "s"
    refine wI_dec (fun hb => ?_) (fun hb => ?_)
    · walk_at "s"
      exact ⟨_, rfl, Int.emod_nonneg _ (by omega), Int.emod_lt_of_pos _ h1, ⟨cells1, _, _, _, _, List.getElem?_set_self hn1, hi1⟩, bt.set⟩
    · walk_at "s"
      exact ⟨_, rfl, Int.emod_nonneg _ (by omega), Int.emod_lt_of_pos _ h1, ⟨cells1, _, _, _, _, List.getElem?_set_self hn1, hi1⟩, bt.set⟩
theorem draw_spec {w : W} {n : Nat} {m : Int} (h : Hand w n) (h1 : 0 < m) (h2 : m < 1606938044258990275541962092341162602522202993782792835301376) : wF (f__law_draw [.obj n, .int m] w) (fun o w' => ∃ d : Nat, o = .fz (.int (d : Nat)) ∧ (d : Int) < m ∧ Hand w' n ∧ But n w w') FX := by
  refine (draw_spec0 h h1 h2).mono ?_
  rintro _ w' ⟨d, rfl, h3, h4, h5, h6⟩
  exact ⟨d.toNat, by rw [Int.toNat_of_nonneg h3], by rw [Int.toNat_of_nonneg h3]; exact h4, h5, h6⟩

theorem hand_spec {w : W} {ns : List Int} (hl : ns.length ≤ 63) : wF (f__law_hand [.scr (ns.map .int)] w) (fun o w' => o = .fz (.obj w.length) ∧ Hand w' w.length ∧ w'.length = w.length + 1 ∧ ∀ j, j < w.length → w'[j]? = w[j]?) FX := by
  unfold f__law_hand
  walk_at "f"
  have e : cut (ns.map D.int) none (some 63) = (ns.take 63).map .int := by
    rw [cut_to (by decide), ← List.map_take]
    rfl
  have e2 : ns.take 63 = ns := List.take_of_length_le hl
  rw [e2] at e
  try rw [e]
  try rw [show List.take 63 (List.map D.int ns) = ns.map D.int by rw [← List.map_take, e2]]
  refine lc_inv (by omega) (fun pre acc ρ => acc = pre.map (fun i => .int (if i < 0 then -i else i)) ∧ ∃ x, ρ = ⟨[some (.fz (.scr (ns.map .int))), none, x], w⟩) ⟨rfl, _, rfl⟩ ?_ ?_
  · rintro pre c post acc _ e ⟨rfl, x, rfl⟩
    walk_at "s"
    exact ⟨by simp, _, rfl⟩
  · rintro acc _ ⟨rfl, x, rfl⟩
    walk_at "s"
    refine ⟨⟨ns.map (fun i => if i < 0 then -i else i), 0, 0, 1 + ns.length, 0, ?_, by decide⟩, by simp, fun j hj => ?_⟩
    · rw [List.getElem?_append_right (Nat.le_refl _), Nat.sub_self]
      rw [List.map_map]
      rfl
    · rw [List.getElem?_append_left hj]

theorem perm_pick {α : Type} {l f : List α} {d : Nat} {x : α} (h : l[d]? = some x) : ((l.take d ++ l.drop (d + 1)) ++ (f ++ [x])).Perm (l ++ f) := by
  obtain ⟨hd, e⟩ := List.getElem?_eq_some_iff.mp h
  have h1 : l = l.take d ++ x :: l.drop (d + 1) := by rw [← e, List.getElem_cons_drop, List.take_append_drop]
  generalize l.take d = a at *
  generalize l.drop (d + 1) = b at *
  subst h1
  simp only [List.append_assoc, List.cons_append]
  refine List.Perm.append_left a ?_
  rw [← List.append_assoc]
  exact List.perm_append_comm
theorem letters_spec {w : W} {n : Nat} {s : Tx} {m : Nat} (h : Hand w n) (hs : s.length < 1073741) (hm : m ≤ s.length) : wF (f__law_letters [.obj n, .str s, .int m] w) (fun o w' => ∃ r t : Tx, o = .fz (.str r) ∧ r.length = m ∧ (t ++ r).Perm s ∧ Hand w' n ∧ But n w w') FX := by
  unfold f__law_letters
  walk_at "f"
  refine for_rng (fun k ρ => ∃ x y, ∃ t r : Tx, ∃ w', ρ = ⟨[some (.fz (.obj n)), some (.fz (.str s)), some (.fz (.int m)), some (.fz (.str t)), some (.fz (.str r)), x, y], w'⟩ ∧ r.length = k ∧ (t ++ r).Perm s ∧ Hand w' n ∧ But n w w') ⟨_, _, _, _, _, rfl, rfl, by simp, h, But.refl⟩ ?_ ?_
  · rintro k ρ hk ⟨x, y, t, r, w1, rfl, rfl, hp, hh, hb⟩
    have hl := hp.length_eq
    rw [List.length_append] at hl
    walk_at "s"
    refine (draw_spec hh (by omega) (by omega)).mono ?_
    rintro _ w2 ⟨d, rfl, h3, h4, h5⟩
    walk_at "s"
    refine get_step (by omega) fun c _ hc => ?_
    walk_at "s"
    have hl2 : (t.take d).length + (t.drop (d + 1)).length ≤ 16777216 := by rw [List.length_take, List.length_drop]; omega
    walk_at "s"
    refine ⟨_, _, _, _, _, rfl, by simp, ?_, h4, hb.trans h5⟩
    exact (perm_pick hc).trans hp
  · rintro ρ ⟨x, y, t, r, w1, rfl, e, hp, hh, hb⟩
    walk_at "s"
    exact ⟨r, t, rfl, e, hp⟩

theorem range_split {n : Nat} {pre post : List Nat} {c : Nat} (e : List.range n = pre ++ c :: post) : c = pre.length ∧ pre.length < n := by
  have h1 : (List.range n)[pre.length]? = some c := by rw [e]; simp
  have h2 : pre.length < n := by
    have := congrArg List.length e
    simp at this
    omega
  rw [List.getElem?_range h2] at h1
  exact ⟨(Option.some.inj h1).symm, h2⟩
theorem sortN_len (s : Tx) : (sortN s).length = s.length := List.length_mergeSort s
theorem sortN_perm (s : Tx) : (sortN s).Perm s := List.mergeSort_perm s _
theorem sortN_le (s : Tx) : (sortN s).Pairwise (· ≤ ·) := by
  have := List.pairwise_mergeSort (le := fun a b : Nat => decide (a ≤ b)) (fun a b c h1 h2 => by simp at *; omega) (fun a b => by simp; omega) s
  exact this.imp (by simp)
theorem sortN_lt {s : Tx} (h : s.Nodup) : (sortN s).Pairwise (· < ·) := by
  have h1 := sortN_le s
  have h2 : (sortN s).Nodup := (sortN_perm s).nodup_iff.mpr h
  exact (h1.and h2).imp (fun h => by have := h.1; have := h.2; omega)

theorem word_spec {w : W} {n : Nat} {L : Tx} {m : Nat} (h : Hand w n) (hl : 1 ≤ L.length) (hl2 : L.length < 1000) (hm : m < 100000) : wF (f__law_word [.obj n, .str L, .int m] w) (fun o w' => ∃ s : Tx, o = .fz (.str s) ∧ s.length = m ∧ (∀ c ∈ s, c ∈ L) ∧ Hand w' n ∧ But n w w') FX := by
  unfold f__law_word
  walk_at "f"
  refine for_rng (fun k ρ => ∃ x w', ∃ s : Tx, ρ = ⟨[some (.fz (.obj n)), some (.fz (.str L)), some (.fz (.int m)), some (.fz (.str s)), x], w'⟩ ∧ s.length = k ∧ (∀ c ∈ s, c ∈ L) ∧ Hand w' n ∧ But n w w') ⟨_, _, _, rfl, rfl, by simp, h, But.refl⟩ ?_ ?_
  · rintro k _ hk ⟨x, w1, s, rfl, hs, hc, h1, b1⟩
    walk_at "s"
    refine (draw_spec h1 (by omega) (by omega)).mono ?_
    rintro _ w2 ⟨d, rfl, hd, h2, b2⟩
    walk_at "s"
    refine get_step (by omega) fun c hcL _ => ?_
    walk_at "s"
    exact ⟨_, _, s ++ [c], rfl, by simp [hs], by simpa [or_imp, forall_and] using ⟨hc, hcL⟩, h2, b1.trans b2⟩
  · rintro _ ⟨x, w1, s, rfl, hs, hc, h1, b1⟩
    walk_at "s"
    exact ⟨s, rfl, hs, hc⟩

theorem zipD_map {α β : Type} (f : α → D) (g : β → D) : ∀ (a : List α) (b : List β), zipD (a.map f) (b.map g) = (a.zip b).map fun p => .tup [f p.1, g p.2]
  | [], _ => by simp [zipD]
  | _ :: _, [] => by simp [zipD]
  | x :: a, y :: b => by simp [zipD, zipD_map f g a b]
theorem asc_zip : ∀ s : List Nat, s.Pairwise (· < ·) ↔ ∀ p ∈ s.zip (s.drop 1), p.1 < p.2
  | [] => by simp
  | [a] => by simp
  | a :: b :: r => by
    have ih := asc_zip (b :: r)
    simp only [List.drop_succ_cons, List.drop_zero, List.zip_cons_cons, List.mem_cons, forall_eq_or_imp] at ih ⊢
    rw [List.pairwise_cons, ← ih]
    constructor
    · rintro ⟨h1, h2⟩
      exact ⟨h1 b (by simp), h2⟩
    · rintro ⟨h1, h2⟩
      refine ⟨?_, h2⟩
      rw [List.pairwise_cons] at h2
      intro c hc
      rcases List.mem_cons.mp hc with rfl | hc
      · exact h1
      · exact Nat.lt_trans h1 (h2.1 c hc)
theorem is_string_of_spec (s S : Tx) (w : W) : wF (f_is_string_of [.str s, .str S] w) (fun o w' => o = .fz (.bl (s.all fun c => decide (c ∈ S))) ∧ w' = w) FX := by
  unfold f_is_string_of
  walk_at "f"
  refine for_map (fun pre ρ => ∃ x, ρ = ⟨[some (.fz (.str s)), some (.fz (.str S)), x], w⟩ ∧ ∀ c ∈ pre, c ∈ S) ⟨_, rfl, by simp⟩ ?_ ?_
  · rintro pre c post _ e ⟨x, rfl, hp⟩
    walk_at "s"
    refine wI_dec (fun h => ?_) (fun h => ?_)
    · walk_at "s"
      exact ⟨_, rfl, by simpa [or_imp, forall_and] using ⟨hp, h⟩⟩
    · walk_at "s"
      refine bl_f ?_
      rw [List.all_eq_false]
      exact ⟨c, by simp, by simpa using h⟩
  · rintro _ ⟨x, rfl, hp⟩
    walk_at "s"
    refine bl_t ?_
    rw [List.all_eq_true]
    exact fun c hc => by simpa using hp c hc
theorem is_string_of_no {d : D} (h : ∃ t, tyn d = some t ∧ t ≠ "str") (S : Tx) (w : W) : wF (f_is_string_of [d, .str S] w) (fun o w' => o = .fz (.bl false) ∧ w' = w) FX := by
  unfold f_is_string_of
  cases d <;> simp [tyn] at h
  all_goals walk_at "f"
theorem is_ascending_spec (s : Tx) (w : W) : wF (f_is_ascending [.str s] w) (fun o w' => o = .fz (.bl (decide (s.Pairwise (· < ·)))) ∧ w' = w) FX := by
  unfold f_is_ascending
  walk_at "f"
  rw [zipD_map]
  refine for_map (fun pre ρ => ∃ x y, ρ = ⟨[some (.fz (.str s)), x, y], w⟩ ∧ ∀ p ∈ pre, p.1 < p.2) ⟨_, _, rfl, by simp⟩ ?_ ?_
  · rintro pre c post _ e ⟨x, y, rfl, hp⟩
    walk_at "s"
    refine wI_dec (fun h => ?_) (fun h => ?_)
    · walk_at "s"
      refine ⟨_, _, rfl, ?_⟩
      have : c.1 < c.2 := by simpa [List.cons_lt_cons_iff] using h
      simp only [List.mem_append, List.mem_singleton]
      rintro p (hq | rfl)
      · exact hp p hq
      · exact this
    · walk_at "s"
      refine bl_f ?_
      rw [decide_eq_false_iff_not, asc_zip]
      intro h2
      have := h2 c (by rw [e]; simp)
      exact h (by simpa [List.cons_lt_cons_iff] using this)
  · rintro _ ⟨x, y, rfl, hp⟩
    walk_at "s"
    refine bl_t ?_
    rw [decide_eq_true_iff, asc_zip]
    exact hp
theorem is_choice_spec (s S : Tx) (w : W) : wF (f_is_choice [.str s, .str S] w) (fun o w' => o = .fz (.bl ((s.all fun c => decide (c ∈ S)) && decide (s.Pairwise (· < ·)))) ∧ w' = w) FX := by
  unfold f_is_choice
  walk_at "f"
  refine (is_string_of_spec s S w).mono ?_
  rintro _ _ ⟨rfl, rfl⟩
  walk_at "s"
  refine wI_bool (fun h => ?_) (fun h => ?_)
  · walk_at "s"
    refine (is_ascending_spec s _).mono ?_
    rintro _ _ ⟨rfl, rfl⟩
    walk_at "s"
  · walk_at "s"
theorem is_integer_spec (i : Int) (w : W) : wF (f_is_integer [.int i] w) (fun o w' => o = .fz (.bl true) ∧ w' = w) FX := by
  unfold f_is_integer
  walk_at "f"

theorem wD_is {α : Type} {o : Option α} {z : α} {Q : α → Prop} (h : o = some z) (q : Q z) : wD o Q := by rw [h, wD_some]; exact q
inductive Sy where
  | first (c : Nat) | last (c : Nat) | count (c m r : Nat) | least (c m : Nat) | inn (w : Tx) | row (w : Tx) | only (w : Tx)
def syD : Sy → D
  | .first c => .tup [.str [102, 105, 114, 115, 116], .str [c]]
  | .last c => .tup [.str [108, 97, 115, 116], .str [c]]
  | .count c m r => .tup [.str [99, 111, 117, 110, 116], .str [c], .int (m : Nat), .int (r : Nat)]
  | .least c m => .tup [.str [108, 101, 97, 115, 116], .str [c], .int (m : Nat)]
  | .inn w => .tup [.str [105, 110], .str w]
  | .row w => .tup [.str [114, 111, 119], .str w]
  | .only w => .tup [.str [111, 110, 108, 121], .str w]
def SyOk (L : Tx) : Sy → Prop
  | .first c => c ∈ L
  | .last c => c ∈ L
  | .count c m r => c ∈ L ∧ 1 ≤ m ∧ m ≤ 6 ∧ r < m
  | .least c m => c ∈ L ∧ 1 ≤ m ∧ m ≤ 5
  | .inn w => (∀ c ∈ w, c ∈ L) ∧ 1 ≤ w.length ∧ w.length ≤ 4
  | .row w => (∀ c ∈ w, c ∈ L) ∧ 1 ≤ w.length ∧ w.length ≤ 4
  | .only w => (∀ c ∈ w, c ∈ L) ∧ w.Pairwise (· < ·) ∧ w.length ≤ 4
def so : Sy → Tx → Bool
  | .first c, x => decide (x.take 1 = [c])
  | .last c, x => decide (x.getLast? = some c)
  | .count c m r, x => decide (x.count c % m = r)
  | .least c m, x => decide (m ≤ x.count c)
  | .inn w, x => w.isSublist x
  | .row w, x => (fstT x w).isSome
  | .only w, x => x.all fun c => decide (c ∈ w)
theorem all_in {L x : Tx} (h : ∀ c ∈ x, c ∈ L) : (x.all fun c => decide (c ∈ L)) = true := by
  rw [List.all_eq_true]
  exact fun c hc => by simpa using h c hc
theorem is_letter_spec {L : Tx} {c : Nat} (h : c ∈ L) (w : W) : wF (f_is_letter [.str [c], .str L] w) (fun o w' => o = .fz (.bl true) ∧ w' = w) FX := by
  unfold f_is_letter
  walk_at "f"
  refine (is_string_of_spec [c] L w).mono ?_
  rintro _ _ ⟨rfl, rfl⟩
  rw [all_in (by simpa using h)]
  walk_at "s"
  rfl
theorem is_small_word_spec {L x : Tx} (h : ∀ c ∈ x, c ∈ L) (h1 : 1 ≤ x.length) (h2 : x.length ≤ 4) (w : W) : wF (f_is_small_word [.str x, .str L] w) (fun o w' => o = .fz (.bl true) ∧ w' = w) FX := by
  unfold f_is_small_word
  walk_at "f"
  refine (is_string_of_spec x L w).mono ?_
  rintro _ _ ⟨rfl, rfl⟩
  rw [all_in h]
  walk_at "s"
  exact (bl_t (by simp; omega)).symm
theorem is_between_spec {i a b : Int} (h1 : a ≤ i) (h2 : i ≤ b) (w : W) : wF (f_is_between [.int i, .int a, .int b] w) (fun o w' => o = .fz (.bl true) ∧ w' = w) FX := by
  unfold f_is_between
  walk_at "f"
  refine (is_integer_spec i w).mono ?_
  rintro _ _ ⟨rfl, rfl⟩
  walk_at "s"
  exact (bl_t (by simpa using h2)).symm
theorem is_plain_spec {L : Tx} (s : Sy) (h : SyOk L s) (w : W) : wF (f_is_plain [syD s, .str L] w) (fun o w' => o = .fz (.bl true) ∧ w' = w) FX := by
  unfold f_is_plain
  cases s with
  | first c =>
    simp only [syD]
    walk_at "f"
    refine wD_is (z := .bl true) rfl ?_
    walk_at "s"
    refine (is_letter_spec h w).mono ?_
    rintro _ _ ⟨rfl, rfl⟩
    walk_at "s"
  | last c =>
    simp only [syD]
    walk_at "f"
    refine wD_is (z := .bl true) rfl ?_
    walk_at "s"
    refine (is_letter_spec h w).mono ?_
    rintro _ _ ⟨rfl, rfl⟩
    walk_at "s"
  | count c m r =>
    obtain ⟨h1, h2, h3, h4⟩ := h
    simp only [syD]
    walk_at "f"
    refine (is_letter_spec h1 w).mono ?_
    rintro _ _ ⟨rfl, rfl⟩
    walk_at "s"
    refine (is_between_spec (by omega) (by omega) _).mono ?_
    rintro _ _ ⟨rfl, rfl⟩
    walk_at "s"
    refine (is_between_spec (by omega) (by omega) _).mono ?_
    rintro _ _ ⟨rfl, rfl⟩
    walk_at "s"
  | least c m =>
    obtain ⟨h1, h2, h3⟩ := h
    simp only [syD]
    walk_at "f"
    refine (is_letter_spec h1 w).mono ?_
    rintro _ _ ⟨rfl, rfl⟩
    walk_at "s"
    refine (is_between_spec (by omega) (by omega) _).mono ?_
    rintro _ _ ⟨rfl, rfl⟩
    walk_at "s"
  | inn x =>
    obtain ⟨h1, h2, h3⟩ := h
    simp only [syD]
    walk_at "f"
    refine wD_is (z := .bl false) rfl ?_
    walk_at "s"
    refine wD_is (z := .bl true) rfl ?_
    walk_at "s"
    refine (is_small_word_spec h1 h2 h3 w).mono ?_
    rintro _ _ ⟨rfl, rfl⟩
    walk_at "s"
  | row x =>
    obtain ⟨h1, h2, h3⟩ := h
    simp only [syD]
    walk_at "f"
    refine wD_is (z := .bl false) rfl ?_
    walk_at "s"
    refine wD_is (z := .bl true) rfl ?_
    walk_at "s"
    refine (is_small_word_spec h1 h2 h3 w).mono ?_
    rintro _ _ ⟨rfl, rfl⟩
    walk_at "s"
  | only x =>
    obtain ⟨h1, h2, _⟩ := h
    simp only [syD]
    walk_at "f"
    refine wD_is (z := .bl false) rfl ?_
    walk_at "s"
    refine wD_is (z := .bl false) rfl ?_
    walk_at "s"
    refine (is_choice_spec x L w).mono ?_
    rintro _ _ ⟨rfl, rfl⟩
    rw [all_in h1, decide_eq_true h2]
    walk_at "s"
theorem parts_of_spec (s : Sy) (w : W) : wF (f_parts_of [syD s] w) (fun o w' => o = .fz (.tup []) ∧ w' = w) FX := by
  unfold f_parts_of
  cases s
  all_goals
    simp only [syD]
    walk_at "f"
    refine wD_is (z := .bl false) rfl ?_
    walk_at "s"
    refine wD_is (z := .bl false) rfl ?_
    walk_at "s"

theorem isSub_nil (x : Tx) : ([] : Tx).isSublist x = true := by cases x <;> rfl
theorem isSub_end {g : Nat} {gs : Tx} : (g :: gs).isSublist ([] : Tx) = false := rfl
theorem isSub_cons (g c : Nat) (gs x : Tx) : (g :: gs).isSublist (c :: x) = if g = c then gs.isSublist x else (g :: gs).isSublist x := by
  rw [List.isSublist]
  by_cases h : g = c <;> simp [h]
/-- how far the goal is met -/
def met : Tx → Tx → Nat
  | [], _ => 0
  | _ :: _, [] => 0
  | g :: gs, c :: x => if g = c then met gs x + 1 else met (g :: gs) x
theorem met_le : ∀ (x g : Tx), met g x ≤ g.length
  | _, [] => by simp [met]
  | [], g :: gs => by simp [met]
  | c :: x, g :: gs => by
    unfold met
    split
    · have := met_le x gs; simp; exact this
    · exact met_le x (g :: gs)
theorem met_sub : ∀ (x g : Tx), decide (met g x = g.length) = g.isSublist x
  | _, [] => by rw [isSub_nil]; simp [met]
  | [], g :: gs => by rw [isSub_end]; simp [met]
  | c :: x, g :: gs => by
    rw [isSub_cons]
    unfold met
    split
    · rw [← met_sub x gs]; simp
    · exact met_sub x (g :: gs)
theorem met_snoc : ∀ (x g : Tx) (c : Nat), met g (x ++ [c]) = if g[met g x]? = some c then met g x + 1 else met g x
  | _, [], c => by simp [met]
  | [], g :: gs, c => by simp [met]; split <;> simp [met]; cases gs <;> rfl
  | a :: x, g :: gs, c => by
    rw [List.cons_append]
    unfold met
    by_cases h : g = a
    · rw [if_pos h, if_pos h, met_snoc x gs c]
      simp only [List.getElem?_cons_succ]
      split <;> rfl
    · rw [if_neg h, if_neg h]
      exact met_snoc x (g :: gs) c
theorem stands_in_spec (x g : Tx) (hg : g.length < 1000) (w : W) : wF (f_stands_in [.str x, .str g] w) (fun o w' => o = .fz (.bl (g.isSublist x)) ∧ w' = w) FX := by
  unfold f_stands_in
  walk_at "f"
  refine for_map (fun pre ρ => ∃ y, ρ = ⟨[some (.fz (.str x)), some (.fz (.str g)), some (.fz (.int (met g pre : Nat))), y], w⟩) ⟨_, by cases g <;> rfl⟩ ?_ ?_
  · rintro pre c post _ e ⟨y, rfl⟩
    clear e
    have hm := met_le pre g
    have hs := met_snoc pre g c
    rw [hs]
    clear hs
    walk_at "s"
    refine wI_dec (fun h => ?_) (fun h => ?_)
    · walk_at "s"
      refine get_step (by omega) fun d _ hd => ?_
      walk_at "s"
      refine wI_dec (fun h2 => ?_) (fun h2 => ?_)
      · have h2 : c = d := by simpa using h2
        subst h2
        walk_at "s"
        exact ⟨_, rfl⟩
      · have h2 : ¬ c = d := by simpa using h2
        walk_at "s"
        refine ⟨some (.fz (.str [c])), ?_⟩
        rw [if_neg (by simp; exact fun e => h2 e.symm)]
    · walk_at "s"
      refine ⟨some (.fz (.str [c])), ?_⟩
      rw [if_neg (by rw [List.getElem?_eq_none (by omega)]; simp)]
  · rintro _ ⟨y, rfl⟩
    rw [← met_sub]
    walk_at "s"
    refine congrArg (fun b => O.fz (D.bl b)) ?_
    simp
    omega
theorem cut_last (x : Tx) (c : Nat) : decide (cut x (some (-1)) none = [c]) = decide (x.getLast? = some c) := by
  rcases List.eq_nil_or_concat x with rfl | ⟨l, a, rfl⟩
  · rfl
  · have e : cut (l ++ [a]) (some (-1)) none = [a] := by
      unfold cut six
      simp only [show ((-1 : Int) < 0) by decide, if_true, List.length_append, List.length_singleton]
      have e1 : ((-1 : Int) + ((l.length + 1 : Nat) : Int)).toNat = l.length := by omega
      rw [e1, List.drop_left]
      exact List.take_of_length_le (by simp)
    rw [List.concat_eq_append, e]
    simp

theorem fstF_hit {x : Tx} {c i : Nat} (h : x[i]? = some c) : fstF x c i = some i := by
  unfold fstF
  rw [List.find?_range_eq_some]
  have := (List.getElem?_eq_some_iff.mp h).1
  refine ⟨by simp [h], by simpa using this, ?_⟩
  intro j hj
  simp
  omega
theorem fstF_miss {x : Tx} {c i : Nat} (h : ¬ x[i]? = some c) : fstF x c i = fstF x c (i + 1) := by
  unfold fstF
  congr 1
  funext k
  rw [Bool.eq_iff_iff]
  simp only [Bool.and_eq_true, decide_eq_true_eq]
  constructor
  · rintro ⟨h1, h2⟩
    exact ⟨by rcases Nat.eq_or_lt_of_le h1 with rfl | h3
              · exact absurd h2 h
              · omega, h2⟩
  · rintro ⟨h1, h2⟩
    exact ⟨by omega, h2⟩
theorem fstF_out {x : Tx} {c i : Nat} (h : x.length ≤ i) : fstF x c i = none := by
  unfold fstF
  rw [List.find?_eq_none]
  intro j hj
  have := List.mem_range.mp hj
  simp
  omega
theorem sub_find (x gs : Tx) (c : Nat) : ∀ (n i : Nat), x.length - i = n → (c :: gs).isSublist (x.drop i) = match fstF x c i with
    | some k => gs.isSublist (x.drop (k + 1))
    | none => false
  | 0, i, h => by
    rw [fstF_out (by omega), List.drop_of_length_le (by omega)]
    rfl
  | n + 1, i, h => by
    have hi : i < x.length := by omega
    rw [List.drop_eq_getElem_cons hi, isSub_cons]
    by_cases e : c = x[i]
    · rw [if_pos e, fstF_hit (by rw [List.getElem?_eq_getElem hi, e])]
    · rw [if_neg e, fstF_miss (by rw [List.getElem?_eq_getElem hi]; exact fun h => e (Option.some.inj h).symm)]
      exact sub_find x gs c n (i + 1) (by omega)
theorem law_stands_spec (x g : Tx) (w : W) : wF (f__law_stands [.str x, .str g] w) (fun o w' => o = .fz (.bl (g.isSublist x)) ∧ w' = w) FX := by
  unfold f__law_stands
  walk_at "f"
  refine for_map (fun pre ρ => ∃ i y z, ρ = ⟨[some (.fz (.str x)), some (.fz (.str g)), some (.fz (.int (i : Nat))), y, z], w⟩ ∧ ∀ post, g = pre ++ post → g.isSublist x = post.isSublist (x.drop i)) ⟨0, _, _, rfl, by rintro post rfl; rfl⟩ ?_ ?_
  · rintro pre c post _ e ⟨i, y, z, rfl, hp⟩
    have h1 := hp _ e
    rw [sub_find x post c _ i rfl] at h1
    clear hp
    walk_at "s"
    refine wD_is (z := .int (fnd (fstF x c i))) (by simp [mFind2]) ?_
    cases q : fstF x c i with
    | none =>
      rw [q] at h1
      clear e
      rw [show fnd none = -1 from rfl]
      walk_at "s"
    | some k =>
      rw [q] at h1
      rw [fnd_some]
      have e' : ∀ post', g = (pre ++ [c]) ++ post' → post' = post := by
        intro post' h
        rw [e] at h
        simpa using h.symm
      have h1' : g.isSublist x = post.isSublist (x.drop (k + 1)) := h1
      clear h1
      subst e
      walk_at "s"
      refine ⟨k + 1, _, _, rfl, ?_⟩
      intro post' h
      rw [e' post' h]
  · rintro _ ⟨i, y, z, rfl, hp⟩
    have h1 := hp [] (by simp)
    rw [isSub_nil] at h1
    rw [h1]
    walk_at "s"

theorem cut_mid (x : Tx) (i s : Nat) : cut x (some (i : Int)) (some ((i : Int) + (s : Int))) = (x.drop i).take s := by
  unfold cut six
  simp only [if_neg (show ¬ ((i : Int) < 0) by omega), if_neg (show ¬ ((i : Int) + (s : Int) < 0) by omega)]
  have e2 : ((i : Int) + (s : Int)).toNat = i + s := by omega
  rw [Int.toNat_natCast, e2]
  rcases Nat.le_total i x.length with h | h
  · rw [Nat.min_eq_left h]
    rcases Nat.le_total (i + s) x.length with h2 | h2
    · rw [Nat.min_eq_left h2, show i + s - i = s by omega]
    · rw [Nat.min_eq_right h2, List.take_of_length_le (by rw [List.length_drop]; omega), List.take_of_length_le (by rw [List.length_drop]; omega)]
  · rw [Nat.min_eq_right h, List.drop_of_length_le (Nat.le_refl _), List.drop_of_length_le h]; simp
theorem any_fst (x w : Tx) (hw : 1 ≤ w.length) : ((List.range x.length).any fun i => decide ((x.drop i).take w.length = w)) = (fstT x w).isSome := by
  rw [Bool.eq_iff_iff, List.any_eq_true, fstT, List.find?_isSome]
  constructor
  · rintro ⟨i, hi, h⟩
    have hi := List.mem_range.mp hi
    rw [decide_eq_true_iff] at h
    refine ⟨i, List.mem_range.mpr (by omega), ?_⟩
    unfold isAt
    rw [Bool.and_eq_true, decide_eq_true_iff, decide_eq_true_iff]
    have := congrArg List.length h
    rw [List.length_take, List.length_drop] at this
    exact ⟨by omega, h⟩
  · rintro ⟨i, hi, h⟩
    unfold isAt at h
    rw [Bool.and_eq_true, decide_eq_true_iff, decide_eq_true_iff] at h
    exact ⟨i, List.mem_range.mpr (by omega), by rw [decide_eq_true_iff]; exact h.2⟩
theorem sum_count (c : Nat) : ∀ x : Tx, (x.map fun d => (if decide ([d] = [c]) = true then (1 : Int) else 0)).sum = ((x.count c : Nat) : Int)
  | [] => rfl
  | d :: x => by
    rw [List.map_cons, List.sum_cons, sum_count c x, List.count_cons]
    by_cases h : d = c
    · subst h; simp; omega
    · simp [h]
theorem mod_same {a m r : Nat} (hm : 1 ≤ m) (hr : r < m) : decide (((a : Int) - (r : Int)) % (m : Int) = 0) = decide (a % m = r) := by
  rw [decide_eq_decide, ← Int.emod_eq_emod_iff_emod_sub_eq_zero]
  rw [Int.emod_eq_of_lt (by omega) (by omega : (r : Int) < m), ← Int.natCast_emod]
  omega
theorem plain_so_spec {L : Tx} (s : Sy) (h : SyOk L s) (x : Tx) (hx : x.length < 1000) (w : W) : wF (f__law_plain_so [syD s, .str x] w) (fun o w' => o = .fz (.bl (so s x)) ∧ w' = w) FX := by
  unfold f__law_plain_so
  cases s with
  | first c =>
    simp only [syD]
    walk_at "f"
    cases x with
    | nil => walk_at "s"; rfl
    | cons a x =>
      walk_at "s"
      refine congrArg (fun b => O.fz (D.bl b)) ?_
      simp [so]
  | last c =>
    simp only [syD]
    walk_at "f"
    rcases List.eq_nil_or_concat x with rfl | ⟨l, a, rfl⟩
    · walk_at "s"; rfl
    · rw [List.concat_eq_append] at *
      have e1 : (((l ++ [a]).length : Nat) : Int) - 1 = ((l.length : Nat) : Int) := by rw [List.length_append]; simp only [List.length_singleton]; omega
      have e2 : (l ++ [a])[l.length]? = some a := by simp
      have e3 : (0 : Int) < (((l ++ [a]).length : Nat) : Int) := by rw [List.length_append]; simp only [List.length_singleton]; omega
      walk_at "s"
      refine congrArg (fun b => O.fz (D.bl b)) ?_
      simp [so]
  | count c m r =>
    obtain ⟨h1, h2, h3, h4⟩ := h
    simp only [syD]
    walk_at "f"
    refine lc_inv (by omega) (fun pre acc ρ => acc = (pre.map fun d => (if decide ([d] = [c]) = true then (1 : Int) else 0)).map .int ∧ ∃ y, ρ = ⟨[some (.fz (.tup [.str [99, 111, 117, 110, 116], .str [c], .int (m : Nat), .int (r : Nat)])), some (.fz (.str x)), some (.fz (.str [99, 111, 117, 110, 116])), none, none, y, none], w⟩) ⟨rfl, _, rfl⟩ ?_ ?_
    · rintro pre d post acc _ e ⟨rfl, y, rfl⟩
      clear e
      walk_at "s"
      exact ⟨by simp, _, rfl⟩
    · rintro _ _ ⟨rfl, y, rfl⟩
      rw [d_sum, sum_count]
      walk_at "s"
      exact congrArg (fun b => O.fz (D.bl b)) (mod_same h2 h4)
  | least c m =>
    simp only [syD]
    walk_at "f"
    refine lc_inv (by omega) (fun pre acc ρ => acc = (pre.map fun d => (if decide ([d] = [c]) = true then (1 : Int) else 0)).map .int ∧ ∃ y, ρ = ⟨[some (.fz (.tup [.str [108, 101, 97, 115, 116], .str [c], .int (m : Nat)])), some (.fz (.str x)), some (.fz (.str [108, 101, 97, 115, 116])), none, none, y, none], w⟩) ⟨rfl, _, rfl⟩ ?_ ?_
    · rintro pre d post acc _ e ⟨rfl, y, rfl⟩
      clear e
      walk_at "s"
      exact ⟨by simp, _, rfl⟩
    · rintro _ _ ⟨rfl, y, rfl⟩
      rw [d_sum]
      rw [sum_count]
      walk_at "s"
      refine congrArg (fun b => O.fz (D.bl b)) ?_
      unfold so
      rw [decide_eq_decide]
      omega
  | inn g =>
    simp only [syD]
    walk_at "f"
    refine lc_inv (by omega) (fun pre acc ρ => acc = (pre.map fun d => (if decide ([d] = g) = true then (1 : Int) else 0)).map .int ∧ ∃ y, ρ = ⟨[some (.fz (.tup [.str [105, 110], .str g])), some (.fz (.str x)), some (.fz (.str [105, 110])), none, none, y, none], w⟩) ⟨rfl, _, rfl⟩ ?_ ?_
    · rintro pre d post acc _ e ⟨rfl, y, rfl⟩
      clear e
      walk_at "s"
      exact ⟨by simp, _, rfl⟩
    · rintro _ _ ⟨rfl, y, rfl⟩
      rw [d_sum]
      walk_at "s"
      refine (law_stands_spec x g w).mono ?_
      rintro _ _ ⟨rfl, rfl⟩
      walk_at "s"
      rfl
  | row g =>
    simp only [syD]
    walk_at "f"
    refine lc_inv (by omega) (fun pre acc ρ => acc = (pre.map fun d => (if decide ([d] = g) = true then (1 : Int) else 0)).map .int ∧ ∃ y, ρ = ⟨[some (.fz (.tup [.str [114, 111, 119], .str g])), some (.fz (.str x)), some (.fz (.str [114, 111, 119])), none, none, y, none], w⟩) ⟨rfl, _, rfl⟩ ?_ ?_
    · rintro pre d post acc _ e ⟨rfl, y, rfl⟩
      clear e
      walk_at "s"
      exact ⟨by simp, _, rfl⟩
    · rintro _ _ ⟨rfl, y, rfl⟩
      rw [d_sum]
      walk_at "s"
      refine lc_inv (by simp; omega) (fun pre acc ρ => acc = (pre.map fun i => decide ((x.drop i).take g.length = g)).map .bl ∧ ∃ z, ρ = ⟨[some (.fz (.tup [.str [114, 111, 119], .str g])), some (.fz (.str x)), some (.fz (.str [114, 111, 119])), some (.fz (.int (x.map fun d => (if decide ([d] = g) = true then (1 : Int) else 0)).sum)), some (.fz (.int (g.length : Nat))), none, z], w⟩) ⟨rfl, _, rfl⟩ ?_ ?_
      · rintro pre i post acc _ e ⟨rfl, z, rfl⟩
        clear e
        walk_at "s"
        rw [cut_mid]
        exact ⟨by simp, _, rfl⟩
      · rintro _ _ ⟨rfl, z, rfl⟩
        rw [d_any]
        walk_at "s"
        refine congrArg (fun b => O.fz (D.bl b)) ?_
        rw [List.any_map]
        exact any_fst x g h.2.1
  | only g =>
    simp only [syD]
    walk_at "f"
    refine lc_inv (by omega) (fun pre acc ρ => acc = (pre.map fun d => (if decide ([d] = g) = true then (1 : Int) else 0)).map .int ∧ ∃ y, ρ = ⟨[some (.fz (.tup [.str [111, 110, 108, 121], .str g])), some (.fz (.str x)), some (.fz (.str [111, 110, 108, 121])), none, none, y, none], w⟩) ⟨rfl, _, rfl⟩ ?_ ?_
    · rintro pre d post acc _ e ⟨rfl, y, rfl⟩
      clear e
      walk_at "s"
      exact ⟨by simp, _, rfl⟩
    · rintro _ _ ⟨rfl, y, rfl⟩
      rw [d_sum]
      walk_at "s"
      refine lc_inv (by omega) (fun pre acc ρ => acc = (pre.map fun d => decide (d ∈ g)).map .bl ∧ ∃ z, ρ = ⟨[some (.fz (.tup [.str [111, 110, 108, 121], .str g])), some (.fz (.str x)), some (.fz (.str [111, 110, 108, 121])), some (.fz (.int (x.map fun d => (if decide ([d] = g) = true then (1 : Int) else 0)).sum)), none, z, none], w⟩) ⟨rfl, _, rfl⟩ ?_ ?_
      · rintro pre i post acc _ e ⟨rfl, z, rfl⟩
        clear e
        walk_at "s"
        exact ⟨by simp, _, rfl⟩
      · rintro _ _ ⟨rfl, z, rfl⟩
        rw [d_all]
        walk_at "s"
        refine congrArg (fun b => O.fz (D.bl b)) ?_
        rw [List.all_map]
        rfl

theorem some_letters_spec {w : W} {n : Nat} (h : Hand w n) : wF (f__law_some_letters [.obj n] w) (fun o w' => ∃ L : Tx, o = .fz (.str L) ∧ LetOk L 4 ∧ Hand w' n ∧ But n w w') FX := by
  unfold f__law_some_letters
  walk_at "f"
  refine (draw_spec h (by omega) (by omega)).mono ?_
  rintro _ w1 ⟨d, rfl, hd, h1, b1⟩
  walk_at "s"
  rw [show (1 : Int) + (d : Int) = ((1 + d : Nat) : Int) by omega]
  refine (letters_spec h1 (by decide) (by simp; omega)).mono ?_
  rintro _ w4 ⟨r, t, rfl, hr, hperm, h4, b4⟩
  have hnd : r.Nodup := by
    have : (t ++ r).Nodup := hperm.nodup_iff.mpr (by decide)
    exact (List.nodup_append.mp this).2.1
  have hlen := sortN_len r
  have hlow : ∀ c ∈ sortN r, 97 ≤ c ∧ c ≤ 122 := fun c hc => mem_abc.mp (hperm.mem_iff.mp (List.mem_append_right t ((sortN_perm r).mem_iff.mp hc)))
  walk_at "s"
  exact ⟨_, rfl, ⟨by omega, by omega, sortN_lt hnd, hlow⟩, b1.trans b4⟩
theorem plain_spec {w : W} {n : Nat} {L : Tx} (h : Hand w n) (hL : LetOk L 4) : wF (f__law_plain [.obj n, .str L] w) (fun o w' => ∃ s, o = .fz (syD s) ∧ SyOk L s ∧ Hand w' n ∧ But n w w') FX := by
  have hl1 := hL.ne
  have hl2 := hL.le
  unfold f__law_plain
  walk_at "f"
  refine (draw_spec h (by omega) (by omega)).mono ?_
  rintro _ w1 ⟨d, rfl, hd, h1, b1⟩
  walk_at "s"
  refine get_step (by simp; omega) fun k hk _ => ?_
  simp only [List.mem_cons, List.not_mem_nil, or_false] at hk
  rcases hk with rfl | rfl | rfl | rfl | rfl | rfl | rfl
  all_goals
    walk_at "s"
    refine (draw_spec h1 (by omega) (by omega)).mono ?_
    rintro _ w2 ⟨d2, rfl, hd2, h2, b2⟩
    have b2 := b1.trans b2
    clear b1 h1 h
    walk_at "s"
    refine get_step (by omega) fun c hc _ => ?_
    walk_at "s"
  · exact ⟨.first c, rfl, hc⟩
  · exact ⟨.last c, rfl, hc⟩
  · refine (draw_spec h2 (by omega) (by omega)).mono ?_
    rintro _ w3 ⟨d3, rfl, hd3, h3, b3⟩
    walk_at "s"
    refine (draw_spec h3 (by omega) (by omega)).mono ?_
    rintro _ w4 ⟨d4, rfl, hd4, h4, b4⟩
    walk_at "s"
    refine ⟨.count c (1 + d3) d4, ?_, ⟨hc, by omega, by omega, by omega⟩, (b2.trans b3).trans b4⟩
    rw [show (1 : Int) + (d3 : Int) = ((1 + d3 : Nat) : Int) by omega]
    rfl
  · refine (draw_spec h2 (by omega) (by omega)).mono ?_
    rintro _ w3 ⟨d3, rfl, hd3, h3, b3⟩
    walk_at "s"
    refine ⟨.least c (1 + d3), ?_, ⟨hc, by omega, by omega⟩, b2.trans b3⟩
    rw [show (1 : Int) + (d3 : Int) = ((1 + d3 : Nat) : Int) by omega]
    rfl
  · refine (draw_spec h2 (by omega) (by omega)).mono ?_
    rintro _ w3 ⟨d3, rfl, hd3, h3, b3⟩
    walk_at "s"
    rw [show (1 : Int) + (d3 : Int) = ((1 + d3 : Nat) : Int) by omega]
    refine (word_spec h3 hl1 (by omega) (by omega)).mono ?_
    rintro _ w4 ⟨g, rfl, hg, hcg, h4, b4⟩
    walk_at "s"
    exact ⟨.inn g, rfl, ⟨hcg, by omega, by omega⟩, (b2.trans b3).trans b4⟩
  · refine (draw_spec h2 (by omega) (by omega)).mono ?_
    rintro _ w3 ⟨d3, rfl, hd3, h3, b3⟩
    walk_at "s"
    rw [show (1 : Int) + (d3 : Int) = ((1 + d3 : Nat) : Int) by omega]
    refine (word_spec h3 hl1 (by omega) (by omega)).mono ?_
    rintro _ w4 ⟨g, rfl, hg, hcg, h4, b4⟩
    walk_at "s"
    exact ⟨.row g, rfl, ⟨hcg, by omega, by omega⟩, (b2.trans b3).trans b4⟩
  · refine lc_inv (by omega) (fun pre acc ρ => (∃ g : Tx, acc = g.map chD ∧ g.Sublist pre) ∧ ∃ y w', ρ = ⟨[some (.fz (.obj n)), some (.fz (.str L)), some (.fz (.str [111, 110, 108, 121])), some (.fz (.str [c])), none, y], w'⟩ ∧ Hand w' n ∧ But n w w') ⟨⟨[], rfl, by simp⟩, _, _, rfl, h2, b2⟩ ?_ ?_
    · rintro pre a post acc _ e ⟨⟨g, rfl, hg⟩, y, w3, rfl, h3, b3⟩
      clear e
      walk_at "s"
      refine (draw_spec h3 (by omega) (by omega)).mono ?_
      rintro _ w4 ⟨d3, rfl, hd3, h4, b4⟩
      walk_at "s"
      refine wI_dec (fun hd => ?_) (fun hd => ?_)
      · walk_at "s"
        exact ⟨⟨g ++ [a], by simp [chD], hg.append (List.Sublist.refl _)⟩, _, _, rfl, h4, b3.trans b4⟩
      · exact ⟨⟨g, rfl, hg.trans (List.sublist_append_left _ _)⟩, _, _, rfl, h4, b3.trans b4⟩
    · rintro _ _ ⟨⟨g, rfl, hg⟩, y, w3, rfl, h3, b3⟩
      have hgl := hg.length_le
      walk_at "s"
      exact ⟨.only g, rfl, ⟨fun a ha => hg.subset ha, hL.asc.sublist hg, by omega⟩⟩

/-- the text that a saying holds -/
def syT : Sy → Tx
  | .first c => [c] | .last c => [c] | .count c _ _ => [c] | .least c _ => [c]
  | .inn w => w | .row w => w | .only w => w
theorem syT_ok {L : Tx} {s : Sy} (h : SyOk L s) : (∀ c ∈ syT s, c ∈ L) ∧ (syT s).length ≤ 4 := by
  cases s with
  | first c => exact ⟨by have h' : c ∈ L := h; simpa [syT] using h', by simp [syT]⟩
  | last c => exact ⟨by have h' : c ∈ L := h; simpa [syT] using h', by simp [syT]⟩
  | count c m r => exact ⟨by simpa [syT] using h.1, by simp [syT]⟩
  | least c m => exact ⟨by simpa [syT] using h.1, by simp [syT]⟩
  | inn w => exact ⟨h.1, h.2.2⟩
  | row w => exact ⟨h.1, h.2.2⟩
  | only w => exact ⟨h.1, h.2.2⟩
theorem syD_at (s : Sy) : ∃ k r, syD s = .tup (.str k :: .str (syT s) :: r) := by
  cases s
  all_goals exact ⟨_, _, rfl⟩

/-- sayings of sayings (k08): a leaf is a plain saying -/
inductive Sw where
  | leaf (s : Sy) | no (a : Sw) | con (a b : Sw) | alt (a b : Sw) | cut (c : Nat) (a b : Sw) | cutl (c : Nat) (a b : Sw)
def swD : Sw → D
  | .leaf s => syD s
  | .no a => .tup [.str [110, 111, 116], swD a]
  | .con a b => .tup [.str [97, 110, 100], swD a, swD b]
  | .alt a b => .tup [.str [111, 114], swD a, swD b]
  | .cut c a b => .tup [.str [99, 117, 116], .str [c], swD a, swD b]
  | .cutl c a b => .tup [.str [99, 117, 116, 108, 97, 115, 116], .str [c], swD a, swD b]
def SwOk (L : Tx) : Sw → Prop
  | .leaf s => SyOk L s
  | .no a => SwOk L a
  | .con a b => SwOk L a ∧ SwOk L b
  | .alt a b => SwOk L a ∧ SwOk L b
  | .cut c a b => c ∈ L ∧ SwOk L a ∧ SwOk L b
  | .cutl c a b => c ∈ L ∧ SwOk L a ∧ SwOk L b
/-- how deep: a leaf 1 -/
def swH : Sw → Nat
  | .leaf _ => 1
  | .no a => swH a + 1
  | .con a b => max (swH a) (swH b) + 1
  | .alt a b => max (swH a) (swH b) + 1
  | .cut _ a b => max (swH a) (swH b) + 1
  | .cutl _ a b => max (swH a) (swH b) + 1
/-- what it says of a word -/
def sws : Sw → Tx → Bool
  | .leaf s, x => so s x
  | .no a, x => !sws a x
  | .con a b, x => sws a x && sws b x
  | .alt a b, x => sws a x || sws b x
  | .cut c a b, x => match fstT x [c] with
    | some i => sws a (x.take i) && sws b (x.drop (i + 1))
    | none => false
  | .cutl c a b, x => match lstT x [c] with
    | some i => sws a (x.take i) && sws b (x.drop (i + 1))
    | none => false
theorem law_saying_spec {L : Tx} (hL : LetOk L 4) : ∀ (d m : Nat) (w : W) (n : Nat), Hand w n → 1 ≤ m → m ≤ d → d < 100 → wF (f__law_saying d [.obj n, .str L, .int m] w) (fun o w' => ∃ s, o = .fz (swD s) ∧ SwOk L s ∧ swH s ≤ m ∧ Hand w' n ∧ But n w w') FX
  | 0, m, w, n, h, h1, h2, h3 => by omega
  | d + 1, m, w, n, h, h1, h2, h3 => by
    have hl1 := hL.ne
    have hl2 := hL.le
    have ih := law_saying_spec hL d
    rw [f__law_saying]
    walk_at "f0"
    generalize f__law_saying d = fs at *
    have ih' := ih
    clear ih
    walk_at "s"
    refine (draw_spec h (by omega) (by omega)).mono ?_
    rintro _ w1 ⟨kind, rfl, hkind, h1', b1⟩
    walk_at "s"
    by_cases hm : m = 1
    · subst hm
      walk_at "s"
      refine (plain_spec h1' hL).mono ?_
      rintro _ w2 ⟨s, rfl, hs, h2', b2⟩
      walk_at "s"
      exact ⟨.leaf s, rfl, hs, Nat.le_refl _, b1.trans b2⟩
    have e : (m : Int) - 1 = ((m - 1 : Nat) : Int) := by omega
    have hm1 : ¬ (m : Int) = 1 := by omega
    walk_at "s"
    refine wI_dec (fun hk => ?_) (fun hk => ?_)
    · walk_at "s"
      refine (plain_spec h1' hL).mono ?_
      rintro _ w2 ⟨s, rfl, hs, h2', b2⟩
      walk_at "s"
      exact ⟨.leaf s, rfl, hs, h1, b1.trans b2⟩
    walk_at "s"
    refine wI_dec (fun hk0 => ?_) (fun hk0 => ?_)
    · walk_at "s"
      refine (ih' (m - 1) w1 n h1' (by omega) (by omega) (by omega)).mono ?_
      rintro _ w2 ⟨a, rfl, ha, hd, h2', b2⟩
      walk_at "s"
      exact ⟨.no a, rfl, ha, by simp only [swH]; omega, b1.trans b2⟩
    walk_at "s"
    refine (draw_spec h1' (by omega) (by omega)).mono ?_
    rintro _ w2 ⟨d2, rfl, hd2, h2', b2⟩
    walk_at "s"
    refine get_step (by omega) fun c hc _ => ?_
    walk_at "s"
    refine (ih' (m - 1) w2 n h2' (by omega) (by omega) (by omega)).mono ?_
    rintro _ w3 ⟨a, rfl, ha, hda, h3', b3⟩
    walk_at "s"
    refine (ih' (m - 1) w3 n h3' (by omega) (by omega) (by omega)).mono ?_
    rintro _ w4 ⟨b, rfl, hb, hdb, h4', b4⟩
    have bb := ((b1.trans b2).trans b3).trans b4
    clear ih' b1 b2 b3 b4 h1' h2' h3'
    rcases (show kind = 1 ∨ kind = 2 ∨ kind = 3 ∨ kind = 4 ∨ kind = 5 by omega) with rfl | rfl | rfl | rfl | rfl
    · walk_at "s"
      refine wD_is rfl ?_
      walk_at "s"
      exact ⟨.con a b, rfl, ⟨ha, hb⟩, by simp only [swH]; omega⟩
    · walk_at "s"
      refine wD_is rfl ?_
      walk_at "s"
      exact ⟨.alt a b, rfl, ⟨ha, hb⟩, by simp only [swH]; omega⟩
    · walk_at "s"
      refine wD_is rfl ?_
      walk_at "s"
      exact ⟨.cut c a b, rfl, ⟨hc, ha, hb⟩, by simp only [swH]; omega⟩
    · walk_at "s"
      refine wD_is rfl ?_
      walk_at "s"
      exact ⟨.cutl c a b, rfl, ⟨hc, ha, hb⟩, by simp only [swH]; omega⟩
    · walk_at "s"
      refine wD_is rfl ?_
      walk_at "s"
      exact ⟨.cut c a b, rfl, ⟨hc, ha, hb⟩, by simp only [swH]; omega⟩
theorem parts_of_w (s : Sw) (w : W) : wF (f_parts_of [swD s] w) (fun o w' => o = .fz (.tup (match s with
    | .leaf _ => [] | .no a => [swD a] | .con a b => [swD a, swD b] | .alt a b => [swD a, swD b] | .cut _ a b => [swD a, swD b] | .cutl _ a b => [swD a, swD b])) ∧ w' = w) FX := by
  cases s with
  | leaf s => exact parts_of_spec s w
  | no a =>
    unfold f_parts_of
    simp only [swD]
    walk_at "f"
    refine wD_is (z := .bl true) rfl ?_
    walk_at "s"
    refine wD_is (z := .int 1) rfl ?_
    walk_at "s"
    rfl
  | con a b =>
    unfold f_parts_of
    simp only [swD]
    walk_at "f"
    refine wD_is (z := .bl true) rfl ?_
    walk_at "s"
    refine wD_is (z := .int 2) rfl ?_
    walk_at "s"
    rfl
  | alt a b =>
    unfold f_parts_of
    simp only [swD]
    walk_at "f"
    refine wD_is (z := .bl true) rfl ?_
    walk_at "s"
    refine wD_is (z := .int 2) rfl ?_
    walk_at "s"
    rfl
  | cut c a b =>
    unfold f_parts_of
    simp only [swD]
    walk_at "f"
    refine wD_is (z := .bl false) rfl ?_
    walk_at "s"
    refine wD_is (z := .bl true) rfl ?_
    walk_at "s"
    rfl
  | cutl c a b =>
    unfold f_parts_of
    simp only [swD]
    walk_at "f"
    refine wD_is (z := .bl false) rfl ?_
    walk_at "s"
    refine wD_is (z := .bl true) rfl ?_
    walk_at "s"
    rfl

theorem swH_pos (s : Sw) : 1 ≤ swH s := by cases s <;> simp [swH]
theorem swD_at (s : Sw) : ∃ k r, swD s = .tup (.str k :: r) := by
  cases s with
  | leaf s =>
    obtain ⟨k, r, e⟩ := syD_at s
    exact ⟨k, _, e⟩
  | no a => exact ⟨_, _, rfl⟩
  | con a b => exact ⟨_, _, rfl⟩
  | alt a b => exact ⟨_, _, rfl⟩
  | cut c a b => exact ⟨_, _, rfl⟩
  | cutl c a b => exact ⟨_, _, rfl⟩
/-- the parts of a saying -/
def swP : Sw → List Sw
  | .leaf _ => [] | .no a => [a] | .con a b => [a, b] | .alt a b => [a, b] | .cut _ a b => [a, b] | .cutl _ a b => [a, b]
theorem parts_of_w' (s : Sw) (w : W) : wF (f_parts_of [swD s] w) (fun o w' => o = .fz (.tup ((swP s).map swD)) ∧ w' = w) FX := by
  refine (parts_of_w s w).mono ?_
  rintro _ _ ⟨rfl, rfl⟩
  cases s <;> exact ⟨rfl, rfl⟩
theorem swP_ok {L : Tx} {s a : Sw} (h : SwOk L s) (ha : a ∈ swP s) : SwOk L a ∧ swH a + 1 ≤ swH s := by
  cases s <;> simp only [swP, List.mem_cons, List.not_mem_nil, or_false] at ha
  · subst ha; exact ⟨h, Nat.le_refl _⟩
  · rcases ha with rfl | rfl
    · exact ⟨h.1, by simp only [swH]; omega⟩
    · exact ⟨h.2, by simp only [swH]; omega⟩
  · rcases ha with rfl | rfl
    · exact ⟨h.1, by simp only [swH]; omega⟩
    · exact ⟨h.2, by simp only [swH]; omega⟩
  · rcases ha with rfl | rfl
    · exact ⟨h.2.1, by simp only [swH]; omega⟩
    · exact ⟨h.2.2, by simp only [swH]; omega⟩
  · rcases ha with rfl | rfl
    · exact ⟨h.2.1, by simp only [swH]; omega⟩
    · exact ⟨h.2.2, by simp only [swH]; omega⟩

theorem is_saying_w {L : Tx} : ∀ (n : Nat) (s : Sw) (d : Nat) (w : W), SwOk L s → swH s ≤ n → swH s ≤ d → d < 100 → wF (f_is_saying n [swD s, .str L, .int d] w) (fun o w' => o = .fz (.bl true) ∧ w' = w) FX
  | 0, s, d, w, h, h1, h2, h3 => by have := swH_pos s; omega
  | n + 1, s, d, w, h, h1, h2, h3 => by
    have ih := is_saying_w (L := L) n
    have hp := swH_pos s
    have q1 := parts_of_w' s w
    obtain ⟨k, r, e⟩ := swD_at s
    have hcut : ∀ c a b, (s = .cut c a b ∨ s = .cutl c a b) → c ∈ L := by
      rintro c a b (rfl | rfl)
      · exact h.1
      · exact h.1
    rw [f_is_saying]
    walk_at "f0"
    generalize f_is_saying n = fs at *
    have ih' := ih
    have q1' := q1
    clear ih q1
    rw [e] at q1' ⊢
    walk_at "s"
    refine q1'.mono ?_
    clear q1'
    rintro _ _ ⟨rfl, rfl⟩
    have hpart := fun a (ha : a ∈ swP s) => swP_ok h ha
    cases s with
    | leaf s' =>
      simp only [swP, List.map_nil]
      have e' : syD s' = .tup (.str k :: r) := e
      walk_at "s"
      rw [← e']
      refine (is_plain_spec s' h _).mono ?_
      rintro _ _ ⟨rfl, rfl⟩
      walk_at "s"
    | no a =>
      simp only [swD, D.tup.injEq, List.cons.injEq, D.str.injEq] at e
      obtain ⟨rfl, rfl⟩ := e
      simp only [swP, List.map_cons, List.map_nil]
      walk_at "s"
      refine wD_is (z := .bl false) rfl ?_
      walk_at "s"
      refine lc_inv (cs := [a]) (f := swD) (by simp) (fun pre acc ρ => acc = (pre.map fun _ => true).map .bl ∧ ∃ x, ρ = ⟨[some (.fz _), some (.fz (.str L)), some (.fz (.int d)), some (.fz _), x], _⟩) ⟨rfl, _, rfl⟩ ?_ ?_
      · rintro pre c post acc _ ec ⟨rfl, x, rfl⟩
        have hc := hpart c (by rw [show swP _ = [a] from rfl, ec]; simp)
        clear ec
        walk_at "s"
        rw [show ((d : Int) - 1) = ((d - 1 : Nat) : Int) by omega]
        refine (ih' c (d - 1) _ hc.1 (by omega) (by omega) (by omega)).mono ?_
        rintro _ _ ⟨rfl, rfl⟩
        walk_at "s"
        exact ⟨by simp, _, rfl⟩
      · rintro _ _ ⟨rfl, x, rfl⟩
        rw [d_all]
        walk_at "s"
        rfl
    | con a b =>
      simp only [swD, D.tup.injEq, List.cons.injEq, D.str.injEq] at e
      obtain ⟨rfl, rfl⟩ := e
      simp only [swP, List.map_cons, List.map_nil]
      walk_at "s"
      refine wD_is (z := .bl false) rfl ?_
      walk_at "s"
      refine lc_inv (cs := [a, b]) (f := swD) (by simp) (fun pre acc ρ => acc = (pre.map fun _ => true).map .bl ∧ ∃ x, ρ = ⟨[some (.fz _), some (.fz (.str L)), some (.fz (.int d)), some (.fz _), x], _⟩) ⟨rfl, _, rfl⟩ ?_ ?_
      · rintro pre c post acc _ ec ⟨rfl, x, rfl⟩
        have hc := hpart c (by rw [show swP _ = [a, b] from rfl, ec]; simp)
        clear ec
        walk_at "s"
        rw [show ((d : Int) - 1) = ((d - 1 : Nat) : Int) by omega]
        refine (ih' c (d - 1) _ hc.1 (by omega) (by omega) (by omega)).mono ?_
        rintro _ _ ⟨rfl, rfl⟩
        walk_at "s"
        exact ⟨by simp, _, rfl⟩
      · rintro _ _ ⟨rfl, x, rfl⟩
        rw [d_all]
        walk_at "s"
        rfl
    | alt a b =>
      simp only [swD, D.tup.injEq, List.cons.injEq, D.str.injEq] at e
      obtain ⟨rfl, rfl⟩ := e
      simp only [swP, List.map_cons, List.map_nil]
      walk_at "s"
      refine wD_is (z := .bl false) rfl ?_
      walk_at "s"
      refine lc_inv (cs := [a, b]) (f := swD) (by simp) (fun pre acc ρ => acc = (pre.map fun _ => true).map .bl ∧ ∃ x, ρ = ⟨[some (.fz _), some (.fz (.str L)), some (.fz (.int d)), some (.fz _), x], _⟩) ⟨rfl, _, rfl⟩ ?_ ?_
      · rintro pre c post acc _ ec ⟨rfl, x, rfl⟩
        have hc := hpart c (by rw [show swP _ = [a, b] from rfl, ec]; simp)
        clear ec
        walk_at "s"
        rw [show ((d : Int) - 1) = ((d - 1 : Nat) : Int) by omega]
        refine (ih' c (d - 1) _ hc.1 (by omega) (by omega) (by omega)).mono ?_
        rintro _ _ ⟨rfl, rfl⟩
        walk_at "s"
        exact ⟨by simp, _, rfl⟩
      · rintro _ _ ⟨rfl, x, rfl⟩
        rw [d_all]
        walk_at "s"
        rfl
    | cut c0 a b =>
      simp only [swD, D.tup.injEq, List.cons.injEq, D.str.injEq] at e
      obtain ⟨rfl, rfl⟩ := e
      simp only [swP, List.map_cons, List.map_nil]
      walk_at "s"
      refine wD_is (z := .bl true) rfl ?_
      walk_at "s"
      refine (is_letter_spec h.1 _).mono ?_
      rintro _ _ ⟨rfl, rfl⟩
      walk_at "s"
      refine lc_inv (cs := [a, b]) (f := swD) (by simp) (fun pre acc ρ => acc = (pre.map fun _ => true).map .bl ∧ ∃ x, ρ = ⟨[some (.fz _), some (.fz (.str L)), some (.fz (.int d)), some (.fz _), x], _⟩) ⟨rfl, _, rfl⟩ ?_ ?_
      · rintro pre c post acc _ ec ⟨rfl, x, rfl⟩
        have hc := hpart c (by rw [show swP _ = [a, b] from rfl, ec]; simp)
        clear ec
        walk_at "s"
        rw [show ((d : Int) - 1) = ((d - 1 : Nat) : Int) by omega]
        refine (ih' c (d - 1) _ hc.1 (by omega) (by omega) (by omega)).mono ?_
        rintro _ _ ⟨rfl, rfl⟩
        walk_at "s"
        exact ⟨by simp, _, rfl⟩
      · rintro _ _ ⟨rfl, x, rfl⟩
        rw [d_all]
        walk_at "s"
        rfl
    | cutl c0 a b =>
      simp only [swD, D.tup.injEq, List.cons.injEq, D.str.injEq] at e
      obtain ⟨rfl, rfl⟩ := e
      simp only [swP, List.map_cons, List.map_nil]
      walk_at "s"
      refine wD_is (z := .bl true) rfl ?_
      walk_at "s"
      refine (is_letter_spec h.1 _).mono ?_
      rintro _ _ ⟨rfl, rfl⟩
      walk_at "s"
      refine lc_inv (cs := [a, b]) (f := swD) (by simp) (fun pre acc ρ => acc = (pre.map fun _ => true).map .bl ∧ ∃ x, ρ = ⟨[some (.fz _), some (.fz (.str L)), some (.fz (.int d)), some (.fz _), x], _⟩) ⟨rfl, _, rfl⟩ ?_ ?_
      · rintro pre c post acc _ ec ⟨rfl, x, rfl⟩
        have hc := hpart c (by rw [show swP _ = [a, b] from rfl, ec]; simp)
        clear ec
        walk_at "s"
        rw [show ((d : Int) - 1) = ((d - 1 : Nat) : Int) by omega]
        refine (ih' c (d - 1) _ hc.1 (by omega) (by omega) (by omega)).mono ?_
        rintro _ _ ⟨rfl, rfl⟩
        walk_at "s"
        exact ⟨by simp, _, rfl⟩
      · rintro _ _ ⟨rfl, x, rfl⟩
        rw [d_all]
        walk_at "s"
        rfl

theorem is_so_leaf {L : Tx} (n : Nat) (s : Sy) (h : SyOk L s) (x : Tx) (w : W) : wF (f_is_so (n + 1) [syD s, .str x] w) (fun o w' => o = .fz (.bl (so s x)) ∧ w' = w) FX := by
  rw [f_is_so]
  cases s with
  | first c =>
    simp only [syD]
    walk_at "f"
    refine wD_is (z := .bl false) rfl ?_
    walk_at "s"
    rfl
  | last c =>
    simp only [syD]
    walk_at "f"
    refine wD_is (z := .bl false) rfl ?_
    walk_at "s"
    exact congrArg (fun b => O.fz (D.bl b)) (by rw [cut_last]; rfl)
  | count c m r =>
    obtain ⟨h1, h2, h3, h4⟩ := h
    simp only [syD]
    walk_at "f"
    refine wD_is (z := .bl false) rfl ?_
    walk_at "s"
    refine wD_is rfl ?_
    walk_at "s"
    refine congrArg (fun b => O.fz (D.bl b)) ?_
    unfold so
    rw [decide_eq_decide]
    constructor
    · intro h; exact_mod_cast h
    · intro h; exact_mod_cast h
  | least c m =>
    simp only [syD]
    walk_at "f"
    refine wD_is (z := .bl false) rfl ?_
    walk_at "s"
    refine wD_is rfl ?_
    walk_at "s"
    refine congrArg (fun b => O.fz (D.bl b)) ?_
    unfold so
    rw [decide_eq_decide]
    omega
  | inn g =>
    simp only [syD]
    walk_at "f"
    refine wD_is (z := .bl false) rfl ?_
    walk_at "s"
    refine (stands_in_spec x g (by have := h.2.2; omega) w).mono ?_
    rintro _ _ ⟨rfl, rfl⟩
    walk_at "s"
    rfl
  | row g =>
    simp only [syD]
    walk_at "f"
    refine wD_is (z := .bl false) rfl ?_
    walk_at "s"
    refine wD_is rfl ?_
    walk_at "s"
    rfl
  | only g =>
    simp only [syD]
    walk_at "f"
    refine wD_is (z := .bl false) rfl ?_
    walk_at "s"
    refine (is_string_of_spec x g w).mono ?_
    rintro _ _ ⟨rfl, rfl⟩
    walk_at "s"
    rfl
theorem check_saying_w {L : Tx} (hL : LetOk L 4) (s : Sw) (h : SwOk L s) (hd : swH s ≤ 6) (w : W) : wF (f_check_saying [.str L, swD s] w) (fun o w' => o = .fz .non ∧ w' = w) FX := by
  have h1 := hL.ne
  have h2 := hL.le
  unfold f_check_saying
  walk_at "f"
  refine (is_choice_spec L abc w).mono ?_
  rintro _ _ ⟨rfl, rfl⟩
  rw [all_in (fun c hc => mem_abc.mpr (hL.abc c hc)), decide_eq_true hL.asc]
  walk_at "s"
  refine (is_saying_w 7 s 6 _ h (by omega) hd (by omega)).mono ?_
  rintro _ _ ⟨rfl, rfl⟩
  walk_at "s"

theorem is_so_w {L : Tx} : ∀ (n : Nat) (s : Sw) (x : Tx) (w : W), SwOk L s → swH s ≤ n → wF (f_is_so n [swD s, .str x] w) (fun o w' => o = .fz (.bl (sws s x)) ∧ w' = w) FX
  | 0, s, x, w, h, h1 => by have := swH_pos s; omega
  | n + 1, s, x, w, h, h1 => by
    have ih := is_so_w (L := L) n
    cases s with
    | leaf s' => exact is_so_leaf n s' h x w
    | no a =>
      rw [f_is_so]
      walk_at "f0"
      generalize f_is_so n = fs at *
      have ih' := ih a x
      clear ih
      simp only [swD, swH] at *
      walk_at "s"
      refine (ih' _ h (by omega)).mono ?_
      rintro _ _ ⟨rfl, rfl⟩
      walk_at "s"
      rfl
    | con a b =>
      rw [f_is_so]
      walk_at "f0"
      generalize f_is_so n = fs at *
      have ih' := ih
      clear ih
      simp only [swD, swH] at *
      walk_at "s"
      refine (ih' a x _ h.1 (by omega)).mono ?_
      rintro _ _ ⟨rfl, rfl⟩
      walk_at "s"
      refine wI_bool (fun hb => ?_) (fun hb => ?_)
      · walk_at "s"
        refine (ih' b x _ h.2 (by omega)).mono ?_
        rintro _ _ ⟨rfl, rfl⟩
        walk_at "s"
        exact congrArg (fun b => O.fz (D.bl b)) (by simp [sws, hb])
      · walk_at "s"
        exact congrArg (fun b => O.fz (D.bl b)) (by simp [sws, hb])
    | alt a b =>
      rw [f_is_so]
      walk_at "f0"
      generalize f_is_so n = fs at *
      have ih' := ih
      clear ih
      simp only [swD, swH] at *
      walk_at "s"
      refine (ih' a x _ h.1 (by omega)).mono ?_
      rintro _ _ ⟨rfl, rfl⟩
      walk_at "s"
      refine wI_bool (fun hb => ?_) (fun hb => ?_)
      · walk_at "s"
        exact congrArg (fun b => O.fz (D.bl b)) (by simp [sws, hb])
      · walk_at "s"
        refine (ih' b x _ h.2 (by omega)).mono ?_
        rintro _ _ ⟨rfl, rfl⟩
        walk_at "s"
        exact congrArg (fun b => O.fz (D.bl b)) (by simp [sws, hb])
    | cut c a b =>
      rw [f_is_so]
      walk_at "f0"
      generalize f_is_so n = fs at *
      have ih' := ih
      clear ih
      simp only [swD, swH] at *
      cases q : fstT x [c] with
      | none =>
        walk_at "s"
        refine wD_is (z := .bl true) rfl ?_
        walk_at "s"
        exact congrArg (fun b => O.fz (D.bl b)) (by simp [sws, q])
      | some i =>
        walk_at "s"
        refine wD_is (z := .bl true) rfl ?_
        walk_at "s"
        refine (ih' a (x.take i) _ h.2.1 (by omega)).mono ?_
        rintro _ _ ⟨rfl, rfl⟩
        walk_at "s"
        refine wI_bool (fun hb => ?_) (fun hb => ?_)
        · walk_at "s"
          refine (ih' b (x.drop (i + 1)) _ h.2.2 (by omega)).mono ?_
          rintro _ _ ⟨rfl, rfl⟩
          walk_at "s"
          exact congrArg (fun b => O.fz (D.bl b)) (by simp [sws, q, hb])
        · walk_at "s"
          exact congrArg (fun b => O.fz (D.bl b)) (by simp [sws, q, hb])
    | cutl c a b =>
      rw [f_is_so]
      walk_at "f0"
      generalize f_is_so n = fs at *
      have ih' := ih
      clear ih
      simp only [swD, swH] at *
      cases q : lstT x [c] with
      | none =>
        walk_at "s"
        refine wD_is (z := .bl true) rfl ?_
        walk_at "s"
        refine wD_is (z := .int (fnd (lstT x [c]))) rfl ?_
        walk_at "s"
        exact congrArg (fun b => O.fz (D.bl b)) (by simp [sws, q])
      | some i =>
        walk_at "s"
        refine wD_is (z := .bl true) rfl ?_
        walk_at "s"
        refine wD_is (z := .int (fnd (lstT x [c]))) rfl ?_
        walk_at "s"
        refine (ih' a (x.take i) _ h.2.1 (by omega)).mono ?_
        rintro _ _ ⟨rfl, rfl⟩
        walk_at "s"
        refine wI_bool (fun hb => ?_) (fun hb => ?_)
        · walk_at "s"
          refine (ih' b (x.drop (i + 1)) _ h.2.2 (by omega)).mono ?_
          rintro _ _ ⟨rfl, rfl⟩
          walk_at "s"
          exact congrArg (fun b => O.fz (D.bl b)) (by simp [sws, q, hb])
        · walk_at "s"
          exact congrArg (fun b => O.fz (D.bl b)) (by simp [sws, q, hb])
theorem holds_w {L x : Tx} (hL : LetOk L 4) (s : Sw) (h : SwOk L s) (hd : swH s ≤ 6) (hx : ∀ c ∈ x, c ∈ L) (w : W) : wF (f_holds [.str L, swD s, .str x] w) (fun o w' => o = .fz (.bl (sws s x)) ∧ w' = w) FX := by
  unfold f_holds
  walk_at "f"
  refine (check_saying_w hL s h hd w).mono ?_
  rintro _ _ ⟨rfl, rfl⟩
  walk_at "s"
  refine (is_string_of_spec x L _).mono ?_
  rintro _ _ ⟨rfl, rfl⟩
  rw [all_in hx]
  walk_at "s"
  refine (is_so_w 7 s x _ h (by omega)).mono ?_
  rintro _ _ ⟨rfl, rfl⟩
  walk_at "s"

/-- the places of a letter -/
def plc (x : Tx) (c : Nat) : List Nat := (List.range x.length).filter fun i => decide (x[i]? = some c)
theorem plc_head (x : Tx) (c : Nat) : (plc x c).head? = fstT x [c] := by
  unfold plc fstT
  rw [List.head?_filter, List.range_succ, List.find?_append]
  have e : (fun i => decide (x[i]? = some c)) = isAt x [c] := by funext i; rw [isAt_one]
  rw [e]
  have h2 : List.find? (isAt x [c]) [x.length] = none := by
    rw [List.find?_cons_of_neg]
    · rfl
    · rw [isAt_one]; simp
  rw [h2, Option.or_none]
theorem plc_last (x : Tx) (c : Nat) : (plc x c).getLast? = lstT x [c] := by
  unfold plc lstT
  have e : (fun i => decide (x[i]? = some c)) = isAt x [c] := by funext i; rw [isAt_one]
  rw [e, ← List.head?_reverse, ← List.filter_reverse, List.head?_filter]
  have h2 : (List.range x.length).reverse.find? (isAt x [c]) = (List.range (x.length + 1)).reverse.find? (isAt x [c]) := by
    rw [List.range_succ, List.reverse_append, List.find?_append]
    have h2 : List.find? (isAt x [c]) [x.length].reverse = none := by
      rw [List.reverse_singleton, List.find?_cons_of_neg]
      · rfl
      · rw [isAt_one]; simp
    rw [h2, Option.none_or]
  have e3 : (List.range (x.length + 1)).reverse = (List.range (x.length + 1)).map (fun k => x.length - k) := by
    rw [List.range_eq_range', List.reverse_range', ← List.range_eq_range']
    refine List.map_congr_left fun k hk => ?_
    omega
  rw [h2, e3, List.find?_map]
  rfl
theorem plc_mem {x : Tx} {c i : Nat} (h : i ∈ plc x c) : i < x.length := List.mem_range.mp (List.mem_filter.mp h).1
theorem law_so_w {L : Tx} : ∀ (n : Nat) (s : Sw) (x : Tx) (w : W), SwOk L s → swH s ≤ n → x.length < 1000 → wF (f__law_so n [swD s, .str x] w) (fun o w' => o = .fz (.bl (sws s x)) ∧ w' = w) FX
  | 0, s, x, w, h, h1, hx => by have := swH_pos s; omega
  | n + 1, s, x, w, h, h1, hx => by
    have ih := law_so_w (L := L) n
    rw [f__law_so]
    walk_at "f0"
    generalize f__law_so n = fs at *
    have ih' := ih
    clear ih
    cases s with
    | leaf s' =>
      have q := plain_so_spec s' h x hx w
      simp only [swD]
      cases s' with
      | first c =>
        simp only [syD] at *
        walk_at "s"
        refine q.mono ?_
        rintro _ _ ⟨rfl, rfl⟩
        walk_at "s"
        rfl
      | last c =>
        simp only [syD] at *
        walk_at "s"
        refine q.mono ?_
        rintro _ _ ⟨rfl, rfl⟩
        walk_at "s"
        rfl
      | count c m r =>
        simp only [syD] at *
        walk_at "s"
        refine q.mono ?_
        rintro _ _ ⟨rfl, rfl⟩
        walk_at "s"
        rfl
      | least c m =>
        simp only [syD] at *
        walk_at "s"
        refine q.mono ?_
        rintro _ _ ⟨rfl, rfl⟩
        walk_at "s"
        rfl
      | inn g =>
        simp only [syD] at *
        walk_at "s"
        refine q.mono ?_
        rintro _ _ ⟨rfl, rfl⟩
        walk_at "s"
        rfl
      | row g =>
        simp only [syD] at *
        walk_at "s"
        refine q.mono ?_
        rintro _ _ ⟨rfl, rfl⟩
        walk_at "s"
        rfl
      | only g =>
        simp only [syD] at *
        walk_at "s"
        refine q.mono ?_
        rintro _ _ ⟨rfl, rfl⟩
        walk_at "s"
        rfl
    | no a =>
      simp only [swD, swH] at *
      walk_at "s"
      refine (ih' a x _ h (by omega) hx).mono ?_
      rintro _ _ ⟨rfl, rfl⟩
      walk_at "s"
      rfl
    | con a b =>
      simp only [swD, swH] at *
      walk_at "s"
      refine (ih' a x _ h.1 (by omega) hx).mono ?_
      rintro _ _ ⟨rfl, rfl⟩
      walk_at "s"
      refine wI_bool (fun hb => ?_) (fun hb => ?_)
      · walk_at "s"
        refine (ih' b x _ h.2 (by omega) hx).mono ?_
        rintro _ _ ⟨rfl, rfl⟩
        walk_at "s"
        exact congrArg (fun b => O.fz (D.bl b)) (by simp [sws, hb])
      · walk_at "s"
        exact congrArg (fun b => O.fz (D.bl b)) (by simp [sws, hb])
    | alt a b =>
      simp only [swD, swH] at *
      walk_at "s"
      refine (ih' a x _ h.1 (by omega) hx).mono ?_
      rintro _ _ ⟨rfl, rfl⟩
      walk_at "s"
      refine wI_bool (fun hb => ?_) (fun hb => ?_)
      · walk_at "s"
        exact congrArg (fun b => O.fz (D.bl b)) (by simp [sws, hb])
      · walk_at "s"
        refine (ih' b x _ h.2 (by omega) hx).mono ?_
        rintro _ _ ⟨rfl, rfl⟩
        walk_at "s"
        exact congrArg (fun b => O.fz (D.bl b)) (by simp [sws, hb])
    | cut c a b =>
      simp only [swD, swH] at *
      have hh := plc_head x c
      walk_at "s"
      refine lcr_flt (fun i => decide (x[i]? = some c)) (fun i => .int (i : Nat)) (by omega) (fun i hi => ?_) ?_
      · walk_at "s"
        rw [List.getElem?_eq_getElem hi]
        walk_at "s"
        exact ⟨by simp, fun _ => trivial⟩
      walk_at "l"
      rw [show (List.range x.length).filter (fun i => decide (x[i]? = some c)) = plc x c from rfl]
      have hm : ∀ i ∈ plc x c, i < x.length := fun i hi => plc_mem hi
      generalize plc x c = P at *
      rcases hq : P[0]? with _ | i
      · obtain rfl : P = [] := by
          cases P with
          | nil => rfl
          | cons a P => simp at hq
        walk_at "s"
        exact congrArg (fun b => O.fz (D.bl b)) (by simp only [sws, ← hh]; rfl)
      · have hi := hm i (List.mem_of_getElem? hq)
        have hl0 := lt_of_get hq
        have e1 : ¬ ((P.length : Int) = 0) := by omega
        have hh' : fstT x [c] = some i := by rw [← hh, ← hq]; exact List.head?_eq_getElem?
        clear hh
        walk_at "s"
        refine (ih' a (x.take i) _ h.2.1 (by omega) (by rw [List.length_take]; omega)).mono ?_
        rintro _ _ ⟨rfl, rfl⟩
        walk_at "s"
        refine wI_bool (fun hb => ?_) (fun hb => ?_)
        · walk_at "s"
          refine (ih' b (x.drop (i + 1)) _ h.2.2 (by omega) (by rw [List.length_drop]; omega)).mono ?_
          rintro _ _ ⟨rfl, rfl⟩
          walk_at "s"
          exact congrArg (fun b => O.fz (D.bl b)) (by simp [sws, hh', hb])
        · walk_at "s"
          exact congrArg (fun b => O.fz (D.bl b)) (by simp [sws, hh', hb])
    | cutl c a b =>
      simp only [swD, swH] at *
      have hh := plc_last x c
      walk_at "s"
      refine lcr_flt (fun i => decide (x[i]? = some c)) (fun i => .int (i : Nat)) (by omega) (fun i hi => ?_) ?_
      · walk_at "s"
        rw [List.getElem?_eq_getElem hi]
        walk_at "s"
        exact ⟨by simp, fun _ => trivial⟩
      walk_at "l"
      rw [show (List.range x.length).filter (fun i => decide (x[i]? = some c)) = plc x c from rfl]
      have hm : ∀ i ∈ plc x c, i < x.length := fun i hi => plc_mem hi
      generalize plc x c = P at *
      rcases hq : P[P.length - 1]? with _ | i
      · obtain rfl : P = [] := by
          cases P with
          | nil => rfl
          | cons a P => simp at hq
        walk_at "s"
        exact congrArg (fun b => O.fz (D.bl b)) (by simp only [sws, ← hh]; rfl)
      · have hi := hm i (List.mem_of_getElem? hq)
        have hl0 := lt_of_get hq
        have e1 : ¬ ((P.length : Int) = 0) := by omega
        have e2 : (P.length : Int) - 1 = ((P.length - 1 : Nat) : Int) := by omega
        obtain ⟨j, hj⟩ : ∃ j, P[0]? = some j := ⟨_, List.getElem?_eq_getElem (show 0 < P.length by omega)⟩
        have hh' : lstT x [c] = some i := by rw [← hh, ← hq]; exact List.getLast?_eq_getElem?
        clear hh
        walk_at "s"
        refine (ih' a (x.take i) _ h.2.1 (by omega) (by rw [List.length_take]; omega)).mono ?_
        rintro _ _ ⟨rfl, rfl⟩
        walk_at "s"
        refine wI_bool (fun hb => ?_) (fun hb => ?_)
        · walk_at "s"
          refine (ih' b (x.drop (i + 1)) _ h.2.2 (by omega) (by rw [List.length_drop]; omega)).mono ?_
          rintro _ _ ⟨rfl, rfl⟩
          walk_at "s"
          exact congrArg (fun b => O.fz (D.bl b)) (by simp [sws, hh', hb])
        · walk_at "s"
          exact congrArg (fun b => O.fz (D.bl b)) (by simp [sws, hh', hb])

theorem flag_spec (a b : Bool) (w : W) : wF (f__law_flag [.bl a, .bl b] w) (fun o w' => o = .fz (.bl (a == b)) ∧ w' = w) FX := by
  unfold f__law_flag
  walk_at "f"
theorem flag_same (a : Bool) (w : W) : wF (f__law_flag [.bl a, .bl a] w) (fun o w' => o = .fz (.bl true) ∧ w' = w) FX := by
  refine (flag_spec a a w).mono ?_
  rintro _ _ ⟨rfl, rfl⟩
  simp
theorem law_true (ns : List Int) (hl : ns.length ≤ 63) : ∃ w, f_law [.scr (ns.map .int)] [] = .ok (.fz (.bl true)) w := by
  suffices h : wF (f_law [.scr (ns.map .int)] []) (fun o _ => o = .fz (.bl true)) FX by
    obtain ⟨o, w, e, rfl⟩ := h.exi
    exact ⟨w, e⟩
  unfold f_law
  walk_at "f"
  refine (hand_spec hl).mono ?_
  rintro _ w1 ⟨rfl, h1, hl1, -⟩
  change Hand w1 0 at h1
  walk_at "s"
  refine (some_letters_spec h1).mono ?_
  rintro _ w2 ⟨L, rfl, hL, h2, b2⟩
  clear h1 hl1 b2
  have hn1 := hL.ne
  have hn2 := hL.le
  walk_at "s"
  refine for_rng (fun k ρ => ∃ x3 x4 x5 x6 x7 x8 x9 x10 x11 x12 x13 w', ρ = ⟨[some (.fz (.scr (ns.map .int))), some (.fz (.obj 0)), some (.fz (.str L)), x3, x4, x5, x6, x7, x8, x9, x10, x11, x12, x13], w'⟩ ∧ Hand w' 0) ⟨_, _, _, _, _, _, _, _, _, _, _, _, rfl, h2⟩ ?_ ?_
  · clear h2
    rintro k _ hk ⟨x3, x4, x5, x6, x7, x8, x9, x10, x11, x12, x13, w3, rfl, h3⟩
    clear hk
    have ls := law_saying_spec hL 6
    walk_at "s"
    rw [show (5 : Int) = ((5 : Nat) : Int) from rfl]
    refine (ls 5 w3 0 h3 (by omega) (by omega) (by omega)).mono ?_
    rintro _ w4 ⟨s1, rfl, hs1, hd1, h4, b4⟩
    clear b4 h3
    have ls' := ls
    clear ls
    walk_at "s"
    refine (draw_spec h4 (by omega) (by omega)).mono ?_
    rintro _ w5 ⟨d, rfl, hd, h5, b5⟩
    clear b5 h4
    walk_at "s"
    rw [show (1 : Int) + (d : Int) = ((1 + d : Nat) : Int) by omega]
    refine (ls' (1 + d) w5 0 h5 (by omega) (by omega) (by omega)).mono ?_
    rintro _ w6 ⟨s2, rfl, hs2, hd2, h6, b6⟩
    clear b6 h5 ls'
    walk_at "s"
    refine (draw_spec h6 (by omega) (by omega)).mono ?_
    rintro _ w7 ⟨d', rfl, hd', h7, b7⟩
    clear b7 h6
    walk_at "s"
    have hL'1 : 1 ≤ (L.drop d').length := by rw [List.length_drop]; omega
    have hL'2 : (L.drop d').length ≤ 4 := by rw [List.length_drop]; omega
    have hL'c : ∀ c ∈ L.drop d', c ∈ L := fun c hc => List.mem_of_mem_drop hc
    generalize L.drop d' = L' at *
    refine for_rng (fun k ρ => ∃ x3 x7 x8 x9 x10 x11 x12 x13 w', ρ = ⟨[some (.fz (.scr (ns.map .int))), some (.fz (.obj 0)), some (.fz (.str L)), x3, some (.fz (swD s1)), some (.fz (swD s2)), some (.fz (.str L')), x7, x8, x9, x10, x11, x12, x13], w'⟩ ∧ Hand w' 0) ⟨_, _, _, _, _, _, _, _, _, rfl, h7⟩ ?_ ?_
    · clear h7
      rintro k2 _ hk2 ⟨x3, x7, x8, x9, x10, x11, x12, x13, w8, rfl, h8⟩
      walk_at "s"
      obtain ⟨La, hLa, hLa1, hLa2, hLac⟩ : ∃ La : Tx, ([D.str L, D.str L'] : List D)[((k2 : Int) % 2).toNat]? = some (D.str La) ∧ 1 ≤ La.length ∧ La.length ≤ 4 ∧ ∀ c ∈ La, c ∈ L := by
        rcases (show ((k2 : Int) % 2).toNat = 0 ∨ ((k2 : Int) % 2).toNat = 1 by omega) with e | e
        · exact ⟨L, by rw [e]; rfl, hn1, hn2, fun c hc => hc⟩
        · exact ⟨L', by rw [e]; rfl, hL'1, hL'2, hL'c⟩
      walk_at "s"
      refine (draw_spec h8 (by omega) (by omega)).mono ?_
      rintro _ w9 ⟨d3, rfl, hd3, h9, b9⟩
      clear b9 h8
      walk_at "s"
      refine (word_spec h9 hLa1 (by omega) (by omega)).mono ?_
      rintro _ w10 ⟨x, rfl, hx, hxc', h10, b10⟩
      have hxc : ∀ c ∈ x, c ∈ L := fun c hc => hLac c (hxc' c hc)
      clear b10 h9 hxc' hLa hLac
      have q1 := holds_w hL s1 hs1 (by omega) hxc
      have q2 := holds_w hL s2 hs2 (by omega) hxc
      have q3 : ∀ w, wF (f_holds [.str L, swD (.no s1), .str x] w) (fun o w' => o = .fz (.bl (!sws s1 x)) ∧ w' = w) FX := holds_w hL (.no s1) hs1 (by simp only [swH]; omega) hxc
      have q4 : ∀ w, wF (f_holds [.str L, swD (.con s1 s2), .str x] w) (fun o w' => o = .fz (.bl (sws s1 x && sws s2 x)) ∧ w' = w) FX := holds_w hL (.con s1 s2) ⟨hs1, hs2⟩ (by simp only [swH]; omega) hxc
      have q5 : ∀ w, wF (f_holds [.str L, swD (.alt s1 s2), .str x] w) (fun o w' => o = .fz (.bl (sws s1 x || sws s2 x)) ∧ w' = w) FX := holds_w hL (.alt s1 s2) ⟨hs1, hs2⟩ (by simp only [swH]; omega) hxc
      have r1 := fun w => law_so_w 7 s1 x w hs1 (by omega) (by omega)
      have r2 := fun w => law_so_w 7 s2 x w hs2 (by omega) (by omega)
      have q6 := fun c hc => holds_w hL (.cut c s1 s2) ⟨hc, hs1, hs2⟩ (by simp only [swH]; omega) hxc
      have q7 := fun c hc => holds_w hL (.cutl c s1 s2) ⟨hc, hs1, hs2⟩ (by simp only [swH]; omega) hxc
      have r6 := fun c hc w => law_so_w 7 (.cut c s1 s2) x w (L := L) ⟨hc, hs1, hs2⟩ (by simp only [swH]; omega) (by omega)
      have r7 := fun c hc w => law_so_w 7 (.cutl c s1 s2) x w (L := L) ⟨hc, hs1, hs2⟩ (by simp only [swH]; omega) (by omega)
      simp only [swD] at q3 q4 q5 q6 q7 r6 r7
      generalize sws s1 x = b1 at *
      generalize sws s2 x = b2 at *
      rcases b1 with _ | _ <;> rcases b2 with _ | _
      all_goals
        walk_at "s"
        refine (q1 _).mono ?_
        rintro _ _ ⟨rfl, rfl⟩
        walk_at "s"
        refine (q2 _).mono ?_
        rintro _ _ ⟨rfl, rfl⟩
        walk_at "s"
        refine (r1 _).mono ?_
        rintro _ _ ⟨rfl, rfl⟩
        walk_at "s"
        refine (flag_same _ _).mono ?_
        rintro _ _ ⟨rfl, rfl⟩
        walk_at "s"
        refine (r2 _).mono ?_
        rintro _ _ ⟨rfl, rfl⟩
        walk_at "s"
        refine (flag_same _ _).mono ?_
        rintro _ _ ⟨rfl, rfl⟩
        walk_at "s"
        refine (q3 _).mono ?_
        rintro _ _ ⟨rfl, rfl⟩
        walk_at "s"
        refine (flag_same _ _).mono ?_
        rintro _ _ ⟨rfl, rfl⟩
        walk_at "s"
        refine (q4 _).mono ?_
        rintro _ _ ⟨rfl, rfl⟩
        walk_at "s"
        refine (flag_same _ _).mono ?_
        rintro _ _ ⟨rfl, rfl⟩
        walk_at "s"
        refine (q5 _).mono ?_
        rintro _ _ ⟨rfl, rfl⟩
        walk_at "s"
        refine (flag_same _ _).mono ?_
        rintro _ _ ⟨rfl, rfl⟩
        walk_at "s"
        refine (draw_spec h10 (by omega) (by omega)).mono ?_
        rintro _ w12 ⟨d4, rfl, hd4, h12, b12⟩
        clear b12 h10
        walk_at "s"
        refine get_step (by omega) fun c hc _ => ?_
        have q6 := q6 c hc
        have q7 := q7 c hc
        have r6 := r6 c hc
        have r7 := r7 c hc
        clear q1 q2 q3 q4 q5 r1 r2
        walk_at "s"
        refine s_forC ?_
        walk_at "s"
        refine (q6 _).mono ?_
        rintro _ _ ⟨rfl, rfl⟩
        walk_at "s"
        refine (r6 _).mono ?_
        rintro _ _ ⟨rfl, rfl⟩
        walk_at "s"
        refine (flag_same _ _).mono ?_
        rintro _ _ ⟨rfl, rfl⟩
        walk_at "s"
        refine s_forC ?_
        walk_at "s"
        refine (q7 _).mono ?_
        rintro _ _ ⟨rfl, rfl⟩
        walk_at "s"
        refine (r7 _).mono ?_
        rintro _ _ ⟨rfl, rfl⟩
        walk_at "s"
        refine (flag_same _ _).mono ?_
        rintro _ _ ⟨rfl, rfl⟩
        walk_at "s"
        exact s_forN ⟨_, _, _, _, _, _, _, _, _, rfl, h12⟩
    · rintro _ ⟨x3, x7, x8, x9, x10, x11, x12, x13, w8, rfl, h8⟩
      exact ⟨_, _, _, _, _, _, _, _, _, _, _, _, rfl, h8⟩
  · rintro _ ⟨x3, x4, x5, x6, x7, x8, x9, x10, x11, x12, x13, w3, rfl, h3⟩
    walk_at "s"

end
end M
namespace S
open PySem PySem.Spec PyProof.Rows L2
def top (i : Nat) : Stmt := PySem.Challenge.pw_saidacross_k08_whole_sayings_of_words.main.body.getD i (.Pass ⟨0, 0, 0, 0⟩)
abbrev s_is_integer : Stmt := top 7
abbrev N_is_integer : List Str := ["thing"]
theorem sc_is_integer : FnScope N_is_integer ["thing"] (defScope s_is_integer) := ⟨rfl, rfl, rfl, by decide +kernel, rfl, by decide +kernel, by decide +kernel⟩
def dd_is_integer : He.DefD := ⟨("is_integer", none), "is_integer", "is_integer", defArgs s_is_integer, defBody s_is_integer, defScope s_is_integer, [], []⟩
abbrev s_is_string_of : Stmt := top 8
abbrev N_is_string_of : List Str := ["thing", "signs", "sign"]
theorem sc_is_string_of : FnScope N_is_string_of ["thing", "signs"] (defScope s_is_string_of) := ⟨rfl, rfl, rfl, by decide +kernel, rfl, by decide +kernel, by decide +kernel⟩
def dd_is_string_of : He.DefD := ⟨("is_string_of", none), "is_string_of", "is_string_of", defArgs s_is_string_of, defBody s_is_string_of, defScope s_is_string_of, [], []⟩
abbrev s_is_ascending : Stmt := top 9
abbrev N_is_ascending : List Str := ["thing", "one", "other"]
theorem sc_is_ascending : FnScope N_is_ascending ["thing"] (defScope s_is_ascending) := ⟨rfl, rfl, rfl, by decide +kernel, rfl, by decide +kernel, by decide +kernel⟩
def dd_is_ascending : He.DefD := ⟨("is_ascending", none), "is_ascending", "is_ascending", defArgs s_is_ascending, defBody s_is_ascending, defScope s_is_ascending, [], []⟩
abbrev s_is_choice : Stmt := top 10
abbrev N_is_choice : List Str := ["thing", "signs"]
theorem sc_is_choice : FnScope N_is_choice ["thing", "signs"] (defScope s_is_choice) := ⟨rfl, rfl, rfl, by decide +kernel, rfl, by decide +kernel, by decide +kernel⟩
def dd_is_choice : He.DefD := ⟨("is_choice", none), "is_choice", "is_choice", defArgs s_is_choice, defBody s_is_choice, defScope s_is_choice, [], []⟩
abbrev s_is_letter : Stmt := top 16
abbrev N_is_letter : List Str := ["thing", "letters"]
theorem sc_is_letter : FnScope N_is_letter ["thing", "letters"] (defScope s_is_letter) := ⟨rfl, rfl, rfl, by decide +kernel, rfl, by decide +kernel, by decide +kernel⟩
def dd_is_letter : He.DefD := ⟨("is_letter", none), "is_letter", "is_letter", defArgs s_is_letter, defBody s_is_letter, defScope s_is_letter, [], []⟩
abbrev s_is_between : Stmt := top 17
abbrev N_is_between : List Str := ["thing", "least_one", "greatest"]
theorem sc_is_between : FnScope N_is_between ["thing", "least_one", "greatest"] (defScope s_is_between) := ⟨rfl, rfl, rfl, by decide +kernel, rfl, by decide +kernel, by decide +kernel⟩
def dd_is_between : He.DefD := ⟨("is_between", none), "is_between", "is_between", defArgs s_is_between, defBody s_is_between, defScope s_is_between, [], []⟩
abbrev s_is_small_word : Stmt := top 18
abbrev N_is_small_word : List Str := ["thing", "letters"]
theorem sc_is_small_word : FnScope N_is_small_word ["thing", "letters"] (defScope s_is_small_word) := ⟨rfl, rfl, rfl, by decide +kernel, rfl, by decide +kernel, by decide +kernel⟩
def dd_is_small_word : He.DefD := ⟨("is_small_word", none), "is_small_word", "is_small_word", defArgs s_is_small_word, defBody s_is_small_word, defScope s_is_small_word, [], []⟩
abbrev s_is_plain : Stmt := top 19
abbrev N_is_plain : List Str := ["thing", "letters"]
theorem sc_is_plain : FnScope N_is_plain ["thing", "letters"] (defScope s_is_plain) := ⟨rfl, rfl, rfl, by decide +kernel, rfl, by decide +kernel, by decide +kernel⟩
def dd_is_plain : He.DefD := ⟨("is_plain", none), "is_plain", "is_plain", defArgs s_is_plain, defBody s_is_plain, defScope s_is_plain, [], []⟩
abbrev s_parts_of : Stmt := top 20
abbrev N_parts_of : List Str := ["saying"]
theorem sc_parts_of : FnScope N_parts_of ["saying"] (defScope s_parts_of) := ⟨rfl, rfl, rfl, by decide +kernel, rfl, by decide +kernel, by decide +kernel⟩
def dd_parts_of : He.DefD := ⟨("parts_of", none), "parts_of", "parts_of", defArgs s_parts_of, defBody s_parts_of, defScope s_parts_of, [], []⟩
abbrev s_is_saying : Stmt := top 21
abbrev N_is_saying : List Str := ["thing", "letters", "deep", "parts", "part"]
theorem sc_is_saying : FnScope N_is_saying ["thing", "letters", "deep"] (defScope s_is_saying) := ⟨rfl, rfl, rfl, by decide +kernel, rfl, by decide +kernel, by decide +kernel⟩
def dd_is_saying : He.DefD := ⟨("is_saying", none), "is_saying", "is_saying", defArgs s_is_saying, defBody s_is_saying, defScope s_is_saying, [], []⟩
abbrev s_check_saying : Stmt := top 22
abbrev N_check_saying : List Str := ["letters", "saying"]
theorem sc_check_saying : FnScope N_check_saying ["letters", "saying"] (defScope s_check_saying) := ⟨rfl, rfl, rfl, by decide +kernel, rfl, by decide +kernel, by decide +kernel⟩
def dd_check_saying : He.DefD := ⟨("check_saying", none), "check_saying", "check_saying", defArgs s_check_saying, defBody s_check_saying, defScope s_check_saying, [], []⟩
abbrev s_stands_in : Stmt := top 23
abbrev N_stands_in : List Str := ["word", "goal", "met", "letter"]
theorem sc_stands_in : FnScope N_stands_in ["word", "goal"] (defScope s_stands_in) := ⟨rfl, rfl, rfl, by decide +kernel, rfl, by decide +kernel, by decide +kernel⟩
def dd_stands_in : He.DefD := ⟨("stands_in", none), "stands_in", "stands_in", defArgs s_stands_in, defBody s_stands_in, defScope s_stands_in, [], []⟩
abbrev s_is_so : Stmt := top 24
abbrev N_is_so : List Str := ["saying", "word", "told", "place"]
theorem sc_is_so : FnScope N_is_so ["saying", "word"] (defScope s_is_so) := ⟨rfl, rfl, rfl, by decide +kernel, rfl, by decide +kernel, by decide +kernel⟩
def dd_is_so : He.DefD := ⟨("is_so", none), "is_so", "is_so", defArgs s_is_so, defBody s_is_so, defScope s_is_so, [], []⟩
abbrev s_holds : Stmt := top 25
abbrev N_holds : List Str := ["letters", "saying", "word"]
theorem sc_holds : FnScope N_holds ["letters", "saying", "word"] (defScope s_holds) := ⟨rfl, rfl, rfl, by decide +kernel, rfl, by decide +kernel, by decide +kernel⟩
def dd_holds : He.DefD := ⟨("holds", none), "holds", "holds", defArgs s_holds, defBody s_holds, defScope s_holds, [], []⟩
abbrev s__law_hand : Stmt := top 27
abbrev N__law_hand : List Str := ["_law_script", "_law_cells", "_law_cell"]
theorem sc__law_hand : FnScope N__law_hand ["_law_script"] (defScope s__law_hand) := ⟨rfl, rfl, rfl, by decide +kernel, rfl, by decide +kernel, by decide +kernel⟩
def dd__law_hand : He.DefD := ⟨("_law_hand", none), "_law_hand", "_law_hand", defArgs s__law_hand, defBody s__law_hand, defScope s__law_hand, [], []⟩
abbrev s__law_draw : Stmt := top 28
abbrev N__law_draw : List Str := ["_law_hand_here", "_law_many", "_law_cell", "_law_digit", "_law_number"]
theorem sc__law_draw : FnScope N__law_draw ["_law_hand_here", "_law_many"] (defScope s__law_draw) := ⟨rfl, rfl, rfl, by decide +kernel, rfl, by decide +kernel, by decide +kernel⟩
def dd__law_draw : He.DefD := ⟨("_law_draw", none), "_law_draw", "_law_draw", defArgs s__law_draw, defBody s__law_draw, defScope s__law_draw, [], []⟩
abbrev s__law_letters : Stmt := top 29
abbrev N__law_letters : List Str := ["_law_hand_here", "_law_signs", "_law_many", "_law_rest", "_law_found", "_law_turn", "_law_at"]
theorem sc__law_letters : FnScope N__law_letters ["_law_hand_here", "_law_signs", "_law_many"] (defScope s__law_letters) := ⟨rfl, rfl, rfl, by decide +kernel, rfl, by decide +kernel, by decide +kernel⟩
def dd__law_letters : He.DefD := ⟨("_law_letters", none), "_law_letters", "_law_letters", defArgs s__law_letters, defBody s__law_letters, defScope s__law_letters, [], []⟩
abbrev s__law_word : Stmt := top 30
abbrev N__law_word : List Str := ["_law_hand_here", "_law_letters_here", "_law_many", "_law_word_here", "_law_turn"]
theorem sc__law_word : FnScope N__law_word ["_law_hand_here", "_law_letters_here", "_law_many"] (defScope s__law_word) := ⟨rfl, rfl, rfl, by decide +kernel, rfl, by decide +kernel, by decide +kernel⟩
def dd__law_word : He.DefD := ⟨("_law_word", none), "_law_word", "_law_word", defArgs s__law_word, defBody s__law_word, defScope s__law_word, [], []⟩
abbrev s__law_plain : Stmt := top 31
abbrev N__law_plain : List Str := ["_law_hand_here", "_law_letters_here", "_law_kind", "_law_letter", "_law_many", "_law_one"]
theorem sc__law_plain : FnScope N__law_plain ["_law_hand_here", "_law_letters_here"] (defScope s__law_plain) := ⟨rfl, rfl, rfl, by decide +kernel, rfl, by decide +kernel, by decide +kernel⟩
def dd__law_plain : He.DefD := ⟨("_law_plain", none), "_law_plain", "_law_plain", defArgs s__law_plain, defBody s__law_plain, defScope s__law_plain, [], []⟩
abbrev s__law_saying : Stmt := top 32
abbrev N__law_saying : List Str := ["_law_hand_here", "_law_letters_here", "_law_deep", "_law_kind", "_law_letter", "_law_one", "_law_other"]
theorem sc__law_saying : FnScope N__law_saying ["_law_hand_here", "_law_letters_here", "_law_deep"] (defScope s__law_saying) := ⟨rfl, rfl, rfl, by decide +kernel, rfl, by decide +kernel, by decide +kernel⟩
def dd__law_saying : He.DefD := ⟨("_law_saying", none), "_law_saying", "_law_saying", defArgs s__law_saying, defBody s__law_saying, defScope s__law_saying, [], []⟩
abbrev s__law_stands : Stmt := top 33
abbrev N__law_stands : List Str := ["_law_word_here", "_law_goal", "_law_at", "_law_letter", "_law_found"]
theorem sc__law_stands : FnScope N__law_stands ["_law_word_here", "_law_goal"] (defScope s__law_stands) := ⟨rfl, rfl, rfl, by decide +kernel, rfl, by decide +kernel, by decide +kernel⟩
def dd__law_stands : He.DefD := ⟨("_law_stands", none), "_law_stands", "_law_stands", defArgs s__law_stands, defBody s__law_stands, defScope s__law_stands, [], []⟩
abbrev s__law_plain_so : Stmt := top 34
abbrev N__law_plain_so : List Str := ["_law_saying_here", "_law_word_here", "_law_kind", "_law_many", "_law_size", "_law_letter", "_law_at"]
theorem sc__law_plain_so : FnScope N__law_plain_so ["_law_saying_here", "_law_word_here"] (defScope s__law_plain_so) := ⟨rfl, rfl, rfl, by decide +kernel, rfl, by decide +kernel, by decide +kernel⟩
def dd__law_plain_so : He.DefD := ⟨("_law_plain_so", none), "_law_plain_so", "_law_plain_so", defArgs s__law_plain_so, defBody s__law_plain_so, defScope s__law_plain_so, [], []⟩
abbrev s__law_so : Stmt := top 35
abbrev N__law_so : List Str := ["_law_saying_here", "_law_word_here", "_law_kind", "_law_places", "_law_at"]
theorem sc__law_so : FnScope N__law_so ["_law_saying_here", "_law_word_here"] (defScope s__law_so) := ⟨rfl, rfl, rfl, by decide +kernel, rfl, by decide +kernel, by decide +kernel⟩
def dd__law_so : He.DefD := ⟨("_law_so", none), "_law_so", "_law_so", defArgs s__law_so, defBody s__law_so, defScope s__law_so, [], []⟩
abbrev s__law_some_letters : Stmt := top 36
abbrev N__law_some_letters : List Str := ["_law_hand_here"]
theorem sc__law_some_letters : FnScope N__law_some_letters ["_law_hand_here"] (defScope s__law_some_letters) := ⟨rfl, rfl, rfl, by decide +kernel, rfl, by decide +kernel, by decide +kernel⟩
def dd__law_some_letters : He.DefD := ⟨("_law_some_letters", none), "_law_some_letters", "_law_some_letters", defArgs s__law_some_letters, defBody s__law_some_letters, defScope s__law_some_letters, [], []⟩
abbrev s__law_flag : Stmt := top 37
abbrev N__law_flag : List Str := ["_law_found", "_law_due"]
theorem sc__law_flag : FnScope N__law_flag ["_law_found", "_law_due"] (defScope s__law_flag) := ⟨rfl, rfl, rfl, by decide +kernel, rfl, by decide +kernel, by decide +kernel⟩
def dd__law_flag : He.DefD := ⟨("_law_flag", none), "_law_flag", "_law_flag", defArgs s__law_flag, defBody s__law_flag, defScope s__law_flag, [], []⟩
abbrev s_law : Stmt := top 38
abbrev N_law : List Str := ["_law_script", "_law_hand_here", "_law_letters_here", "_law_turn", "_law_one", "_law_other", "_law_some", "_law_time", "_law_word_here", "_law_first", "_law_second", "_law_letter", "_law_kind", "_law_cut"]
theorem sc_law : FnScope N_law ["_law_script"] (defScope s_law) := ⟨rfl, rfl, rfl, by decide +kernel, rfl, by decide +kernel, by decide +kernel⟩
def dd_law : He.DefD := ⟨("law", none), "law", "law", defArgs s_law, defBody s_law, defScope s_law, [], []⟩
def fns : List He.DefD := [dd_is_integer, dd_is_string_of, dd_is_ascending, dd_is_choice, dd_is_letter, dd_is_between, dd_is_small_word, dd_is_plain, dd_parts_of, dd_is_saying, dd_check_saying, dd_stands_in, dd_is_so, dd_holds, dd__law_hand, dd__law_draw, dd__law_letters, dd__law_word, dd__law_plain, dd__law_saying, dd__law_stands, dd__law_plain_so, dd__law_so, dd__law_some_letters, dd__law_flag, dd_law]
def tbs : List He.Tab := [(fun K => He.ga K "JOINED", ["not", "and", "or"])]
def fas : List He.Fa := [.glo "is_integer", .glo "is_string_of", .glo "is_ascending", .glo "is_choice", .glo "is_letter", .glo "is_between", .glo "is_small_word", .glo "is_plain", .glo "parts_of", .glo "is_saying", .glo "check_saying", .glo "stands_in", .glo "is_so", .glo "holds", .glo "_law_hand", .glo "_law_draw", .glo "_law_letters", .glo "_law_word", .glo "_law_plain", .glo "_law_saying", .glo "_law_stands", .glo "_law_plain_so", .glo "_law_so", .glo "_law_some_letters", .glo "_law_flag", .glo "law", .glo "SaidError", .exc "SaidError", .glo "NoWord", .exc "NoWord", .glo "NoLetters", .exc "NoLetters", .glo "NoSaying", .exc "NoSaying", .str "SMALL" "abcdefghijklmnopqrstuvwxyz", .int "MOST_DEEP" (6), .int "MOST_WORD" (4), .glo "CUTS", .glo "JOINED", .free "zip", .free "all", .free "range", .free "sum", .free "isinstance", .free "int", .free "str", .free "len", .free "abs", .free "any", .free "sorted", .free "bool", .free "tuple"]
def exs : List (PySem.W.Frag → Bool) := [fun K => He.tupB K "CUTS" [.str "cut", .str "cutlast"], fun K => inKB K "JOINED" [([110, 111, 116], true), ([97, 110, 100], true), ([111, 114], true), ([99, 117, 116], false), ([99, 117, 116, 108, 97, 115, 116], false), ([102, 105, 114, 115, 116], false), ([108, 97, 115, 116], false), ([99, 111, 117, 110, 116], false), ([108, 101, 97, 115, 116], false), ([105, 110], false), ([114, 111, 119], false), ([111, 110, 108, 121], false)], fun K => itKB K "JOINED" [([110, 111, 116], (1 : Int)), ([97, 110, 100], (2 : Int)), ([111, 114], (2 : Int))]]
def exK (K : PySem.W.Frag) : Bool := exs.all fun f => f K
structure Ctx (w : World) (K : PySem.W.Frag) (mg : Str → Option Value) : Prop where
  says : ∃ (h : Heap), He.SaysX fas fns tbs [] exK w h K
  inn : ∃ h : Heap, K.In h ∧ h.Ns mainGlobals mg
section
variable {w : World} {K : PySem.W.Frag} {mg : Str → Option Value}
theorem Ctx.d (C : Ctx w K mg) : He.SaysD fas fns K := by
  obtain ⟨h, s⟩ := C.says
  exact s.t.d
theorem Ctx.more (C : Ctx w K mg) (i : Nat) {f : PySem.W.Frag → Bool} (e : exs[i]? = some f) : f K = true := by
  obtain ⟨h, s⟩ := C.says
  exact List.all_eq_true.mp s.more f (List.mem_of_getElem? e)
theorem Ctx.glo (C : Ctx w K mg) {x : Str} (i : Nat) (h : fas[i]? = some (.glo x)) : mg x = some (.ref (He.ga K x)) := by
  obtain ⟨hp, X, G⟩ := C.inn
  exact He.glo_ok X G (C.d.fact i h)
theorem Ctx.g_is_integer (C : Ctx w K mg) : mg "is_integer" = some (.ref (He.ga K "is_integer")) := C.glo 0 rfl
theorem Ctx.g_is_string_of (C : Ctx w K mg) : mg "is_string_of" = some (.ref (He.ga K "is_string_of")) := C.glo 1 rfl
theorem Ctx.g_is_ascending (C : Ctx w K mg) : mg "is_ascending" = some (.ref (He.ga K "is_ascending")) := C.glo 2 rfl
theorem Ctx.g_is_choice (C : Ctx w K mg) : mg "is_choice" = some (.ref (He.ga K "is_choice")) := C.glo 3 rfl
theorem Ctx.g_is_letter (C : Ctx w K mg) : mg "is_letter" = some (.ref (He.ga K "is_letter")) := C.glo 4 rfl
theorem Ctx.g_is_between (C : Ctx w K mg) : mg "is_between" = some (.ref (He.ga K "is_between")) := C.glo 5 rfl
theorem Ctx.g_is_small_word (C : Ctx w K mg) : mg "is_small_word" = some (.ref (He.ga K "is_small_word")) := C.glo 6 rfl
theorem Ctx.g_is_plain (C : Ctx w K mg) : mg "is_plain" = some (.ref (He.ga K "is_plain")) := C.glo 7 rfl
theorem Ctx.g_parts_of (C : Ctx w K mg) : mg "parts_of" = some (.ref (He.ga K "parts_of")) := C.glo 8 rfl
theorem Ctx.g_is_saying (C : Ctx w K mg) : mg "is_saying" = some (.ref (He.ga K "is_saying")) := C.glo 9 rfl
theorem Ctx.g_check_saying (C : Ctx w K mg) : mg "check_saying" = some (.ref (He.ga K "check_saying")) := C.glo 10 rfl
theorem Ctx.g_stands_in (C : Ctx w K mg) : mg "stands_in" = some (.ref (He.ga K "stands_in")) := C.glo 11 rfl
theorem Ctx.g_is_so (C : Ctx w K mg) : mg "is_so" = some (.ref (He.ga K "is_so")) := C.glo 12 rfl
theorem Ctx.g_holds (C : Ctx w K mg) : mg "holds" = some (.ref (He.ga K "holds")) := C.glo 13 rfl
theorem Ctx.g__law_hand (C : Ctx w K mg) : mg "_law_hand" = some (.ref (He.ga K "_law_hand")) := C.glo 14 rfl
theorem Ctx.g__law_draw (C : Ctx w K mg) : mg "_law_draw" = some (.ref (He.ga K "_law_draw")) := C.glo 15 rfl
theorem Ctx.g__law_letters (C : Ctx w K mg) : mg "_law_letters" = some (.ref (He.ga K "_law_letters")) := C.glo 16 rfl
theorem Ctx.g__law_word (C : Ctx w K mg) : mg "_law_word" = some (.ref (He.ga K "_law_word")) := C.glo 17 rfl
theorem Ctx.g__law_plain (C : Ctx w K mg) : mg "_law_plain" = some (.ref (He.ga K "_law_plain")) := C.glo 18 rfl
theorem Ctx.g__law_saying (C : Ctx w K mg) : mg "_law_saying" = some (.ref (He.ga K "_law_saying")) := C.glo 19 rfl
theorem Ctx.g__law_stands (C : Ctx w K mg) : mg "_law_stands" = some (.ref (He.ga K "_law_stands")) := C.glo 20 rfl
theorem Ctx.g__law_plain_so (C : Ctx w K mg) : mg "_law_plain_so" = some (.ref (He.ga K "_law_plain_so")) := C.glo 21 rfl
theorem Ctx.g__law_so (C : Ctx w K mg) : mg "_law_so" = some (.ref (He.ga K "_law_so")) := C.glo 22 rfl
theorem Ctx.g__law_some_letters (C : Ctx w K mg) : mg "_law_some_letters" = some (.ref (He.ga K "_law_some_letters")) := C.glo 23 rfl
theorem Ctx.g__law_flag (C : Ctx w K mg) : mg "_law_flag" = some (.ref (He.ga K "_law_flag")) := C.glo 24 rfl
theorem Ctx.g_law (C : Ctx w K mg) : mg "law" = some (.ref (He.ga K "law")) := C.glo 25 rfl
theorem Ctx.g_SaidError (C : Ctx w K mg) : mg "SaidError" = some (.ref (He.ga K "SaidError")) := C.glo 26 rfl
theorem Ctx.x_SaidError (C : Ctx w K mg) : PySem.W.excIn K (He.ga K "SaidError") He.veBase "ValueError.__new__" = true := (He.exc_ok (C.d.fact 27 rfl)).1
theorem Ctx.k_SaidError (C : Ctx w K mg) : PySem.W.keepIn K (.ref (He.ga K "SaidError")) = true := (He.exc_ok (C.d.fact 27 rfl)).2.1
theorem Ctx.r_SaidError (C : Ctx w K mg) {X : Cx} (e : X.K = K := by rfl) : Raises X (.ref (He.ga K "SaidError")) := by subst e; exact raises_own (He.exc_ok (C.d.fact 27 rfl)).2.2.1 (He.exc_ok (C.d.fact 27 rfl)).2.2.2
theorem Ctx.g_NoWord (C : Ctx w K mg) : mg "NoWord" = some (.ref (He.ga K "NoWord")) := C.glo 28 rfl
theorem Ctx.x_NoWord (C : Ctx w K mg) : PySem.W.excIn K (He.ga K "NoWord") He.veBase "ValueError.__new__" = true := (He.exc_ok (C.d.fact 29 rfl)).1
theorem Ctx.k_NoWord (C : Ctx w K mg) : PySem.W.keepIn K (.ref (He.ga K "NoWord")) = true := (He.exc_ok (C.d.fact 29 rfl)).2.1
theorem Ctx.r_NoWord (C : Ctx w K mg) {X : Cx} (e : X.K = K := by rfl) : Raises X (.ref (He.ga K "NoWord")) := by subst e; exact raises_own (He.exc_ok (C.d.fact 29 rfl)).2.2.1 (He.exc_ok (C.d.fact 29 rfl)).2.2.2
theorem Ctx.g_NoLetters (C : Ctx w K mg) : mg "NoLetters" = some (.ref (He.ga K "NoLetters")) := C.glo 30 rfl
theorem Ctx.x_NoLetters (C : Ctx w K mg) : PySem.W.excIn K (He.ga K "NoLetters") He.veBase "ValueError.__new__" = true := (He.exc_ok (C.d.fact 31 rfl)).1
theorem Ctx.k_NoLetters (C : Ctx w K mg) : PySem.W.keepIn K (.ref (He.ga K "NoLetters")) = true := (He.exc_ok (C.d.fact 31 rfl)).2.1
theorem Ctx.r_NoLetters (C : Ctx w K mg) {X : Cx} (e : X.K = K := by rfl) : Raises X (.ref (He.ga K "NoLetters")) := by subst e; exact raises_own (He.exc_ok (C.d.fact 31 rfl)).2.2.1 (He.exc_ok (C.d.fact 31 rfl)).2.2.2
theorem Ctx.g_NoSaying (C : Ctx w K mg) : mg "NoSaying" = some (.ref (He.ga K "NoSaying")) := C.glo 32 rfl
theorem Ctx.x_NoSaying (C : Ctx w K mg) : PySem.W.excIn K (He.ga K "NoSaying") He.veBase "ValueError.__new__" = true := (He.exc_ok (C.d.fact 33 rfl)).1
theorem Ctx.k_NoSaying (C : Ctx w K mg) : PySem.W.keepIn K (.ref (He.ga K "NoSaying")) = true := (He.exc_ok (C.d.fact 33 rfl)).2.1
theorem Ctx.r_NoSaying (C : Ctx w K mg) {X : Cx} (e : X.K = K := by rfl) : Raises X (.ref (He.ga K "NoSaying")) := by subst e; exact raises_own (He.exc_ok (C.d.fact 33 rfl)).2.2.1 (He.exc_ok (C.d.fact 33 rfl)).2.2.2
theorem Ctx.c_SMALL (C : Ctx w K mg) : ∃ t, mg "SMALL" = some (.str "abcdefghijklmnopqrstuvwxyz" t) := by obtain ⟨h, X, G⟩ := C.inn; exact He.str_ok X G (C.d.fact 34 rfl)
theorem Ctx.c_MOST_DEEP (C : Ctx w K mg) : ∃ t, mg "MOST_DEEP" = some (.int (6) t) := by obtain ⟨h, X, G⟩ := C.inn; exact He.int_ok X G (C.d.fact 35 rfl)
theorem Ctx.c_MOST_WORD (C : Ctx w K mg) : ∃ t, mg "MOST_WORD" = some (.int (4) t) := by obtain ⟨h, X, G⟩ := C.inn; exact He.int_ok X G (C.d.fact 36 rfl)
theorem Ctx.g_CUTS (C : Ctx w K mg) : mg "CUTS" = some (.ref (He.ga K "CUTS")) := C.glo 37 rfl
theorem Ctx.z_CUTS (C : Ctx w K mg) {F : Hp} {T : List Addr} : Fz K F T (.ref (He.ga K "CUTS")) (.tup [.str [99, 117, 116], .str [99, 117, 116, 108, 97, 115, 116]]) := fz_tupB (ss := [[99, 117, 116], [99, 117, 116, 108, 97, 115, 116]]) (C.more 0 rfl) (by rfl) (by decide +kernel)
theorem Ctx.g_JOINED (C : Ctx w K mg) : mg "JOINED" = some (.ref (He.ga K "JOINED")) := C.glo 38 rfl
theorem Ctx.ink_JOINED (C : Ctx w K mg) : inKB K "JOINED" [([110, 111, 116], true), ([97, 110, 100], true), ([111, 114], true), ([99, 117, 116], false), ([99, 117, 116, 108, 97, 115, 116], false), ([102, 105, 114, 115, 116], false), ([108, 97, 115, 116], false), ([99, 111, 117, 110, 116], false), ([108, 101, 97, 115, 116], false), ([105, 110], false), ([114, 111, 119], false), ([111, 110, 108, 121], false)] = true := C.more 1 rfl
theorem Ctx.itk_JOINED (C : Ctx w K mg) : itKB K "JOINED" [([110, 111, 116], (1 : Int)), ([97, 110, 100], (2 : Int)), ([111, 114], (2 : Int))] = true := C.more 2 rfl
theorem Ctx.kd_JOINED (C : Ctx w K mg) : ∃ es n, KDict K w (He.ga K "JOINED") es n := by
  obtain ⟨h, s⟩ := C.says
  exact s.t.tab 0 rfl
theorem Ctx.free_zip (C : Ctx w K mg) : mg "zip" = none := by obtain ⟨h, X, G⟩ := C.inn; exact He.free_ok X G (C.d.fact 39 rfl)
theorem Ctx.free_all (C : Ctx w K mg) : mg "all" = none := by obtain ⟨h, X, G⟩ := C.inn; exact He.free_ok X G (C.d.fact 40 rfl)
theorem Ctx.free_range (C : Ctx w K mg) : mg "range" = none := by obtain ⟨h, X, G⟩ := C.inn; exact He.free_ok X G (C.d.fact 41 rfl)
theorem Ctx.free_sum (C : Ctx w K mg) : mg "sum" = none := by obtain ⟨h, X, G⟩ := C.inn; exact He.free_ok X G (C.d.fact 42 rfl)
theorem Ctx.free_isinstance (C : Ctx w K mg) : mg "isinstance" = none := by obtain ⟨h, X, G⟩ := C.inn; exact He.free_ok X G (C.d.fact 43 rfl)
theorem Ctx.free_int (C : Ctx w K mg) : mg "int" = none := by obtain ⟨h, X, G⟩ := C.inn; exact He.free_ok X G (C.d.fact 44 rfl)
theorem Ctx.free_str (C : Ctx w K mg) : mg "str" = none := by obtain ⟨h, X, G⟩ := C.inn; exact He.free_ok X G (C.d.fact 45 rfl)
theorem Ctx.free_len (C : Ctx w K mg) : mg "len" = none := by obtain ⟨h, X, G⟩ := C.inn; exact He.free_ok X G (C.d.fact 46 rfl)
theorem Ctx.free_abs (C : Ctx w K mg) : mg "abs" = none := by obtain ⟨h, X, G⟩ := C.inn; exact He.free_ok X G (C.d.fact 47 rfl)
theorem Ctx.free_any (C : Ctx w K mg) : mg "any" = none := by obtain ⟨h, X, G⟩ := C.inn; exact He.free_ok X G (C.d.fact 48 rfl)
theorem Ctx.free_sorted (C : Ctx w K mg) : mg "sorted" = none := by obtain ⟨h, X, G⟩ := C.inn; exact He.free_ok X G (C.d.fact 49 rfl)
theorem Ctx.free_bool (C : Ctx w K mg) : mg "bool" = none := by obtain ⟨h, X, G⟩ := C.inn; exact He.free_ok X G (C.d.fact 50 rfl)
theorem Ctx.free_tuple (C : Ctx w K mg) : mg "tuple" = none := by obtain ⟨h, X, G⟩ := C.inn; exact He.free_ok X G (C.d.fact 51 rfl)
theorem Ctx.f_is_integer (C : Ctx w K mg) : ∃ fd, FunD K "is_integer" "is_integer" (defArgs s_is_integer) (defBody s_is_integer) (defScope s_is_integer) [] [] (He.ga K "is_integer") fd := C.d.def_ 0 (d := dd_is_integer) rfl
theorem b_is_integer {f : Addr} {fd : FuncData} (F : FunD K "is_integer" "is_integer" (defArgs s_is_integer) (defBody s_is_integer) (defScope s_is_integer) [] [] f fd) : Binds K fd ["thing"] [] := F.bindsN fun _ _ _ _ _ _ us hl => match us, hl with | [_], _ => rfl
theorem Ctx.f_is_string_of (C : Ctx w K mg) : ∃ fd, FunD K "is_string_of" "is_string_of" (defArgs s_is_string_of) (defBody s_is_string_of) (defScope s_is_string_of) [] [] (He.ga K "is_string_of") fd := C.d.def_ 1 (d := dd_is_string_of) rfl
theorem b_is_string_of {f : Addr} {fd : FuncData} (F : FunD K "is_string_of" "is_string_of" (defArgs s_is_string_of) (defBody s_is_string_of) (defScope s_is_string_of) [] [] f fd) : Binds K fd ["thing", "signs"] [] := F.bindsN fun _ _ _ _ _ _ us hl => match us, hl with | [_, _], _ => rfl
theorem Ctx.f_is_ascending (C : Ctx w K mg) : ∃ fd, FunD K "is_ascending" "is_ascending" (defArgs s_is_ascending) (defBody s_is_ascending) (defScope s_is_ascending) [] [] (He.ga K "is_ascending") fd := C.d.def_ 2 (d := dd_is_ascending) rfl
theorem b_is_ascending {f : Addr} {fd : FuncData} (F : FunD K "is_ascending" "is_ascending" (defArgs s_is_ascending) (defBody s_is_ascending) (defScope s_is_ascending) [] [] f fd) : Binds K fd ["thing"] [] := F.bindsN fun _ _ _ _ _ _ us hl => match us, hl with | [_], _ => rfl
theorem Ctx.f_is_choice (C : Ctx w K mg) : ∃ fd, FunD K "is_choice" "is_choice" (defArgs s_is_choice) (defBody s_is_choice) (defScope s_is_choice) [] [] (He.ga K "is_choice") fd := C.d.def_ 3 (d := dd_is_choice) rfl
theorem b_is_choice {f : Addr} {fd : FuncData} (F : FunD K "is_choice" "is_choice" (defArgs s_is_choice) (defBody s_is_choice) (defScope s_is_choice) [] [] f fd) : Binds K fd ["thing", "signs"] [] := F.bindsN fun _ _ _ _ _ _ us hl => match us, hl with | [_, _], _ => rfl
theorem Ctx.f_is_letter (C : Ctx w K mg) : ∃ fd, FunD K "is_letter" "is_letter" (defArgs s_is_letter) (defBody s_is_letter) (defScope s_is_letter) [] [] (He.ga K "is_letter") fd := C.d.def_ 4 (d := dd_is_letter) rfl
theorem b_is_letter {f : Addr} {fd : FuncData} (F : FunD K "is_letter" "is_letter" (defArgs s_is_letter) (defBody s_is_letter) (defScope s_is_letter) [] [] f fd) : Binds K fd ["thing", "letters"] [] := F.bindsN fun _ _ _ _ _ _ us hl => match us, hl with | [_, _], _ => rfl
theorem Ctx.f_is_between (C : Ctx w K mg) : ∃ fd, FunD K "is_between" "is_between" (defArgs s_is_between) (defBody s_is_between) (defScope s_is_between) [] [] (He.ga K "is_between") fd := C.d.def_ 5 (d := dd_is_between) rfl
theorem b_is_between {f : Addr} {fd : FuncData} (F : FunD K "is_between" "is_between" (defArgs s_is_between) (defBody s_is_between) (defScope s_is_between) [] [] f fd) : Binds K fd ["thing", "least_one", "greatest"] [] := F.bindsN fun _ _ _ _ _ _ us hl => match us, hl with | [_, _, _], _ => rfl
theorem Ctx.f_is_small_word (C : Ctx w K mg) : ∃ fd, FunD K "is_small_word" "is_small_word" (defArgs s_is_small_word) (defBody s_is_small_word) (defScope s_is_small_word) [] [] (He.ga K "is_small_word") fd := C.d.def_ 6 (d := dd_is_small_word) rfl
theorem b_is_small_word {f : Addr} {fd : FuncData} (F : FunD K "is_small_word" "is_small_word" (defArgs s_is_small_word) (defBody s_is_small_word) (defScope s_is_small_word) [] [] f fd) : Binds K fd ["thing", "letters"] [] := F.bindsN fun _ _ _ _ _ _ us hl => match us, hl with | [_, _], _ => rfl
theorem Ctx.f_is_plain (C : Ctx w K mg) : ∃ fd, FunD K "is_plain" "is_plain" (defArgs s_is_plain) (defBody s_is_plain) (defScope s_is_plain) [] [] (He.ga K "is_plain") fd := C.d.def_ 7 (d := dd_is_plain) rfl
theorem b_is_plain {f : Addr} {fd : FuncData} (F : FunD K "is_plain" "is_plain" (defArgs s_is_plain) (defBody s_is_plain) (defScope s_is_plain) [] [] f fd) : Binds K fd ["thing", "letters"] [] := F.bindsN fun _ _ _ _ _ _ us hl => match us, hl with | [_, _], _ => rfl
theorem Ctx.f_parts_of (C : Ctx w K mg) : ∃ fd, FunD K "parts_of" "parts_of" (defArgs s_parts_of) (defBody s_parts_of) (defScope s_parts_of) [] [] (He.ga K "parts_of") fd := C.d.def_ 8 (d := dd_parts_of) rfl
theorem b_parts_of {f : Addr} {fd : FuncData} (F : FunD K "parts_of" "parts_of" (defArgs s_parts_of) (defBody s_parts_of) (defScope s_parts_of) [] [] f fd) : Binds K fd ["saying"] [] := F.bindsN fun _ _ _ _ _ _ us hl => match us, hl with | [_], _ => rfl
theorem Ctx.f_is_saying (C : Ctx w K mg) : ∃ fd, FunD K "is_saying" "is_saying" (defArgs s_is_saying) (defBody s_is_saying) (defScope s_is_saying) [] [] (He.ga K "is_saying") fd := C.d.def_ 9 (d := dd_is_saying) rfl
theorem b_is_saying {f : Addr} {fd : FuncData} (F : FunD K "is_saying" "is_saying" (defArgs s_is_saying) (defBody s_is_saying) (defScope s_is_saying) [] [] f fd) : Binds K fd ["thing", "letters", "deep"] [] := F.bindsN fun _ _ _ _ _ _ us hl => match us, hl with | [_, _, _], _ => rfl
theorem Ctx.f_check_saying (C : Ctx w K mg) : ∃ fd, FunD K "check_saying" "check_saying" (defArgs s_check_saying) (defBody s_check_saying) (defScope s_check_saying) [] [] (He.ga K "check_saying") fd := C.d.def_ 10 (d := dd_check_saying) rfl
theorem b_check_saying {f : Addr} {fd : FuncData} (F : FunD K "check_saying" "check_saying" (defArgs s_check_saying) (defBody s_check_saying) (defScope s_check_saying) [] [] f fd) : Binds K fd ["letters", "saying"] [] := F.bindsN fun _ _ _ _ _ _ us hl => match us, hl with | [_, _], _ => rfl
theorem Ctx.f_stands_in (C : Ctx w K mg) : ∃ fd, FunD K "stands_in" "stands_in" (defArgs s_stands_in) (defBody s_stands_in) (defScope s_stands_in) [] [] (He.ga K "stands_in") fd := C.d.def_ 11 (d := dd_stands_in) rfl
theorem b_stands_in {f : Addr} {fd : FuncData} (F : FunD K "stands_in" "stands_in" (defArgs s_stands_in) (defBody s_stands_in) (defScope s_stands_in) [] [] f fd) : Binds K fd ["word", "goal"] [] := F.bindsN fun _ _ _ _ _ _ us hl => match us, hl with | [_, _], _ => rfl
theorem Ctx.f_is_so (C : Ctx w K mg) : ∃ fd, FunD K "is_so" "is_so" (defArgs s_is_so) (defBody s_is_so) (defScope s_is_so) [] [] (He.ga K "is_so") fd := C.d.def_ 12 (d := dd_is_so) rfl
theorem b_is_so {f : Addr} {fd : FuncData} (F : FunD K "is_so" "is_so" (defArgs s_is_so) (defBody s_is_so) (defScope s_is_so) [] [] f fd) : Binds K fd ["saying", "word"] [] := F.bindsN fun _ _ _ _ _ _ us hl => match us, hl with | [_, _], _ => rfl
theorem Ctx.f_holds (C : Ctx w K mg) : ∃ fd, FunD K "holds" "holds" (defArgs s_holds) (defBody s_holds) (defScope s_holds) [] [] (He.ga K "holds") fd := C.d.def_ 13 (d := dd_holds) rfl
theorem b_holds {f : Addr} {fd : FuncData} (F : FunD K "holds" "holds" (defArgs s_holds) (defBody s_holds) (defScope s_holds) [] [] f fd) : Binds K fd ["letters", "saying", "word"] [] := F.bindsN fun _ _ _ _ _ _ us hl => match us, hl with | [_, _, _], _ => rfl
theorem Ctx.f__law_hand (C : Ctx w K mg) : ∃ fd, FunD K "_law_hand" "_law_hand" (defArgs s__law_hand) (defBody s__law_hand) (defScope s__law_hand) [] [] (He.ga K "_law_hand") fd := C.d.def_ 14 (d := dd__law_hand) rfl
theorem b__law_hand {f : Addr} {fd : FuncData} (F : FunD K "_law_hand" "_law_hand" (defArgs s__law_hand) (defBody s__law_hand) (defScope s__law_hand) [] [] f fd) : Binds K fd ["_law_script"] [] := F.bindsN fun _ _ _ _ _ _ us hl => match us, hl with | [_], _ => rfl
theorem Ctx.f__law_draw (C : Ctx w K mg) : ∃ fd, FunD K "_law_draw" "_law_draw" (defArgs s__law_draw) (defBody s__law_draw) (defScope s__law_draw) [] [] (He.ga K "_law_draw") fd := C.d.def_ 15 (d := dd__law_draw) rfl
theorem b__law_draw {f : Addr} {fd : FuncData} (F : FunD K "_law_draw" "_law_draw" (defArgs s__law_draw) (defBody s__law_draw) (defScope s__law_draw) [] [] f fd) : Binds K fd ["_law_hand_here", "_law_many"] [] := F.bindsN fun _ _ _ _ _ _ us hl => match us, hl with | [_, _], _ => rfl
theorem Ctx.f__law_letters (C : Ctx w K mg) : ∃ fd, FunD K "_law_letters" "_law_letters" (defArgs s__law_letters) (defBody s__law_letters) (defScope s__law_letters) [] [] (He.ga K "_law_letters") fd := C.d.def_ 16 (d := dd__law_letters) rfl
theorem b__law_letters {f : Addr} {fd : FuncData} (F : FunD K "_law_letters" "_law_letters" (defArgs s__law_letters) (defBody s__law_letters) (defScope s__law_letters) [] [] f fd) : Binds K fd ["_law_hand_here", "_law_signs", "_law_many"] [] := F.bindsN fun _ _ _ _ _ _ us hl => match us, hl with | [_, _, _], _ => rfl
theorem Ctx.f__law_word (C : Ctx w K mg) : ∃ fd, FunD K "_law_word" "_law_word" (defArgs s__law_word) (defBody s__law_word) (defScope s__law_word) [] [] (He.ga K "_law_word") fd := C.d.def_ 17 (d := dd__law_word) rfl
theorem b__law_word {f : Addr} {fd : FuncData} (F : FunD K "_law_word" "_law_word" (defArgs s__law_word) (defBody s__law_word) (defScope s__law_word) [] [] f fd) : Binds K fd ["_law_hand_here", "_law_letters_here", "_law_many"] [] := F.bindsN fun _ _ _ _ _ _ us hl => match us, hl with | [_, _, _], _ => rfl
theorem Ctx.f__law_plain (C : Ctx w K mg) : ∃ fd, FunD K "_law_plain" "_law_plain" (defArgs s__law_plain) (defBody s__law_plain) (defScope s__law_plain) [] [] (He.ga K "_law_plain") fd := C.d.def_ 18 (d := dd__law_plain) rfl
theorem b__law_plain {f : Addr} {fd : FuncData} (F : FunD K "_law_plain" "_law_plain" (defArgs s__law_plain) (defBody s__law_plain) (defScope s__law_plain) [] [] f fd) : Binds K fd ["_law_hand_here", "_law_letters_here"] [] := F.bindsN fun _ _ _ _ _ _ us hl => match us, hl with | [_, _], _ => rfl
theorem Ctx.f__law_saying (C : Ctx w K mg) : ∃ fd, FunD K "_law_saying" "_law_saying" (defArgs s__law_saying) (defBody s__law_saying) (defScope s__law_saying) [] [] (He.ga K "_law_saying") fd := C.d.def_ 19 (d := dd__law_saying) rfl
theorem b__law_saying {f : Addr} {fd : FuncData} (F : FunD K "_law_saying" "_law_saying" (defArgs s__law_saying) (defBody s__law_saying) (defScope s__law_saying) [] [] f fd) : Binds K fd ["_law_hand_here", "_law_letters_here", "_law_deep"] [] := F.bindsN fun _ _ _ _ _ _ us hl => match us, hl with | [_, _, _], _ => rfl
theorem Ctx.f__law_stands (C : Ctx w K mg) : ∃ fd, FunD K "_law_stands" "_law_stands" (defArgs s__law_stands) (defBody s__law_stands) (defScope s__law_stands) [] [] (He.ga K "_law_stands") fd := C.d.def_ 20 (d := dd__law_stands) rfl
theorem b__law_stands {f : Addr} {fd : FuncData} (F : FunD K "_law_stands" "_law_stands" (defArgs s__law_stands) (defBody s__law_stands) (defScope s__law_stands) [] [] f fd) : Binds K fd ["_law_word_here", "_law_goal"] [] := F.bindsN fun _ _ _ _ _ _ us hl => match us, hl with | [_, _], _ => rfl
theorem Ctx.f__law_plain_so (C : Ctx w K mg) : ∃ fd, FunD K "_law_plain_so" "_law_plain_so" (defArgs s__law_plain_so) (defBody s__law_plain_so) (defScope s__law_plain_so) [] [] (He.ga K "_law_plain_so") fd := C.d.def_ 21 (d := dd__law_plain_so) rfl
theorem b__law_plain_so {f : Addr} {fd : FuncData} (F : FunD K "_law_plain_so" "_law_plain_so" (defArgs s__law_plain_so) (defBody s__law_plain_so) (defScope s__law_plain_so) [] [] f fd) : Binds K fd ["_law_saying_here", "_law_word_here"] [] := F.bindsN fun _ _ _ _ _ _ us hl => match us, hl with | [_, _], _ => rfl
theorem Ctx.f__law_so (C : Ctx w K mg) : ∃ fd, FunD K "_law_so" "_law_so" (defArgs s__law_so) (defBody s__law_so) (defScope s__law_so) [] [] (He.ga K "_law_so") fd := C.d.def_ 22 (d := dd__law_so) rfl
theorem b__law_so {f : Addr} {fd : FuncData} (F : FunD K "_law_so" "_law_so" (defArgs s__law_so) (defBody s__law_so) (defScope s__law_so) [] [] f fd) : Binds K fd ["_law_saying_here", "_law_word_here"] [] := F.bindsN fun _ _ _ _ _ _ us hl => match us, hl with | [_, _], _ => rfl
theorem Ctx.f__law_some_letters (C : Ctx w K mg) : ∃ fd, FunD K "_law_some_letters" "_law_some_letters" (defArgs s__law_some_letters) (defBody s__law_some_letters) (defScope s__law_some_letters) [] [] (He.ga K "_law_some_letters") fd := C.d.def_ 23 (d := dd__law_some_letters) rfl
theorem b__law_some_letters {f : Addr} {fd : FuncData} (F : FunD K "_law_some_letters" "_law_some_letters" (defArgs s__law_some_letters) (defBody s__law_some_letters) (defScope s__law_some_letters) [] [] f fd) : Binds K fd ["_law_hand_here"] [] := F.bindsN fun _ _ _ _ _ _ us hl => match us, hl with | [_], _ => rfl
theorem Ctx.f__law_flag (C : Ctx w K mg) : ∃ fd, FunD K "_law_flag" "_law_flag" (defArgs s__law_flag) (defBody s__law_flag) (defScope s__law_flag) [] [] (He.ga K "_law_flag") fd := C.d.def_ 24 (d := dd__law_flag) rfl
theorem b__law_flag {f : Addr} {fd : FuncData} (F : FunD K "_law_flag" "_law_flag" (defArgs s__law_flag) (defBody s__law_flag) (defScope s__law_flag) [] [] f fd) : Binds K fd ["_law_found", "_law_due"] [] := F.bindsN fun _ _ _ _ _ _ us hl => match us, hl with | [_, _], _ => rfl
theorem Ctx.f_law (C : Ctx w K mg) : ∃ fd, FunD K "law" "law" (defArgs s_law) (defBody s_law) (defScope s_law) [] [] (He.ga K "law") fd := C.d.def_ 25 (d := dd_law) rfl
theorem b_law {f : Addr} {fd : FuncData} (F : FunD K "law" "law" (defArgs s_law) (defBody s_law) (defScope s_law) [] [] f fd) : Binds K fd ["_law_script"] [] := F.bindsN fun _ _ _ _ _ _ us hl => match us, hl with | [_], _ => rfl
end
end S

namespace S
open PySem PySem.Spec PyProof.Rows L2
section
variable {P : Program} {w : World} {K : PySem.W.Frag} {mg : Str → Option Value} {base : Heap}
theorem ok_is_integer (C : Ctx w K mg) : Ok P w K mg base 1 "is_integer" ["thing"] (spM K M.f_is_integer) := by
  obtain ⟨fd, F⟩ := C.f_is_integer
  exact ⟨fd, okM F sc_is_integer rfl rfl (fun cdv A outer s H E hr =>
    (ss_one (ss_ret (so_e (se_and (se_isT "int" (by decide) rfl (C.free_isinstance) (by decide +kernel) (se_v (pv 0)) (pe_bltn (v := .ty "int") rfl (C.free_int) (by decide +kernel) rfl)) (se_one (se_not (se_isT "bool" (by decide) rfl (C.free_isinstance) (by decide +kernel) (se_v (pv 0)) (pe_bltn (v := .ty "bool") rfl (C.free_bool) (by decide +kernel) rfl))))))))), b_is_integer F, F.kp, C.g_is_integer⟩
theorem ok_is_string_of (C : Ctx w K mg) : Ok P w K mg base 1 "is_string_of" ["thing", "signs"] (spM K M.f_is_string_of) := by
  obtain ⟨fd, F⟩ := C.f_is_string_of
  exact ⟨fd, okM F sc_is_string_of rfl rfl (fun cdv A outer s H E hr =>
    (ss_cons (ss_if (st_not (st_e (se_isT "str" (by decide) rfl (C.free_isinstance) (by decide +kernel) (se_v (pv 0)) (pe_bltn (v := .ty "str") rfl (C.free_str) (by decide +kernel) rfl)))) (ss_one (ss_ret (so_e se_bl))) ss_nil)
      (ss_cons (ss_for (passes_of rfl) rfl (si_seq (se_v (pv 0))) (sg_n 2 sc_is_string_of.nd rfl (by first | exact Or.inl rfl | exact Or.inr rfl) (by first | exact Or.inl rfl | exact Or.inr rfl | assumption)) (ss_one (ss_if (st_cmp op_notInU o_notin (by rfl) (se_v (pv 2)) (se_v (pv 1))) (ss_one (ss_ret (so_e se_bl))) ss_nil)))
      (ss_one (ss_ret (so_e se_bl)))))), b_is_string_of F, F.kp, C.g_is_string_of⟩
theorem ok_is_ascending (C : Ctx w K mg) : Ok P w K mg base 1 "is_ascending" ["thing"] (spM K M.f_is_ascending) := by
  obtain ⟨fd, F⟩ := C.f_is_ascending
  exact ⟨fd, okM F sc_is_ascending rfl rfl (fun cdv A outer s H E hr =>
    (ss_cons (ss_for (passes_of rfl) rfl (si_zip rfl (C.free_zip) (se_v (pv 0)) (se_sl sl_U o_sl (se_v (pv 0)) (sp_so se_int) sp_no)) (sg_t (n := 2) rfl rfl rfl rfl (sgs_cons rfl (sg_n 1 sc_is_ascending.nd rfl (by first | exact Or.inl rfl | exact Or.inr rfl) (by first | exact Or.inl rfl | exact Or.inr rfl | assumption)) (sgs_cons rfl (sg_n 2 sc_is_ascending.nd rfl (by first | exact Or.inl rfl | exact Or.inr rfl) (by first | exact Or.inl rfl | exact Or.inr rfl | assumption)) sgs_nil))) (ss_one (ss_if (st_cmp op_geU o_ge (nomark _) (se_v (pv 1)) (se_v (pv 2))) (ss_one (ss_ret (so_e se_bl))) ss_nil)))
      (ss_one (ss_ret (so_e se_bl))))), b_is_ascending F, F.kp, C.g_is_ascending⟩
theorem ok_is_choice (C : Ctx w K mg) : Ok P w K mg base 2 "is_choice" ["thing", "signs"] (spM K M.f_is_choice) := by
  obtain ⟨fd, F⟩ := C.f_is_choice
  exact ⟨fd, okM F sc_is_choice rfl rfl (fun cdv A outer s H E hr =>
    (ss_one (ss_ret (so_e (se_and (se_o (so_call (ok_is_string_of C) (hr.mono (by first | decide | omega)) rfl (takes_of rfl rfl rfl rfl) (sa_cons (se_v (pv 0)) (sa_cons (se_v (pv 1)) sa_nil)))) (se_one (se_o (so_call (ok_is_ascending C) (hr.mono (by first | decide | omega)) rfl (takes_of rfl rfl rfl rfl) (sa_cons (se_v (pv 0)) sa_nil))))))))), b_is_choice F, F.kp, C.g_is_choice⟩
theorem ok_is_letter (C : Ctx w K mg) : Ok P w K mg base 2 "is_letter" ["thing", "letters"] (spM K M.f_is_letter) := by
  obtain ⟨fd, F⟩ := C.f_is_letter
  exact ⟨fd, okM F sc_is_letter rfl rfl (fun cdv A outer s H E hr =>
    (ss_one (ss_ret (so_e (se_and (se_o (so_call (ok_is_string_of C) (hr.mono (by first | decide | omega)) rfl (takes_of rfl rfl rfl rfl) (sa_cons (se_v (pv 0)) (sa_cons (se_v (pv 1)) sa_nil)))) (se_one (se_cmp (op_eqU hr.units) o_eq (nomark _) (se_b1 call_lenU c_len rfl (C.free_len) (by decide +kernel) (se_v (pv 0))) se_int))))))), b_is_letter F, F.kp, C.g_is_letter⟩
theorem ok_is_between (C : Ctx w K mg) : Ok P w K mg base 2 "is_between" ["thing", "least_one", "greatest"] (spM K M.f_is_between) := by
  obtain ⟨fd, F⟩ := C.f_is_between
  exact ⟨fd, okM F sc_is_between rfl rfl (fun cdv A outer s H E hr =>
    (ss_one (ss_ret (so_e (se_and (se_o (so_call (ok_is_integer C) (hr.mono (by first | decide | omega)) rfl (takes_of rfl rfl rfl rfl) (sa_cons (se_v (pv 0)) sa_nil))) (se_one (se_chain op_leU o_le op_leU o_le (se_v (pv 1)) (se_v (pv 0)) (se_v (pv 2))))))))), b_is_between F, F.kp, C.g_is_between⟩
theorem ok_is_small_word (C : Ctx w K mg) : Ok P w K mg base 2 "is_small_word" ["thing", "letters"] (spM K M.f_is_small_word) := by
  obtain ⟨fd, F⟩ := C.f_is_small_word
  exact ⟨fd, okM F sc_is_small_word rfl rfl (fun cdv A outer s H E hr =>
    (ss_one (ss_ret (so_e (se_and (se_o (so_call (ok_is_string_of C) (hr.mono (by first | decide | omega)) rfl (takes_of rfl rfl rfl rfl) (sa_cons (se_v (pv 0)) (sa_cons (se_v (pv 1)) sa_nil)))) (se_one (se_chain op_leU o_le op_leU o_le se_int (se_b1 call_lenU c_len rfl (C.free_len) (by decide +kernel) (se_v (pv 0))) (se_c (pe_gint rfl C.c_MOST_WORD) fun _ _ => .int _)))))))), b_is_small_word F, F.kp, C.g_is_small_word⟩
theorem ok_is_plain (C : Ctx w K mg) : Ok P w K mg base 3 "is_plain" ["thing", "letters"] (spM K M.f_is_plain) := by
  obtain ⟨fd, F⟩ := C.f_is_plain
  exact ⟨fd, okM F sc_is_plain rfl rfl (fun cdv A outer s H E hr =>
    (ss_cons (ss_if (st_w (sw_and (st_cmp (op_eqU hr.units) o_eq (nomark _) (se_b1 call_lenU c_len rfl (C.free_len) (by decide +kernel) (se_v (pv 0))) se_int) (sw_and1 (st_cmp op_inU o_in (by rfl) (se_ix ix_seq o_ix (se_v (pv 0)) se_int (fun _ _ => rfl)) (se_tup (sa_cons (se_str [102, 105, 114, 115, 116] (by decide +kernel) (by decide +kernel)) (sa_cons (se_str [108, 97, 115, 116] (by decide +kernel) (by decide +kernel)) sa_nil))))))) (ss_one (ss_ret (so_call (ok_is_letter C) (hr.mono (by first | decide | omega)) rfl (takes_of rfl rfl rfl rfl) (sa_cons (se_ix ix_seq o_ix (se_v (pv 0)) se_int (fun _ _ => rfl)) (sa_cons (se_v (pv 1)) sa_nil))))) ss_nil)
      (ss_cons (ss_if (st_w (sw_and (st_cmp (op_eqU hr.units) o_eq (nomark _) (se_b1 call_lenU c_len rfl (C.free_len) (by decide +kernel) (se_v (pv 0))) se_int) (sw_and1 (st_cmp op_inU o_in (by rfl) (se_ix ix_seq o_ix (se_v (pv 0)) se_int (fun _ _ => rfl)) (se_tup (sa_cons (se_str [105, 110] (by decide +kernel) (by decide +kernel)) (sa_cons (se_str [114, 111, 119] (by decide +kernel) (by decide +kernel)) sa_nil))))))) (ss_one (ss_ret (so_call (ok_is_small_word C) (hr.mono (by first | decide | omega)) rfl (takes_of rfl rfl rfl rfl) (sa_cons (se_ix ix_seq o_ix (se_v (pv 0)) se_int (fun _ _ => rfl)) (sa_cons (se_v (pv 1)) sa_nil))))) ss_nil)
      (ss_cons (ss_if (st_w (sw_and (st_cmp (op_eqU hr.units) o_eq (nomark _) (se_b1 call_lenU c_len rfl (C.free_len) (by decide +kernel) (se_v (pv 0))) se_int) (sw_and1 (st_cmp (op_eqU hr.units) o_eq (nomark _) (se_ix ix_seq o_ix (se_v (pv 0)) se_int (fun _ _ => rfl)) (se_str [111, 110, 108, 121] (by decide +kernel) (by decide +kernel)))))) (ss_one (ss_ret (so_call (ok_is_choice C) (hr.mono (by first | decide | omega)) rfl (takes_of rfl rfl rfl rfl) (sa_cons (se_ix ix_seq o_ix (se_v (pv 0)) se_int (fun _ _ => rfl)) (sa_cons (se_v (pv 1)) sa_nil))))) ss_nil)
      (ss_cons (ss_if (st_w (sw_and (st_cmp (op_eqU hr.units) o_eq (nomark _) (se_b1 call_lenU c_len rfl (C.free_len) (by decide +kernel) (se_v (pv 0))) se_int) (sw_and1 (st_cmp (op_eqU hr.units) o_eq (nomark _) (se_ix ix_seq o_ix (se_v (pv 0)) se_int (fun _ _ => rfl)) (se_str [108, 101, 97, 115, 116] (by decide +kernel) (by decide +kernel)))))) (ss_one (ss_ret (so_e (se_and (se_o (so_call (ok_is_letter C) (hr.mono (by first | decide | omega)) rfl (takes_of rfl rfl rfl rfl) (sa_cons (se_ix ix_seq o_ix (se_v (pv 0)) se_int (fun _ _ => rfl)) (sa_cons (se_v (pv 1)) sa_nil)))) (se_one (se_o (so_call (ok_is_between C) (hr.mono (by first | decide | omega)) rfl (takes_of rfl rfl rfl rfl) (sa_cons (se_ix ix_seq o_ix (se_v (pv 0)) se_int (fun _ _ => rfl)) (sa_cons se_int (sa_cons se_int sa_nil)))))))))) ss_nil)
      (ss_cons (ss_if (st_w (sw_and (st_cmp (op_eqU hr.units) o_eq (nomark _) (se_b1 call_lenU c_len rfl (C.free_len) (by decide +kernel) (se_v (pv 0))) se_int) (sw_and1 (st_cmp (op_eqU hr.units) o_eq (nomark _) (se_ix ix_seq o_ix (se_v (pv 0)) se_int (fun _ _ => rfl)) (se_str [99, 111, 117, 110, 116] (by decide +kernel) (by decide +kernel)))))) (ss_one (ss_ret (so_e (se_and (se_o (so_call (ok_is_letter C) (hr.mono (by first | decide | omega)) rfl (takes_of rfl rfl rfl rfl) (sa_cons (se_ix ix_seq o_ix (se_v (pv 0)) se_int (fun _ _ => rfl)) (sa_cons (se_v (pv 1)) sa_nil)))) (se_and (se_o (so_call (ok_is_between C) (hr.mono (by first | decide | omega)) rfl (takes_of rfl rfl rfl rfl) (sa_cons (se_ix ix_seq o_ix (se_v (pv 0)) se_int (fun _ _ => rfl)) (sa_cons se_int (sa_cons se_int sa_nil))))) (se_one (se_o (so_call (ok_is_between C) (hr.mono (by first | decide | omega)) rfl (takes_of rfl rfl rfl rfl) (sa_cons (se_ix ix_seq o_ix (se_v (pv 0)) se_int (fun _ _ => rfl)) (sa_cons se_int (sa_cons (se_op op_sub o_sub (se_ix ix_seq o_ix (se_v (pv 0)) se_int (fun _ _ => rfl)) se_int) sa_nil))))))))))) ss_nil)
      (ss_one (ss_ret (so_e se_bl))))))))), b_is_plain F, F.kp, C.g_is_plain⟩
theorem ok_parts_of (C : Ctx w K mg) : Ok P w K mg base 1 "parts_of" ["saying"] (spM K M.f_parts_of) := by
  obtain ⟨fd, F⟩ := C.f_parts_of
  exact ⟨fd, okM F sc_parts_of rfl rfl (fun cdv A outer s H E hr =>
    (ss_cons (ss_if (st_w (sw_and (st_inK C.kd_JOINED C.ink_JOINED (se_ix ix_seq o_ix (se_v (pv 0)) se_int (fun _ _ => rfl)) (pe_gref rfl C.g_JOINED)) (sw_and1 (st_cmp (op_eqU hr.units) o_eq (nomark _) (se_b1 call_lenU c_len rfl (C.free_len) (by decide +kernel) (se_v (pv 0))) (se_op op_addU o_add se_int (se_itK C.kd_JOINED C.itk_JOINED (se_ix ix_seq o_ix (se_v (pv 0)) se_int (fun _ _ => rfl)) (pe_gref rfl C.g_JOINED) (fun _ _ => rfl))))))) (ss_one (ss_ret (so_e (se_sl sl_U o_sl (se_v (pv 0)) (sp_so se_int) sp_no)))) ss_nil)
      (ss_cons (ss_if (st_w (sw_and (st_cmp op_inU o_in (by rfl) (se_ix ix_seq o_ix (se_v (pv 0)) se_int (fun _ _ => rfl)) (se_c (pe_gref rfl C.g_CUTS) fun _ _ => C.z_CUTS)) (sw_and1 (st_cmp (op_eqU hr.units) o_eq (nomark _) (se_b1 call_lenU c_len rfl (C.free_len) (by decide +kernel) (se_v (pv 0))) se_int)))) (ss_one (ss_ret (so_e (se_sl sl_U o_sl (se_v (pv 0)) (sp_so se_int) sp_no)))) ss_nil)
      (ss_one (ss_ret (so_e (se_tup sa_nil))))))), b_parts_of F, F.kp, C.g_parts_of⟩
theorem ok_is_saying (C : Ctx w K mg) : ∀ N : Nat, Ok P w K mg base (N + 4) "is_saying" ["thing", "letters", "deep"] (spM K (M.f_is_saying N))
  | 0 => by
    obtain ⟨fd, F⟩ := C.f_is_saying
    exact ⟨fd, okB F sc_is_saying, b_is_saying F, F.kp, C.g_is_saying⟩
  | N + 1 => by
    have ih_ := ok_is_saying C N
    obtain ⟨fd, F⟩ := C.f_is_saying
    exact ⟨fd, okM F sc_is_saying rfl rfl (fun cdv A outer s H E hr =>
      (ss_cons (ss_if (st_w (sw_or (st_not (st_e (se_isT "tuple" (by decide) rfl (C.free_isinstance) (by decide +kernel) (se_v (pv 0)) (pe_bltn (v := .ty "tuple") rfl (C.free_tuple) (by decide +kernel) rfl)))) (sw_or (st_cmp (op_eqU hr.units) o_eq (nomark _) (se_b1 call_lenU c_len rfl (C.free_len) (by decide +kernel) (se_v (pv 0))) se_int) (sw_or (st_not (st_e (se_isT "str" (by decide) rfl (C.free_isinstance) (by decide +kernel) (se_ix ix_seq o_ix (se_v (pv 0)) se_int (fun _ _ => rfl)) (pe_bltn (v := .ty "str") rfl (C.free_str) (by decide +kernel) rfl)))) (sw_or1 (st_cmp (op_eqU hr.units) o_eq (nomark _) (se_v (pv 2)) se_int)))))) (ss_one (ss_ret (so_e se_bl))) ss_nil)
      (ss_cons (ss_set (i := 3) sc_is_saying.nd rfl (by first | exact Or.inl rfl | exact Or.inr rfl) (so_call (ok_parts_of C) (hr.mono (by first | decide | omega)) rfl (takes_of rfl rfl rfl rfl) (sa_cons (se_v (pv 0)) sa_nil)))
      (ss_cons (ss_if (st_cmp (op_eqU hr.units) o_eq (nomark _) (se_b1 call_lenU c_len rfl (C.free_len) (by decide +kernel) (se_v (pv 3))) se_int) (ss_one (ss_ret (so_call (ok_is_plain C) (hr.mono (by first | decide | omega)) rfl (takes_of rfl rfl rfl rfl) (sa_cons (se_v (pv 0)) (sa_cons (se_v (pv 1)) sa_nil))))) ss_nil)
      (ss_cons (ss_if (st_w (sw_and (st_cmp op_inU o_in (by rfl) (se_ix ix_seq o_ix (se_v (pv 0)) se_int (fun _ _ => rfl)) (se_c (pe_gref rfl C.g_CUTS) fun _ _ => C.z_CUTS)) (sw_and1 (st_not (st_e (se_o (so_call (ok_is_letter C) (hr.mono (by first | decide | omega)) rfl (takes_of rfl rfl rfl rfl) (sa_cons (se_ix ix_seq o_ix (se_v (pv 0)) se_int (fun _ _ => rfl)) (sa_cons (se_v (pv 1)) sa_nil))))))))) (ss_one (ss_ret (so_e se_bl))) ss_nil)
      (ss_one (ss_ret (so_e (se_b1 (cr_all rfl) c_all rfl (C.free_all) (by decide +kernel) (se_lc (own := [("part", 4)]) rfl sc_is_saying.nd (si_seq (se_v (pv 3))) (blkOk_by (own := [("part", 4)]) (N := N_is_saying) (sc := defScope s_is_saying) (by decide +kernel)) rfl (fun _ _ _ _ _ => (sg_n 4 sc_is_saying.nd rfl (by first | exact Or.inl rfl | exact Or.inr rfl) (by first | exact Or.inl rfl | exact Or.inr rfl | assumption))) (fun _ _ _ _ _ => spts_nil) (fun _ _ _ _ _ => (se_o (so_call ih_ (hr.mono (by first | decide | omega)) rfl takes_W0 (sa_cons (se_v (pv 4)) (sa_cons (se_v (pv 1)) (sa_cons (se_op op_sub o_sub (se_v (pv 2)) se_int) sa_nil)))))))))))))))), b_is_saying F, F.kp, C.g_is_saying⟩
theorem ok_check_saying (C : Ctx w K mg) : Ok P w K mg base 12 "check_saying" ["letters", "saying"] (spM K M.f_check_saying) := by
  obtain ⟨fd, F⟩ := C.f_check_saying
  exact ⟨fd, okM F sc_check_saying rfl rfl (fun cdv A outer s H E hr =>
    (ss_cons (ss_if (st_w (sw_or (st_not (st_e (se_o (so_call (ok_is_choice C) (hr.mono (by first | decide | omega)) rfl (takes_of rfl rfl rfl rfl) (sa_cons (se_v (pv 0)) (sa_cons (se_c (pe_gstr rfl C.c_SMALL) fun _ _ => fz_lit (by decide +kernel) (by decide +kernel)) sa_nil)))))) (sw_or1 (st_not (st_chain op_leU o_le op_leU o_le se_int (se_b1 call_lenU c_len rfl (C.free_len) (by decide +kernel) (se_v (pv 0))) se_int))))) (ss_one (ss_raise rfl (takes_of rfl rfl rfl rfl) (pmk_own0 PySem.F.excBase_ValueError C.x_NoLetters C.g_NoLetters C.k_NoLetters C.r_NoLetters rfl))) ss_nil)
      (ss_one (ss_if (st_not (st_e (se_o (so_call (ok_is_saying C 7) (hr.mono (by first | decide | omega)) rfl (takes_of rfl rfl rfl rfl) (sa_cons (se_v (pv 1)) (sa_cons (se_v (pv 0)) (sa_cons (se_c (pe_gint rfl C.c_MOST_DEEP) fun _ _ => .int _) sa_nil))))))) (ss_one (ss_raise rfl (takes_of rfl rfl rfl rfl) (pmk_own0 PySem.F.excBase_ValueError C.x_NoSaying C.g_NoSaying C.k_NoSaying C.r_NoSaying rfl))) ss_nil)))), b_check_saying F, F.kp, C.g_check_saying⟩
theorem ok_stands_in (C : Ctx w K mg) : Ok P w K mg base 1 "stands_in" ["word", "goal"] (spM K M.f_stands_in) := by
  obtain ⟨fd, F⟩ := C.f_stands_in
  exact ⟨fd, okM F sc_stands_in rfl rfl (fun cdv A outer s H E hr =>
    (ss_cons (ss_set (i := 2) sc_stands_in.nd rfl (by first | exact Or.inl rfl | exact Or.inr rfl) (so_e se_int))
      (ss_cons (ss_for (passes_of rfl) rfl (si_seq (se_v (pv 0))) (sg_n 3 sc_stands_in.nd rfl (by first | exact Or.inl rfl | exact Or.inr rfl) (by first | exact Or.inl rfl | exact Or.inr rfl | assumption)) (ss_one (ss_if (st_w (sw_and (st_cmp op_ltU o_lt (nomark _) (se_v (pv 2)) (se_b1 call_lenU c_len rfl (C.free_len) (by decide +kernel) (se_v (pv 1)))) (sw_and1 (st_cmp (op_eqU hr.units) o_eq (nomark _) (se_v (pv 3)) (se_ix ix_seq o_ix (se_v (pv 1)) (se_v (pv 2)) (fun _ _ => rfl)))))) (ss_one (ss_aug (i := 2) sc_stands_in.nd rfl (by first | exact Or.inl rfl | exact Or.inr rfl) se_int ip_add p_add)) ss_nil)))
      (ss_one (ss_ret (so_e (se_cmp (op_eqU hr.units) o_eq (nomark _) (se_v (pv 2)) (se_b1 call_lenU c_len rfl (C.free_len) (by decide +kernel) (se_v (pv 1)))))))))), b_stands_in F, F.kp, C.g_stands_in⟩
end
end S

namespace S
open PySem PySem.Spec PyProof.Rows L2
section
variable {P : Program} {w : World} {K : PySem.W.Frag} {mg : Str → Option Value} {base : Heap}
theorem ok_is_so (C : Ctx w K mg) : ∀ N : Nat, Ok P w K mg base (N + 2) "is_so" ["saying", "word"] (spM K (M.f_is_so N))
  | 0 => by
    obtain ⟨fd, F⟩ := C.f_is_so
    exact ⟨fd, okB F sc_is_so, b_is_so F, F.kp, C.g_is_so⟩
  | N + 1 => by
    have ih_ := ok_is_so C N
    obtain ⟨fd, F⟩ := C.f_is_so
    exact ⟨fd, okM F sc_is_so rfl rfl (fun cdv A outer s H E hr =>
      (ss_cons (ss_set (i := 2) sc_is_so.nd rfl (by first | exact Or.inl rfl | exact Or.inr rfl) (so_e (se_ix ix_seq o_ix (se_v (pv 0)) se_int (fun _ _ => rfl))))
      (ss_cons (ss_if (st_cmp (op_eqU hr.units) o_eq (nomark _) (se_v (pv 2)) (se_str [110, 111, 116] (by decide +kernel) (by decide +kernel))) (ss_one (ss_ret (so_e (se_not (se_o (so_call ih_ (hr.mono (by first | decide | omega)) rfl (takes_of rfl rfl rfl rfl) (sa_cons (se_ix ix_seq o_ix (se_v (pv 0)) se_int (fun _ _ => rfl)) (sa_cons (se_v (pv 1)) sa_nil)))))))) ss_nil)
      (ss_cons (ss_if (st_cmp (op_eqU hr.units) o_eq (nomark _) (se_v (pv 2)) (se_str [97, 110, 100] (by decide +kernel) (by decide +kernel))) (ss_one (ss_ret (so_e (se_and (se_o (so_call ih_ (hr.mono (by first | decide | omega)) rfl (takes_of rfl rfl rfl rfl) (sa_cons (se_ix ix_seq o_ix (se_v (pv 0)) se_int (fun _ _ => rfl)) (sa_cons (se_v (pv 1)) sa_nil)))) (se_one (se_o (so_call ih_ (hr.mono (by first | decide | omega)) rfl (takes_of rfl rfl rfl rfl) (sa_cons (se_ix ix_seq o_ix (se_v (pv 0)) se_int (fun _ _ => rfl)) (sa_cons (se_v (pv 1)) sa_nil))))))))) ss_nil)
      (ss_cons (ss_if (st_cmp (op_eqU hr.units) o_eq (nomark _) (se_v (pv 2)) (se_str [111, 114] (by decide +kernel) (by decide +kernel))) (ss_one (ss_ret (so_e (se_or (se_o (so_call ih_ (hr.mono (by first | decide | omega)) rfl (takes_of rfl rfl rfl rfl) (sa_cons (se_ix ix_seq o_ix (se_v (pv 0)) se_int (fun _ _ => rfl)) (sa_cons (se_v (pv 1)) sa_nil)))) (se_one (se_o (so_call ih_ (hr.mono (by first | decide | omega)) rfl (takes_of rfl rfl rfl rfl) (sa_cons (se_ix ix_seq o_ix (se_v (pv 0)) se_int (fun _ _ => rfl)) (sa_cons (se_v (pv 1)) sa_nil))))))))) ss_nil)
      (ss_cons (ss_if (st_cmp op_inU o_in (by rfl) (se_v (pv 2)) (se_c (pe_gref rfl C.g_CUTS) fun _ _ => C.z_CUTS)) (ss_cons (ss_set (i := 3) sc_is_so.nd rfl (by first | exact Or.inl rfl | exact Or.inr rfl) (so_e (se_mt PySem.F.slot_str_find PySem.F.type_str_find mt_find m_find (se_v (pv 1)) (sa_cons (se_ix ix_seq o_ix (se_v (pv 0)) se_int (fun _ _ => rfl)) sa_nil))))
      (ss_cons (ss_if (st_cmp (op_eqU hr.units) o_eq (nomark _) (se_v (pv 2)) (se_str [99, 117, 116, 108, 97, 115, 116] (by decide +kernel) (by decide +kernel))) (ss_one (ss_set (i := 3) sc_is_so.nd rfl (by first | exact Or.inl rfl | exact Or.inr rfl) (so_e (se_mt PySem.F.slot_str_rfind PySem.F.type_str_rfind mt_rfind m_rfind (se_v (pv 1)) (sa_cons (se_ix ix_seq o_ix (se_v (pv 0)) se_int (fun _ _ => rfl)) sa_nil))))) ss_nil)
      (ss_one (ss_ret (so_e (se_and (se_cmp op_geU o_ge (nomark _) (se_v (pv 3)) se_int) (se_and (se_o (so_call ih_ (hr.mono (by first | decide | omega)) rfl (takes_of rfl rfl rfl rfl) (sa_cons (se_ix ix_seq o_ix (se_v (pv 0)) se_int (fun _ _ => rfl)) (sa_cons (se_sl sl_U o_sl (se_v (pv 1)) sp_no (sp_so (se_v (pv 3)))) sa_nil)))) (se_one (se_o (so_call ih_ (hr.mono (by first | decide | omega)) rfl (takes_of rfl rfl rfl rfl) (sa_cons (se_ix ix_seq o_ix (se_v (pv 0)) se_int (fun _ _ => rfl)) (sa_cons (se_sl sl_U o_sl (se_v (pv 1)) (sp_so (se_op op_addU o_add (se_v (pv 3)) se_int)) sp_no) sa_nil)))))))))))) ss_nil)
      (ss_cons (ss_if (st_cmp (op_eqU hr.units) o_eq (nomark _) (se_v (pv 2)) (se_str [102, 105, 114, 115, 116] (by decide +kernel) (by decide +kernel))) (ss_one (ss_ret (so_e (se_cmp (op_eqU hr.units) o_eq (nomark _) (se_sl sl_U o_sl (se_v (pv 1)) sp_no (sp_so se_int)) (se_ix ix_seq o_ix (se_v (pv 0)) se_int (fun _ _ => rfl)))))) ss_nil)
      (ss_cons (ss_if (st_cmp (op_eqU hr.units) o_eq (nomark _) (se_v (pv 2)) (se_str [108, 97, 115, 116] (by decide +kernel) (by decide +kernel))) (ss_one (ss_ret (so_e (se_cmp (op_eqU hr.units) o_eq (nomark _) (se_sl sl_U o_sl (se_v (pv 1)) (sp_so (se_un un_neg o_neg se_int)) sp_no) (se_ix ix_seq o_ix (se_v (pv 0)) se_int (fun _ _ => rfl)))))) ss_nil)
      (ss_cons (ss_if (st_cmp (op_eqU hr.units) o_eq (nomark _) (se_v (pv 2)) (se_str [99, 111, 117, 110, 116] (by decide +kernel) (by decide +kernel))) (ss_one (ss_ret (so_e (se_cmp (op_eqU hr.units) o_eq (nomark _) (se_op op_mod o_mod (se_mt PySem.F.slot_str_count PySem.F.type_str_count mt_count m_count (se_v (pv 1)) (sa_cons (se_ix ix_seq o_ix (se_v (pv 0)) se_int (fun _ _ => rfl)) sa_nil)) (se_ix ix_seq o_ix (se_v (pv 0)) se_int (fun _ _ => rfl))) (se_ix ix_seq o_ix (se_v (pv 0)) se_int (fun _ _ => rfl)))))) ss_nil)
      (ss_cons (ss_if (st_cmp (op_eqU hr.units) o_eq (nomark _) (se_v (pv 2)) (se_str [108, 101, 97, 115, 116] (by decide +kernel) (by decide +kernel))) (ss_one (ss_ret (so_e (se_cmp op_geU o_ge (nomark _) (se_mt PySem.F.slot_str_count PySem.F.type_str_count mt_count m_count (se_v (pv 1)) (sa_cons (se_ix ix_seq o_ix (se_v (pv 0)) se_int (fun _ _ => rfl)) sa_nil)) (se_ix ix_seq o_ix (se_v (pv 0)) se_int (fun _ _ => rfl)))))) ss_nil)
      (ss_cons (ss_if (st_cmp (op_eqU hr.units) o_eq (nomark _) (se_v (pv 2)) (se_str [105, 110] (by decide +kernel) (by decide +kernel))) (ss_one (ss_ret (so_call (ok_stands_in C) (hr.mono (by first | decide | omega)) rfl (takes_of rfl rfl rfl rfl) (sa_cons (se_v (pv 1)) (sa_cons (se_ix ix_seq o_ix (se_v (pv 0)) se_int (fun _ _ => rfl)) sa_nil))))) ss_nil)
      (ss_cons (ss_if (st_cmp (op_eqU hr.units) o_eq (nomark _) (se_v (pv 2)) (se_str [114, 111, 119] (by decide +kernel) (by decide +kernel))) (ss_one (ss_ret (so_e (se_cmp op_inU o_inT (by rfl) (se_ix ix_seq o_ix (se_v (pv 0)) se_int (fun _ _ => rfl)) (se_v (pv 1)))))) ss_nil)
      (ss_one (ss_ret (so_call (ok_is_string_of C) (hr.mono (by first | decide | omega)) rfl (takes_of rfl rfl rfl rfl) (sa_cons (se_v (pv 1)) (sa_cons (se_ix ix_seq o_ix (se_v (pv 0)) se_int (fun _ _ => rfl)) sa_nil))))))))))))))))), b_is_so F, F.kp, C.g_is_so⟩
theorem ok_holds (C : Ctx w K mg) : Ok P w K mg base 13 "holds" ["letters", "saying", "word"] (spM K M.f_holds) := by
  obtain ⟨fd, F⟩ := C.f_holds
  exact ⟨fd, okM F sc_holds rfl rfl (fun cdv A outer s H E hr =>
    (ss_cons (ss_expr (se_o (so_call (ok_check_saying C) (hr.mono (by first | decide | omega)) rfl (takes_of rfl rfl rfl rfl) (sa_cons (se_v (pv 0)) (sa_cons (se_v (pv 1)) sa_nil)))))
      (ss_cons (ss_if (st_not (st_e (se_o (so_call (ok_is_string_of C) (hr.mono (by first | decide | omega)) rfl (takes_of rfl rfl rfl rfl) (sa_cons (se_v (pv 2)) (sa_cons (se_v (pv 0)) sa_nil)))))) (ss_one (ss_raise rfl (takes_of rfl rfl rfl rfl) (pmk_own0 PySem.F.excBase_ValueError C.x_NoWord C.g_NoWord C.k_NoWord C.r_NoWord rfl))) ss_nil)
      (ss_one (ss_ret (so_call (ok_is_so C 7) (hr.mono (by first | decide | omega)) rfl (takes_of rfl rfl rfl rfl) (sa_cons (se_v (pv 1)) (sa_cons (se_v (pv 2)) sa_nil)))))))), b_holds F, F.kp, C.g_holds⟩
theorem ok__law_hand (C : Ctx w K mg) : Ok P w K mg base 1 "_law_hand" ["_law_script"] (spM K M.f__law_hand) := by
  obtain ⟨fd, F⟩ := C.f__law_hand
  exact ⟨fd, okM F sc__law_hand rfl rfl (fun cdv A outer s H E hr =>
    (ss_cons (ss_setLc (i := 1) (own := [("_law_cell", 2)]) rfl sc__law_hand.nd rfl rfl (sw_true (by rfl) (by rfl) (by rfl) (by decide +kernel)) (si_seq (se_sl sl_U o_sl (se_v (pv 0)) sp_no (sp_so se_int))) (blkOk_by (own := [("_law_cell", 2)]) (N := N__law_hand) (sc := defScope s__law_hand) (by decide +kernel)) rfl (fun _ _ _ _ _ => (sg_n 2 sc__law_hand.nd rfl (by first | exact Or.inl rfl | exact Or.inr rfl) (by first | exact Or.inl rfl | exact Or.inr rfl | assumption))) (fun _ _ _ _ _ => spts_nil) (fun _ _ _ _ _ => (se_b1 call_absU c_abs rfl (C.free_abs) (by decide +kernel) (se_t1 call_intU c_int rfl (C.free_int) (by decide +kernel) (se_v (pv 2))))))
      (ss_one (ss_ret (so_obj (sa_cons (se_v (pv 1)) (sa_cons se_int (sa_cons se_int (sa_cons (se_op op_addU o_add se_int (se_b1 call_lenU c_len rfl (C.free_len) (by decide +kernel) (se_v (pv 1)))) (sa_cons se_int sa_nil)))))))))), b__law_hand F, F.kp, C.g__law_hand⟩
theorem ok__law_draw (C : Ctx w K mg) : Ok P w K mg base 1 "_law_draw" ["_law_hand_here", "_law_many"] (spM K M.f__law_draw) := by
  obtain ⟨fd, F⟩ := C.f__law_draw
  exact ⟨fd, okM F sc__law_draw rfl rfl (fun cdv A outer s H E hr =>
    (ss_cons (ss_if (st_w (sw_and (st_cmp (op_eqU hr.units) o_eq (nomark _) (se_ixW (se_v (pv 0)) se_int (fun _ _ => rfl)) se_int) (sw_and1 (st_cmp op_ltU o_lt (nomark _) (se_ixW (se_v (pv 0)) se_int (fun _ _ => rfl)) (se_b1 call_lenU c_len rfl (C.free_len) (by decide +kernel) (se_ixW (se_v (pv 0)) se_int (fun _ _ => rfl))))))) (ss_cons (ss_set (i := 2) sc__law_draw.nd rfl (by first | exact Or.inl rfl | exact Or.inr rfl) (so_e (se_ix ix_seq o_ix (se_ixW (se_v (pv 0)) se_int (fun _ _ => rfl)) (se_ixW (se_v (pv 0)) se_int (fun _ _ => rfl)) (fun _ _ => rfl))))
      (ss_cons (ss_stoW (se_op op_addU o_add (se_ixW (se_v (pv 0)) se_int (fun _ _ => rfl)) se_int) (se_v (pv 0)) se_int)
      (ss_cons (ss_stoW (se_op op_mod o_mod (se_t1 call_intU c_int rfl (C.free_int) (by decide +kernel) (se_op op_addU o_add (se_op op_addU o_add (se_op op_mulV o_mul (se_ixW (se_v (pv 0)) se_int (fun _ _ => rfl)) se_int) (se_v (pv 2))) se_int)) se_int) (se_v (pv 0)) se_int)
      (ss_one (ss_if (st_cmp op_geU o_ge (nomark _) (se_v (pv 2)) (se_op op_pow o_pow se_int se_int)) (ss_one (ss_stoW (se_v (pv 2)) (se_v (pv 0)) se_int)) ss_nil))))) ss_nil)
      (ss_cons (ss_if (st_cmp op_gtU o_gt (nomark _) (se_ixW (se_v (pv 0)) se_int (fun _ _ => rfl)) se_int) (ss_cons (ss_set (i := 3) sc__law_draw.nd rfl (by first | exact Or.inl rfl | exact Or.inr rfl) (so_e (se_op op_mod o_mod (se_t1 call_intU c_int rfl (C.free_int) (by decide +kernel) (se_ixW (se_v (pv 0)) se_int (fun _ _ => rfl))) (se_v (pv 1)))))
      (ss_cons (ss_stoW (se_op op_fdivW o_fdiv (se_ixW (se_v (pv 0)) se_int (fun _ _ => rfl)) (se_v (pv 1))) (se_v (pv 0)) se_int)
      (ss_one (ss_ret (so_v (pv 3)))))) ss_nil)
      (ss_cons (ss_stoW (se_op op_addU o_add (se_ixW (se_v (pv 0)) se_int (fun _ _ => rfl)) se_int) (se_v (pv 0)) se_int)
      (ss_cons (ss_set (i := 4) sc__law_draw.nd rfl (by first | exact Or.inl rfl | exact Or.inr rfl) (so_e (se_op op_mod o_mod (se_t1 call_intU c_int rfl (C.free_int) (by decide +kernel) (se_op op_mulV o_mul (se_t1 call_intU c_int rfl (C.free_int) (by decide +kernel) (se_op op_addU o_add (se_ixW (se_v (pv 0)) se_int (fun _ _ => rfl)) (se_op op_mulV o_mul se_int (se_ixW (se_v (pv 0)) se_int (fun _ _ => rfl))))) se_int)) se_int)))
      (ss_cons (ss_set (i := 4) sc__law_draw.nd rfl (by first | exact Or.inl rfl | exact Or.inr rfl) (so_e (se_op op_mod o_mod (se_t1 call_intU c_int rfl (C.free_int) (by decide +kernel) (se_op op_mulV o_mul (se_v (pv 4)) (se_op op_addU o_add (se_op op_fdivW o_fdiv (se_v (pv 4)) se_int) se_int))) se_int)))
      (ss_cons (ss_set (i := 4) sc__law_draw.nd rfl (by first | exact Or.inl rfl | exact Or.inr rfl) (so_e (se_op op_mod o_mod (se_t1 call_intU c_int rfl (C.free_int) (by decide +kernel) (se_op op_mulV o_mul (se_v (pv 4)) (se_op op_addU o_add (se_op op_fdivW o_fdiv (se_v (pv 4)) se_int) se_int))) se_int)))
      (ss_one (ss_ret (so_e (se_op op_mod o_mod (se_t1 call_intU c_int rfl (C.free_int) (by decide +kernel) (se_op op_fdivW o_fdiv (se_v (pv 4)) se_int)) (se_v (pv 1))))))))))))), b__law_draw F, F.kp, C.g__law_draw⟩
theorem ok__law_letters (C : Ctx w K mg) : Ok P w K mg base 2 "_law_letters" ["_law_hand_here", "_law_signs", "_law_many"] (spM K M.f__law_letters) := by
  obtain ⟨fd, F⟩ := C.f__law_letters
  exact ⟨fd, okM F sc__law_letters rfl rfl (fun cdv A outer s H E hr =>
    (ss_cons (ss_set (i := 3) sc__law_letters.nd rfl (by first | exact Or.inl rfl | exact Or.inr rfl) (so_e (se_v (pv 1))))
      (ss_cons (ss_set (i := 4) sc__law_letters.nd rfl (by first | exact Or.inl rfl | exact Or.inr rfl) (so_e (se_str [] (by decide +kernel) (by decide +kernel))))
      (ss_cons (ss_for (passes_of rfl) rfl (si_range1 rfl (C.free_range) (se_v (pv 2))) (sg_n 5 sc__law_letters.nd rfl (by first | exact Or.inl rfl | exact Or.inr rfl) (by first | exact Or.inl rfl | exact Or.inr rfl | assumption)) (ss_cons (ss_set (i := 6) sc__law_letters.nd rfl (by first | exact Or.inl rfl | exact Or.inr rfl) (so_call (ok__law_draw C) (hr.mono (by first | decide | omega)) rfl (takes_of rfl rfl rfl rfl) (sa_cons (se_v (pv 0)) (sa_cons (se_b1 call_lenU c_len rfl (C.free_len) (by decide +kernel) (se_v (pv 3))) sa_nil))))
      (ss_cons (ss_set (i := 4) sc__law_letters.nd rfl (by first | exact Or.inl rfl | exact Or.inr rfl) (so_e (se_op op_addU o_add (se_v (pv 4)) (se_ix ix_seq o_ix (se_v (pv 3)) (se_v (pv 6)) (fun _ _ => rfl)))))
      (ss_one (ss_set (i := 3) sc__law_letters.nd rfl (by first | exact Or.inl rfl | exact Or.inr rfl) (so_e (se_op op_addU o_add (se_sl sl_U o_sl (se_v (pv 3)) sp_no (sp_so (se_v (pv 6)))) (se_sl sl_U o_sl (se_v (pv 3)) (sp_so (se_op op_addU o_add (se_v (pv 6)) se_int)) sp_no))))))))
      (ss_one (ss_ret (so_v (pv 4)))))))), b__law_letters F, F.kp, C.g__law_letters⟩
theorem ok__law_word (C : Ctx w K mg) : Ok P w K mg base 2 "_law_word" ["_law_hand_here", "_law_letters_here", "_law_many"] (spM K M.f__law_word) := by
  obtain ⟨fd, F⟩ := C.f__law_word
  exact ⟨fd, okM F sc__law_word rfl rfl (fun cdv A outer s H E hr =>
    (ss_cons (ss_set (i := 3) sc__law_word.nd rfl (by first | exact Or.inl rfl | exact Or.inr rfl) (so_e (se_str [] (by decide +kernel) (by decide +kernel))))
      (ss_cons (ss_for (passes_of rfl) rfl (si_range1 rfl (C.free_range) (se_v (pv 2))) (sg_n 4 sc__law_word.nd rfl (by first | exact Or.inl rfl | exact Or.inr rfl) (by first | exact Or.inl rfl | exact Or.inr rfl | assumption)) (ss_one (ss_set (i := 3) sc__law_word.nd rfl (by first | exact Or.inl rfl | exact Or.inr rfl) (so_e (se_op op_addU o_add (se_v (pv 3)) (se_ix ix_seq o_ix (se_v (pv 1)) (se_o (so_call (ok__law_draw C) (hr.mono (by first | decide | omega)) rfl (takes_of rfl rfl rfl rfl) (sa_cons (se_v (pv 0)) (sa_cons (se_b1 call_lenU c_len rfl (C.free_len) (by decide +kernel) (se_v (pv 1))) sa_nil)))) (fun _ _ => rfl)))))))
      (ss_one (ss_ret (so_v (pv 3))))))), b__law_word F, F.kp, C.g__law_word⟩
theorem ok__law_plain (C : Ctx w K mg) : Ok P w K mg base 3 "_law_plain" ["_law_hand_here", "_law_letters_here"] (spM K M.f__law_plain) := by
  obtain ⟨fd, F⟩ := C.f__law_plain
  exact ⟨fd, okM F sc__law_plain rfl rfl (fun cdv A outer s H E hr =>
    (ss_cons (ss_set (i := 2) sc__law_plain.nd rfl (by first | exact Or.inl rfl | exact Or.inr rfl) (so_e (se_ix ix_seq o_ix (se_lst (sa_cons (se_str [102, 105, 114, 115, 116] (by decide +kernel) (by decide +kernel)) (sa_cons (se_str [108, 97, 115, 116] (by decide +kernel) (by decide +kernel)) (sa_cons (se_str [99, 111, 117, 110, 116] (by decide +kernel) (by decide +kernel)) (sa_cons (se_str [108, 101, 97, 115, 116] (by decide +kernel) (by decide +kernel)) (sa_cons (se_str [105, 110] (by decide +kernel) (by decide +kernel)) (sa_cons (se_str [114, 111, 119] (by decide +kernel) (by decide +kernel)) (sa_cons (se_str [111, 110, 108, 121] (by decide +kernel) (by decide +kernel)) sa_nil)))))))) (se_o (so_call (ok__law_draw C) (hr.mono (by first | decide | omega)) rfl (takes_of rfl rfl rfl rfl) (sa_cons (se_v (pv 0)) (sa_cons se_int sa_nil)))) (fun _ _ => rfl))))
      (ss_cons (ss_set (i := 3) sc__law_plain.nd rfl (by first | exact Or.inl rfl | exact Or.inr rfl) (so_e (se_ix ix_seq o_ix (se_v (pv 1)) (se_o (so_call (ok__law_draw C) (hr.mono (by first | decide | omega)) rfl (takes_of rfl rfl rfl rfl) (sa_cons (se_v (pv 0)) (sa_cons (se_b1 call_lenU c_len rfl (C.free_len) (by decide +kernel) (se_v (pv 1))) sa_nil)))) (fun _ _ => rfl))))
      (ss_cons (ss_if (st_w (sw_or (st_cmp (op_eqU hr.units) o_eq (nomark _) (se_v (pv 2)) (se_str [102, 105, 114, 115, 116] (by decide +kernel) (by decide +kernel))) (sw_or1 (st_cmp (op_eqU hr.units) o_eq (nomark _) (se_v (pv 2)) (se_str [108, 97, 115, 116] (by decide +kernel) (by decide +kernel)))))) (ss_one (ss_ret (so_e (se_tup (sa_cons (se_v (pv 2)) (sa_cons (se_v (pv 3)) sa_nil)))))) ss_nil)
      (ss_cons (ss_if (st_cmp (op_eqU hr.units) o_eq (nomark _) (se_v (pv 2)) (se_str [99, 111, 117, 110, 116] (by decide +kernel) (by decide +kernel))) (ss_cons (ss_set (i := 4) sc__law_plain.nd rfl (by first | exact Or.inl rfl | exact Or.inr rfl) (so_e (se_op op_addU o_add se_int (se_o (so_call (ok__law_draw C) (hr.mono (by first | decide | omega)) rfl (takes_of rfl rfl rfl rfl) (sa_cons (se_v (pv 0)) (sa_cons se_int sa_nil)))))))
      (ss_one (ss_ret (so_e (se_tup (sa_cons (se_v (pv 2)) (sa_cons (se_v (pv 3)) (sa_cons (se_v (pv 4)) (sa_cons (se_o (so_call (ok__law_draw C) (hr.mono (by first | decide | omega)) rfl (takes_of rfl rfl rfl rfl) (sa_cons (se_v (pv 0)) (sa_cons (se_v (pv 4)) sa_nil)))) sa_nil))))))))) ss_nil)
      (ss_cons (ss_if (st_cmp (op_eqU hr.units) o_eq (nomark _) (se_v (pv 2)) (se_str [108, 101, 97, 115, 116] (by decide +kernel) (by decide +kernel))) (ss_one (ss_ret (so_e (se_tup (sa_cons (se_v (pv 2)) (sa_cons (se_v (pv 3)) (sa_cons (se_op op_addU o_add se_int (se_o (so_call (ok__law_draw C) (hr.mono (by first | decide | omega)) rfl (takes_of rfl rfl rfl rfl) (sa_cons (se_v (pv 0)) (sa_cons se_int sa_nil))))) sa_nil))))))) ss_nil)
      (ss_cons (ss_if (st_cmp (op_eqU hr.units) o_eq (nomark _) (se_v (pv 2)) (se_str [111, 110, 108, 121] (by decide +kernel) (by decide +kernel))) (ss_one (ss_ret (so_e (se_tup (sa_cons (se_v (pv 2)) (sa_cons (se_mt PySem.F.slot_str_join PySem.F.type_str_join mt_join m_join (se_str [] (by decide +kernel) (by decide +kernel)) (sa_cons (se_lc (own := [("_law_one", 5)]) rfl sc__law_plain.nd (si_seq (se_v (pv 1))) (blkOk_by (own := [("_law_one", 5)]) (N := N__law_plain) (sc := defScope s__law_plain) (by decide +kernel)) rfl (fun _ _ _ _ _ => (sg_n 5 sc__law_plain.nd rfl (by first | exact Or.inl rfl | exact Or.inr rfl) (by first | exact Or.inl rfl | exact Or.inr rfl | assumption))) (fun _ _ _ _ _ => (spts_one (st_cmp op_gtU o_gt (nomark _) (se_o (so_call (ok__law_draw C) (hr.mono (by first | decide | omega)) rfl takes_W0 (sa_cons (se_v (pv 0)) (sa_cons se_int sa_nil)))) se_int))) (fun _ _ _ _ _ => (se_v (pv 5)))) sa_nil)) sa_nil)))))) ss_nil)
      (ss_one (ss_ret (so_e (se_tup (sa_cons (se_v (pv 2)) (sa_cons (se_o (so_call (ok__law_word C) (hr.mono (by first | decide | omega)) rfl (takes_of rfl rfl rfl rfl) (sa_cons (se_v (pv 0)) (sa_cons (se_v (pv 1)) (sa_cons (se_op op_addU o_add se_int (se_o (so_call (ok__law_draw C) (hr.mono (by first | decide | omega)) rfl (takes_of rfl rfl rfl rfl) (sa_cons (se_v (pv 0)) (sa_cons se_int sa_nil))))) sa_nil))))) sa_nil))))))))))))), b__law_plain F, F.kp, C.g__law_plain⟩
theorem ok__law_saying (C : Ctx w K mg) : ∀ N : Nat, Ok P w K mg base (N + 4) "_law_saying" ["_law_hand_here", "_law_letters_here", "_law_deep"] (spM K (M.f__law_saying N))
  | 0 => by
    obtain ⟨fd, F⟩ := C.f__law_saying
    exact ⟨fd, okB F sc__law_saying, b__law_saying F, F.kp, C.g__law_saying⟩
  | N + 1 => by
    have ih_ := ok__law_saying C N
    obtain ⟨fd, F⟩ := C.f__law_saying
    exact ⟨fd, okM F sc__law_saying rfl rfl (fun cdv A outer s H E hr =>
      (ss_cons (ss_set (i := 3) sc__law_saying.nd rfl (by first | exact Or.inl rfl | exact Or.inr rfl) (so_call (ok__law_draw C) (hr.mono (by first | decide | omega)) rfl (takes_of rfl rfl rfl rfl) (sa_cons (se_v (pv 0)) (sa_cons se_int sa_nil))))
      (ss_cons (ss_if (st_w (sw_or (st_cmp (op_eqU hr.units) o_eq (nomark _) (se_v (pv 2)) se_int) (sw_or1 (st_cmp op_gtU o_gt (nomark _) (se_v (pv 3)) se_int)))) (ss_one (ss_ret (so_call (ok__law_plain C) (hr.mono (by first | decide | omega)) rfl (takes_of rfl rfl rfl rfl) (sa_cons (se_v (pv 0)) (sa_cons (se_v (pv 1)) sa_nil))))) ss_nil)
      (ss_cons (ss_if (st_cmp (op_eqU hr.units) o_eq (nomark _) (se_v (pv 3)) se_int) (ss_one (ss_ret (so_e (se_tup (sa_cons (se_str [110, 111, 116] (by decide +kernel) (by decide +kernel)) (sa_cons (se_o (so_call ih_ (hr.mono (by first | decide | omega)) rfl (takes_of rfl rfl rfl rfl) (sa_cons (se_v (pv 0)) (sa_cons (se_v (pv 1)) (sa_cons (se_op op_sub o_sub (se_v (pv 2)) se_int) sa_nil))))) sa_nil)))))) ss_nil)
      (ss_cons (ss_set (i := 4) sc__law_saying.nd rfl (by first | exact Or.inl rfl | exact Or.inr rfl) (so_e (se_ix ix_seq o_ix (se_v (pv 1)) (se_o (so_call (ok__law_draw C) (hr.mono (by first | decide | omega)) rfl (takes_of rfl rfl rfl rfl) (sa_cons (se_v (pv 0)) (sa_cons (se_b1 call_lenU c_len rfl (C.free_len) (by decide +kernel) (se_v (pv 1))) sa_nil)))) (fun _ _ => rfl))))
      (ss_cons (ss_set (i := 5) sc__law_saying.nd rfl (by first | exact Or.inl rfl | exact Or.inr rfl) (so_call ih_ (hr.mono (by first | decide | omega)) rfl (takes_of rfl rfl rfl rfl) (sa_cons (se_v (pv 0)) (sa_cons (se_v (pv 1)) (sa_cons (se_op op_sub o_sub (se_v (pv 2)) se_int) sa_nil)))))
      (ss_cons (ss_set (i := 6) sc__law_saying.nd rfl (by first | exact Or.inl rfl | exact Or.inr rfl) (so_call ih_ (hr.mono (by first | decide | omega)) rfl (takes_of rfl rfl rfl rfl) (sa_cons (se_v (pv 0)) (sa_cons (se_v (pv 1)) (sa_cons (se_op op_sub o_sub (se_v (pv 2)) se_int) sa_nil)))))
      (ss_cons (ss_if (st_w (sw_or (st_cmp (op_eqU hr.units) o_eq (nomark _) (se_v (pv 3)) se_int) (sw_or1 (st_cmp (op_eqU hr.units) o_eq (nomark _) (se_v (pv 3)) se_int)))) (ss_one (ss_ret (so_e (se_tup (sa_cons (se_ix ix_seq o_ix (se_lst (sa_cons (se_str [97, 110, 100] (by decide +kernel) (by decide +kernel)) (sa_cons (se_str [111, 114] (by decide +kernel) (by decide +kernel)) sa_nil))) (se_op op_sub o_sub (se_v (pv 3)) se_int) (fun _ _ => rfl)) (sa_cons (se_v (pv 5)) (sa_cons (se_v (pv 6)) sa_nil))))))) ss_nil)
      (ss_one (ss_ret (so_e (se_tup (sa_cons (se_ix ix_seq o_ix (se_lst (sa_cons (se_str [99, 117, 116] (by decide +kernel) (by decide +kernel)) (sa_cons (se_str [99, 117, 116, 108, 97, 115, 116] (by decide +kernel) (by decide +kernel)) (sa_cons (se_str [99, 117, 116] (by decide +kernel) (by decide +kernel)) sa_nil)))) (se_op op_sub o_sub (se_v (pv 3)) se_int) (fun _ _ => rfl)) (sa_cons (se_v (pv 4)) (sa_cons (se_v (pv 5)) (sa_cons (se_v (pv 6)) sa_nil)))))))))))))))), b__law_saying F, F.kp, C.g__law_saying⟩
theorem ok__law_stands (C : Ctx w K mg) : Ok P w K mg base 1 "_law_stands" ["_law_word_here", "_law_goal"] (spM K M.f__law_stands) := by
  obtain ⟨fd, F⟩ := C.f__law_stands
  exact ⟨fd, okM F sc__law_stands rfl rfl (fun cdv A outer s H E hr =>
    (ss_cons (ss_set (i := 2) sc__law_stands.nd rfl (by first | exact Or.inl rfl | exact Or.inr rfl) (so_e se_int))
      (ss_cons (ss_for (passes_of rfl) rfl (si_seq (se_v (pv 1))) (sg_n 3 sc__law_stands.nd rfl (by first | exact Or.inl rfl | exact Or.inr rfl) (by first | exact Or.inl rfl | exact Or.inr rfl | assumption)) (ss_cons (ss_set (i := 4) sc__law_stands.nd rfl (by first | exact Or.inl rfl | exact Or.inr rfl) (so_e (se_mt PySem.F.slot_str_find PySem.F.type_str_find mt_find3 m_find2 (se_v (pv 0)) (sa_cons (se_v (pv 3)) (sa_cons (se_v (pv 2)) sa_nil)))))
      (ss_cons (ss_if (st_cmp op_ltU o_lt (nomark _) (se_v (pv 4)) se_int) (ss_one (ss_ret (so_e se_bl))) ss_nil)
      (ss_one (ss_set (i := 2) sc__law_stands.nd rfl (by first | exact Or.inl rfl | exact Or.inr rfl) (so_e (se_op op_addU o_add (se_v (pv 4)) se_int)))))))
      (ss_one (ss_ret (so_e se_bl)))))), b__law_stands F, F.kp, C.g__law_stands⟩
theorem ok__law_plain_so (C : Ctx w K mg) : Ok P w K mg base 2 "_law_plain_so" ["_law_saying_here", "_law_word_here"] (spM K M.f__law_plain_so) := by
  obtain ⟨fd, F⟩ := C.f__law_plain_so
  exact ⟨fd, okM F sc__law_plain_so rfl rfl (fun cdv A outer s H E hr =>
    (ss_cons (ss_set (i := 2) sc__law_plain_so.nd rfl (by first | exact Or.inl rfl | exact Or.inr rfl) (so_e (se_ix ix_seq o_ix (se_v (pv 0)) se_int (fun _ _ => rfl))))
      (ss_cons (ss_if (st_cmp (op_eqU hr.units) o_eq (nomark _) (se_v (pv 2)) (se_str [102, 105, 114, 115, 116] (by decide +kernel) (by decide +kernel))) (ss_one (ss_ret (so_e (se_and (se_cmp op_gtU o_gt (nomark _) (se_b1 call_lenU c_len rfl (C.free_len) (by decide +kernel) (se_v (pv 1))) se_int) (se_one (se_cmp (op_eqU hr.units) o_eq (nomark _) (se_ix ix_seq o_ix (se_v (pv 1)) se_int (fun _ _ => rfl)) (se_ix ix_seq o_ix (se_v (pv 0)) se_int (fun _ _ => rfl)))))))) ss_nil)
      (ss_cons (ss_if (st_cmp (op_eqU hr.units) o_eq (nomark _) (se_v (pv 2)) (se_str [108, 97, 115, 116] (by decide +kernel) (by decide +kernel))) (ss_one (ss_ret (so_e (se_and (se_cmp op_gtU o_gt (nomark _) (se_b1 call_lenU c_len rfl (C.free_len) (by decide +kernel) (se_v (pv 1))) se_int) (se_one (se_cmp (op_eqU hr.units) o_eq (nomark _) (se_ix ix_seq o_ix (se_v (pv 1)) (se_op op_sub o_sub (se_b1 call_lenU c_len rfl (C.free_len) (by decide +kernel) (se_v (pv 1))) se_int) (fun _ _ => rfl)) (se_ix ix_seq o_ix (se_v (pv 0)) se_int (fun _ _ => rfl)))))))) ss_nil)
      (ss_cons (ss_set (i := 3) sc__law_plain_so.nd rfl (by first | exact Or.inl rfl | exact Or.inr rfl) (so_e (se_b1 (cr_sum rfl) c_sum rfl (C.free_sum) (by decide +kernel) (se_lc (own := [("_law_letter", 5)]) rfl sc__law_plain_so.nd (si_seq (se_v (pv 1))) (blkOk_by (own := [("_law_letter", 5)]) (N := N__law_plain_so) (sc := defScope s__law_plain_so) (by decide +kernel)) rfl (fun _ _ _ _ _ => (sg_n 5 sc__law_plain_so.nd rfl (by first | exact Or.inl rfl | exact Or.inr rfl) (by first | exact Or.inl rfl | exact Or.inr rfl | assumption))) (fun _ _ _ _ _ => spts_nil) (fun _ _ _ _ _ => (se_t1 call_intU c_int rfl (C.free_int) (by decide +kernel) (se_cmp (op_eqU hr.units) o_eq (nomark _) (se_v (pv 5)) (se_ix ix_seq o_ix (se_v (pv 0)) se_int (fun _ _ => rfl)))))))))
      (ss_cons (ss_if (st_cmp (op_eqU hr.units) o_eq (nomark _) (se_v (pv 2)) (se_str [99, 111, 117, 110, 116] (by decide +kernel) (by decide +kernel))) (ss_one (ss_ret (so_e (se_cmp (op_eqU hr.units) o_eq (nomark _) (se_op op_mod o_mod (se_t1 call_intU c_int rfl (C.free_int) (by decide +kernel) (se_op op_sub o_sub (se_v (pv 3)) (se_ix ix_seq o_ix (se_v (pv 0)) se_int (fun _ _ => rfl)))) (se_ix ix_seq o_ix (se_v (pv 0)) se_int (fun _ _ => rfl))) se_int)))) ss_nil)
      (ss_cons (ss_if (st_cmp (op_eqU hr.units) o_eq (nomark _) (se_v (pv 2)) (se_str [108, 101, 97, 115, 116] (by decide +kernel) (by decide +kernel))) (ss_one (ss_ret (so_e (se_cmp op_geU o_ge (nomark _) (se_v (pv 3)) (se_ix ix_seq o_ix (se_v (pv 0)) se_int (fun _ _ => rfl)))))) ss_nil)
      (ss_cons (ss_if (st_cmp (op_eqU hr.units) o_eq (nomark _) (se_v (pv 2)) (se_str [105, 110] (by decide +kernel) (by decide +kernel))) (ss_one (ss_ret (so_call (ok__law_stands C) (hr.mono (by first | decide | omega)) rfl (takes_of rfl rfl rfl rfl) (sa_cons (se_v (pv 1)) (sa_cons (se_ix ix_seq o_ix (se_v (pv 0)) se_int (fun _ _ => rfl)) sa_nil))))) ss_nil)
      (ss_cons (ss_if (st_cmp (op_eqU hr.units) o_eq (nomark _) (se_v (pv 2)) (se_str [114, 111, 119] (by decide +kernel) (by decide +kernel))) (ss_cons (ss_set (i := 4) sc__law_plain_so.nd rfl (by first | exact Or.inl rfl | exact Or.inr rfl) (so_e (se_b1 call_lenU c_len rfl (C.free_len) (by decide +kernel) (se_ix ix_seq o_ix (se_v (pv 0)) se_int (fun _ _ => rfl)))))
      (ss_one (ss_ret (so_e (se_b1 (cr_any rfl) c_any rfl (C.free_any) (by decide +kernel) (se_lc (own := [("_law_at", 6)]) rfl sc__law_plain_so.nd (si_range1 rfl (C.free_range) (se_b1 call_lenU c_len rfl (C.free_len) (by decide +kernel) (se_v (pv 1)))) (blkOk_by (own := [("_law_at", 6)]) (N := N__law_plain_so) (sc := defScope s__law_plain_so) (by decide +kernel)) rfl (fun _ _ _ _ _ => (sg_n 6 sc__law_plain_so.nd rfl (by first | exact Or.inl rfl | exact Or.inr rfl) (by first | exact Or.inl rfl | exact Or.inr rfl | assumption))) (fun _ _ _ _ _ => spts_nil) (fun _ _ _ _ _ => (se_cmp (op_eqU hr.units) o_eq (nomark _) (se_sl sl_U o_sl (se_v (pv 1)) (sp_so (se_v (pv 6))) (sp_so (se_op op_addU o_add (se_v (pv 6)) (se_v (pv 4))))) (se_ix ix_seq o_ix (se_v (pv 0)) se_int (fun _ _ => rfl)))))))))) ss_nil)
      (ss_one (ss_ret (so_e (se_b1 (cr_all rfl) c_all rfl (C.free_all) (by decide +kernel) (se_lc (own := [("_law_letter", 5)]) rfl sc__law_plain_so.nd (si_seq (se_v (pv 1))) (blkOk_by (own := [("_law_letter", 5)]) (N := N__law_plain_so) (sc := defScope s__law_plain_so) (by decide +kernel)) rfl (fun _ _ _ _ _ => (sg_n 5 sc__law_plain_so.nd rfl (by first | exact Or.inl rfl | exact Or.inr rfl) (by first | exact Or.inl rfl | exact Or.inr rfl | assumption))) (fun _ _ _ _ _ => spts_nil) (fun _ _ _ _ _ => (se_cmp op_inU o_in (by rfl) (se_v (pv 5)) (se_ix ix_seq o_ix (se_v (pv 0)) se_int (fun _ _ => rfl)))))))))))))))))), b__law_plain_so F, F.kp, C.g__law_plain_so⟩
theorem ok__law_so (C : Ctx w K mg) : ∀ N : Nat, Ok P w K mg base (N + 3) "_law_so" ["_law_saying_here", "_law_word_here"] (spM K (M.f__law_so N))
  | 0 => by
    obtain ⟨fd, F⟩ := C.f__law_so
    exact ⟨fd, okB F sc__law_so, b__law_so F, F.kp, C.g__law_so⟩
  | N + 1 => by
    have ih_ := ok__law_so C N
    obtain ⟨fd, F⟩ := C.f__law_so
    exact ⟨fd, okM F sc__law_so rfl rfl (fun cdv A outer s H E hr =>
      (ss_cons (ss_set (i := 2) sc__law_so.nd rfl (by first | exact Or.inl rfl | exact Or.inr rfl) (so_e (se_ix ix_seq o_ix (se_v (pv 0)) se_int (fun _ _ => rfl))))
      (ss_cons (ss_if (st_cmp (op_eqU hr.units) o_eq (nomark _) (se_v (pv 2)) (se_str [110, 111, 116] (by decide +kernel) (by decide +kernel))) (ss_one (ss_ret (so_e (se_not (se_o (so_call ih_ (hr.mono (by first | decide | omega)) rfl (takes_of rfl rfl rfl rfl) (sa_cons (se_ix ix_seq o_ix (se_v (pv 0)) se_int (fun _ _ => rfl)) (sa_cons (se_v (pv 1)) sa_nil)))))))) ss_nil)
      (ss_cons (ss_if (st_cmp (op_eqU hr.units) o_eq (nomark _) (se_v (pv 2)) (se_str [97, 110, 100] (by decide +kernel) (by decide +kernel))) (ss_one (ss_ret (so_e (se_and (se_o (so_call ih_ (hr.mono (by first | decide | omega)) rfl (takes_of rfl rfl rfl rfl) (sa_cons (se_ix ix_seq o_ix (se_v (pv 0)) se_int (fun _ _ => rfl)) (sa_cons (se_v (pv 1)) sa_nil)))) (se_one (se_o (so_call ih_ (hr.mono (by first | decide | omega)) rfl (takes_of rfl rfl rfl rfl) (sa_cons (se_ix ix_seq o_ix (se_v (pv 0)) se_int (fun _ _ => rfl)) (sa_cons (se_v (pv 1)) sa_nil))))))))) ss_nil)
      (ss_cons (ss_if (st_cmp (op_eqU hr.units) o_eq (nomark _) (se_v (pv 2)) (se_str [111, 114] (by decide +kernel) (by decide +kernel))) (ss_one (ss_ret (so_e (se_or (se_o (so_call ih_ (hr.mono (by first | decide | omega)) rfl (takes_of rfl rfl rfl rfl) (sa_cons (se_ix ix_seq o_ix (se_v (pv 0)) se_int (fun _ _ => rfl)) (sa_cons (se_v (pv 1)) sa_nil)))) (se_one (se_o (so_call ih_ (hr.mono (by first | decide | omega)) rfl (takes_of rfl rfl rfl rfl) (sa_cons (se_ix ix_seq o_ix (se_v (pv 0)) se_int (fun _ _ => rfl)) (sa_cons (se_v (pv 1)) sa_nil))))))))) ss_nil)
      (ss_cons (ss_if (st_w (sw_and (st_cmp (op_neU hr.units) o_ne (nomark _) (se_v (pv 2)) (se_str [99, 117, 116] (by decide +kernel) (by decide +kernel))) (sw_and1 (st_cmp (op_neU hr.units) o_ne (nomark _) (se_v (pv 2)) (se_str [99, 117, 116, 108, 97, 115, 116] (by decide +kernel) (by decide +kernel)))))) (ss_one (ss_ret (so_call (ok__law_plain_so C) (hr.mono (by first | decide | omega)) rfl (takes_of rfl rfl rfl rfl) (sa_cons (se_v (pv 0)) (sa_cons (se_v (pv 1)) sa_nil))))) ss_nil)
      (ss_cons (ss_setLc (i := 3) (own := [("_law_at", 4)]) rfl sc__law_so.nd rfl rfl (sw_true (by rfl) (by rfl) (by rfl) (by decide +kernel)) (si_range1 rfl (C.free_range) (se_b1 call_lenU c_len rfl (C.free_len) (by decide +kernel) (se_v (pv 1)))) (blkOk_by (own := [("_law_at", 4)]) (N := N__law_so) (sc := defScope s__law_so) (by decide +kernel)) rfl (fun _ _ _ _ _ => (sg_n 4 sc__law_so.nd rfl (by first | exact Or.inl rfl | exact Or.inr rfl) (by first | exact Or.inl rfl | exact Or.inr rfl | assumption))) (fun _ _ _ _ _ => (spts_one (st_cmp (op_eqU hr.units) o_eq (nomark _) (se_ix ix_seq o_ix (se_v (pv 1)) (se_v (pv 4)) (fun _ _ => rfl)) (se_ix ix_seq o_ix (se_v (pv 0)) se_int (fun _ _ => rfl))))) (fun _ _ _ _ _ => (se_v (pv 4))))
      (ss_cons (ss_if (st_cmp (op_eqU hr.units) o_eq (nomark _) (se_b1 call_lenU c_len rfl (C.free_len) (by decide +kernel) (se_v (pv 3))) se_int) (ss_one (ss_ret (so_e se_bl))) ss_nil)
      (ss_cons (ss_set (i := 4) sc__law_so.nd rfl (by first | exact Or.inl rfl | exact Or.inr rfl) (so_e (se_ix ix_seq o_ix (se_v (pv 3)) se_int (fun _ _ => rfl))))
      (ss_cons (ss_if (st_cmp (op_eqU hr.units) o_eq (nomark _) (se_v (pv 2)) (se_str [99, 117, 116, 108, 97, 115, 116] (by decide +kernel) (by decide +kernel))) (ss_one (ss_set (i := 4) sc__law_so.nd rfl (by first | exact Or.inl rfl | exact Or.inr rfl) (so_e (se_ix ix_seq o_ix (se_v (pv 3)) (se_op op_sub o_sub (se_b1 call_lenU c_len rfl (C.free_len) (by decide +kernel) (se_v (pv 3))) se_int) (fun _ _ => rfl))))) ss_nil)
      (ss_one (ss_ret (so_e (se_and (se_o (so_call ih_ (hr.mono (by first | decide | omega)) rfl (takes_of rfl rfl rfl rfl) (sa_cons (se_ix ix_seq o_ix (se_v (pv 0)) se_int (fun _ _ => rfl)) (sa_cons (se_sl sl_U o_sl (se_v (pv 1)) sp_no (sp_so (se_v (pv 4)))) sa_nil)))) (se_one (se_o (so_call ih_ (hr.mono (by first | decide | omega)) rfl (takes_of rfl rfl rfl rfl) (sa_cons (se_ix ix_seq o_ix (se_v (pv 0)) se_int (fun _ _ => rfl)) (sa_cons (se_sl sl_U o_sl (se_v (pv 1)) (sp_so (se_op op_addU o_add (se_v (pv 4)) se_int)) sp_no) sa_nil))))))))))))))))))), b__law_so F, F.kp, C.g__law_so⟩
theorem ok__law_some_letters (C : Ctx w K mg) : Ok P w K mg base 3 "_law_some_letters" ["_law_hand_here"] (spM K M.f__law_some_letters) := by
  obtain ⟨fd, F⟩ := C.f__law_some_letters
  exact ⟨fd, okM F sc__law_some_letters rfl rfl (fun cdv A outer s H E hr =>
    (ss_one (ss_ret (so_e (se_mt PySem.F.slot_str_join PySem.F.type_str_join mt_join m_join (se_str [] (by decide +kernel) (by decide +kernel)) (sa_cons (se_b1 (call_sortU rfl) c_sorted rfl (C.free_sorted) (by decide +kernel) (se_o (so_call (ok__law_letters C) (hr.mono (by first | decide | omega)) rfl (takes_of rfl rfl rfl rfl) (sa_cons (se_v (pv 0)) (sa_cons (se_str [97, 98, 99, 100, 101, 102, 103, 104, 105, 106, 107, 108, 109, 110, 111, 112, 113, 114, 115, 116, 117, 118, 119, 120, 121, 122] (by decide +kernel) (by decide +kernel)) (sa_cons (se_op op_addU o_add se_int (se_o (so_call (ok__law_draw C) (hr.mono (by first | decide | omega)) rfl (takes_of rfl rfl rfl rfl) (sa_cons (se_v (pv 0)) (sa_cons se_int sa_nil))))) sa_nil)))))) sa_nil)))))), b__law_some_letters F, F.kp, C.g__law_some_letters⟩
end
end S

namespace S
open PySem PySem.Spec PyProof.Rows L2
section
variable {P : Program} {w : World} {K : PySem.W.Frag} {mg : Str → Option Value} {base : Heap}
theorem ok__law_flag (C : Ctx w K mg) : Ok P w K mg base 1 "_law_flag" ["_law_found", "_law_due"] (spM K M.f__law_flag) := by
  obtain ⟨fd, F⟩ := C.f__law_flag
  exact ⟨fd, okM F sc__law_flag rfl rfl (fun cdv A outer s H E hr =>
    (ss_one (ss_ret (so_e (se_and (se_isT "bool" (by decide) rfl (C.free_isinstance) (by decide +kernel) (se_v (pv 0)) (pe_bltn (v := .ty "bool") rfl (C.free_bool) (by decide +kernel) rfl)) (se_one (se_cmp (op_eqU hr.units) o_eq (nomark _) (se_v (pv 0)) (se_v (pv 1))))))))), b__law_flag F, F.kp, C.g__law_flag⟩
theorem ok_law (C : Ctx w K mg) : Ok P w K mg base 14 "law" ["_law_script"] (spM K M.f_law) := by
  obtain ⟨fd, F⟩ := C.f_law
  exact ⟨fd, okM F sc_law rfl rfl (fun cdv A outer s H E hr =>
    (ss_cons (ss_set (i := 1) sc_law.nd rfl (by first | exact Or.inl rfl | exact Or.inr rfl) (so_call (ok__law_hand C) (hr.mono (by first | decide | omega)) rfl (takes_of rfl rfl rfl rfl) (sa_cons (se_v (pv 0)) sa_nil)))
      (ss_cons (ss_set (i := 2) sc_law.nd rfl (by first | exact Or.inl rfl | exact Or.inr rfl) (so_call (ok__law_some_letters C) (hr.mono (by first | decide | omega)) rfl (takes_of rfl rfl rfl rfl) (sa_cons (se_v (pv 1)) sa_nil)))
      (ss_cons (ss_for (passes_of rfl) rfl (si_range1 rfl (C.free_range) se_int) (sg_n 3 sc_law.nd rfl (by first | exact Or.inl rfl | exact Or.inr rfl) (by first | exact Or.inl rfl | exact Or.inr rfl | assumption)) (ss_cons (ss_set (i := 4) sc_law.nd rfl (by first | exact Or.inl rfl | exact Or.inr rfl) (so_call (ok__law_saying C 6) (hr.mono (by first | decide | omega)) rfl (takes_of rfl rfl rfl rfl) (sa_cons (se_v (pv 1)) (sa_cons (se_v (pv 2)) (sa_cons se_int sa_nil)))))
      (ss_cons (ss_set (i := 5) sc_law.nd rfl (by first | exact Or.inl rfl | exact Or.inr rfl) (so_call (ok__law_saying C 6) (hr.mono (by first | decide | omega)) rfl (takes_of rfl rfl rfl rfl) (sa_cons (se_v (pv 1)) (sa_cons (se_v (pv 2)) (sa_cons (se_op op_addU o_add se_int (se_o (so_call (ok__law_draw C) (hr.mono (by first | decide | omega)) rfl (takes_of rfl rfl rfl rfl) (sa_cons (se_v (pv 1)) (sa_cons se_int sa_nil))))) sa_nil)))))
      (ss_cons (ss_set (i := 6) sc_law.nd rfl (by first | exact Or.inl rfl | exact Or.inr rfl) (so_e (se_sl sl_U o_sl (se_v (pv 2)) (sp_so (se_o (so_call (ok__law_draw C) (hr.mono (by first | decide | omega)) rfl (takes_of rfl rfl rfl rfl) (sa_cons (se_v (pv 1)) (sa_cons (se_b1 call_lenU c_len rfl (C.free_len) (by decide +kernel) (se_v (pv 2))) sa_nil))))) sp_no)))
      (ss_one (ss_for (passes_of rfl) rfl (si_range1 rfl (C.free_range) se_int) (sg_n 7 sc_law.nd rfl (by first | exact Or.inl rfl | exact Or.inr rfl) (by first | exact Or.inl rfl | exact Or.inr rfl | assumption)) (ss_cons (ss_set (i := 8) sc_law.nd rfl (by first | exact Or.inl rfl | exact Or.inr rfl) (so_call (ok__law_word C) (hr.mono (by first | decide | omega)) rfl (takes_of rfl rfl rfl rfl) (sa_cons (se_v (pv 1)) (sa_cons (se_ix ix_seq o_ix (se_lst (sa_cons (se_v (pv 2)) (sa_cons (se_v (pv 6)) sa_nil))) (se_op op_mod o_mod (se_v (pv 7)) se_int) (fun _ _ => rfl)) (sa_cons (se_o (so_call (ok__law_draw C) (hr.mono (by first | decide | omega)) rfl (takes_of rfl rfl rfl rfl) (sa_cons (se_v (pv 1)) (sa_cons se_int sa_nil)))) sa_nil)))))
      (ss_cons (ss_set (i := 9) sc_law.nd rfl (by first | exact Or.inl rfl | exact Or.inr rfl) (so_call (ok_holds C) (hr.mono (by first | decide | omega)) rfl (takes_of rfl rfl rfl rfl) (sa_cons (se_v (pv 2)) (sa_cons (se_v (pv 4)) (sa_cons (se_v (pv 8)) sa_nil)))))
      (ss_cons (ss_set (i := 10) sc_law.nd rfl (by first | exact Or.inl rfl | exact Or.inr rfl) (so_call (ok_holds C) (hr.mono (by first | decide | omega)) rfl (takes_of rfl rfl rfl rfl) (sa_cons (se_v (pv 2)) (sa_cons (se_v (pv 5)) (sa_cons (se_v (pv 8)) sa_nil)))))
      (ss_cons (ss_if (st_w (sw_or (st_not (st_e (se_o (so_call (ok__law_flag C) (hr.mono (by first | decide | omega)) rfl (takes_of rfl rfl rfl rfl) (sa_cons (se_v (pv 9)) (sa_cons (se_o (so_call (ok__law_so C 7) (hr.mono (by first | decide | omega)) rfl (takes_of rfl rfl rfl rfl) (sa_cons (se_v (pv 4)) (sa_cons (se_v (pv 8)) sa_nil)))) sa_nil)))))) (sw_or1 (st_not (st_e (se_o (so_call (ok__law_flag C) (hr.mono (by first | decide | omega)) rfl (takes_of rfl rfl rfl rfl) (sa_cons (se_v (pv 10)) (sa_cons (se_o (so_call (ok__law_so C 7) (hr.mono (by first | decide | omega)) rfl (takes_of rfl rfl rfl rfl) (sa_cons (se_v (pv 5)) (sa_cons (se_v (pv 8)) sa_nil)))) sa_nil))))))))) (ss_one (ss_ret (so_e se_bl))) ss_nil)
      (ss_cons (ss_if (st_not (st_e (se_o (so_call (ok__law_flag C) (hr.mono (by first | decide | omega)) rfl (takes_of rfl rfl rfl rfl) (sa_cons (se_o (so_call (ok_holds C) (hr.mono (by first | decide | omega)) rfl (takes_of rfl rfl rfl rfl) (sa_cons (se_v (pv 2)) (sa_cons (se_tup (sa_cons (se_str [110, 111, 116] (by decide +kernel) (by decide +kernel)) (sa_cons (se_v (pv 4)) sa_nil))) (sa_cons (se_v (pv 8)) sa_nil))))) (sa_cons (se_not (se_v (pv 9))) sa_nil)))))) (ss_one (ss_ret (so_e se_bl))) ss_nil)
      (ss_cons (ss_if (st_not (st_e (se_o (so_call (ok__law_flag C) (hr.mono (by first | decide | omega)) rfl (takes_of rfl rfl rfl rfl) (sa_cons (se_o (so_call (ok_holds C) (hr.mono (by first | decide | omega)) rfl (takes_of rfl rfl rfl rfl) (sa_cons (se_v (pv 2)) (sa_cons (se_tup (sa_cons (se_str [97, 110, 100] (by decide +kernel) (by decide +kernel)) (sa_cons (se_v (pv 4)) (sa_cons (se_v (pv 5)) sa_nil)))) (sa_cons (se_v (pv 8)) sa_nil))))) (sa_cons (se_and (se_v (pv 9)) (se_one (se_v (pv 10)))) sa_nil)))))) (ss_one (ss_ret (so_e se_bl))) ss_nil)
      (ss_cons (ss_if (st_not (st_e (se_o (so_call (ok__law_flag C) (hr.mono (by first | decide | omega)) rfl (takes_of rfl rfl rfl rfl) (sa_cons (se_o (so_call (ok_holds C) (hr.mono (by first | decide | omega)) rfl (takes_of rfl rfl rfl rfl) (sa_cons (se_v (pv 2)) (sa_cons (se_tup (sa_cons (se_str [111, 114] (by decide +kernel) (by decide +kernel)) (sa_cons (se_v (pv 4)) (sa_cons (se_v (pv 5)) sa_nil)))) (sa_cons (se_v (pv 8)) sa_nil))))) (sa_cons (se_or (se_v (pv 9)) (se_one (se_v (pv 10)))) sa_nil)))))) (ss_one (ss_ret (so_e se_bl))) ss_nil)
      (ss_cons (ss_set (i := 11) sc_law.nd rfl (by first | exact Or.inl rfl | exact Or.inr rfl) (so_e (se_ix ix_seq o_ix (se_v (pv 2)) (se_o (so_call (ok__law_draw C) (hr.mono (by first | decide | omega)) rfl (takes_of rfl rfl rfl rfl) (sa_cons (se_v (pv 1)) (sa_cons (se_b1 call_lenU c_len rfl (C.free_len) (by decide +kernel) (se_v (pv 2))) sa_nil)))) (fun _ _ => rfl))))
      (ss_one (ss_for (passes_of rfl) rfl (si_seq (se_tup (sa_cons (se_str [99, 117, 116] (by decide +kernel) (by decide +kernel)) (sa_cons (se_str [99, 117, 116, 108, 97, 115, 116] (by decide +kernel) (by decide +kernel)) sa_nil)))) (sg_n 12 sc_law.nd rfl (by first | exact Or.inl rfl | exact Or.inr rfl) (by first | exact Or.inl rfl | exact Or.inr rfl | assumption)) (ss_cons (ss_set (i := 13) sc_law.nd rfl (by first | exact Or.inl rfl | exact Or.inr rfl) (so_e (se_tup (sa_cons (se_v (pv 12)) (sa_cons (se_v (pv 11)) (sa_cons (se_v (pv 4)) (sa_cons (se_v (pv 5)) sa_nil)))))))
      (ss_one (ss_if (st_not (st_e (se_o (so_call (ok__law_flag C) (hr.mono (by first | decide | omega)) rfl (takes_of rfl rfl rfl rfl) (sa_cons (se_o (so_call (ok_holds C) (hr.mono (by first | decide | omega)) rfl (takes_of rfl rfl rfl rfl) (sa_cons (se_v (pv 2)) (sa_cons (se_v (pv 13)) (sa_cons (se_v (pv 8)) sa_nil))))) (sa_cons (se_o (so_call (ok__law_so C 7) (hr.mono (by first | decide | omega)) rfl (takes_of rfl rfl rfl rfl) (sa_cons (se_v (pv 13)) (sa_cons (se_v (pv 8)) sa_nil)))) sa_nil)))))) (ss_one (ss_ret (so_e se_bl))) ss_nil)))))))))))))))))))
      (ss_one (ss_ret (so_e se_bl))))))), b_law F, F.kp, C.g_law⟩
end
end S

namespace S
open PySem PySem.Spec PyProof.Rows L2
section
variable {P : Program} {w : World} {K : PySem.W.Frag} {mg : Str → Option Value} {base : Heap}
theorem fn_law (C : Ctx w K mg) {fd : FuncData} (F : FunD K "law" "law" (defArgs s_law) (defBody s_law) (defScope s_law) [] [] (He.ga K "law") fd) : FnOk P w K mg base (L2.CX P w) 14 (He.ga K "law") fd ["_law_script"] (spM K M.f_law) :=
  okM F sc_law rfl rfl (fun cdv A outer s H E hr =>
    (ss_cons (ss_set (i := 1) sc_law.nd rfl (by first | exact Or.inl rfl | exact Or.inr rfl) (so_call (ok__law_hand C) (hr.mono (by first | decide | omega)) rfl (takes_of rfl rfl rfl rfl) (sa_cons (se_v (pv 0)) sa_nil)))
      (ss_cons (ss_set (i := 2) sc_law.nd rfl (by first | exact Or.inl rfl | exact Or.inr rfl) (so_call (ok__law_some_letters C) (hr.mono (by first | decide | omega)) rfl (takes_of rfl rfl rfl rfl) (sa_cons (se_v (pv 1)) sa_nil)))
      (ss_cons (ss_for (passes_of rfl) rfl (si_range1 rfl (C.free_range) se_int) (sg_n 3 sc_law.nd rfl (by first | exact Or.inl rfl | exact Or.inr rfl) (by first | exact Or.inl rfl | exact Or.inr rfl | assumption)) (ss_cons (ss_set (i := 4) sc_law.nd rfl (by first | exact Or.inl rfl | exact Or.inr rfl) (so_call (ok__law_saying C 6) (hr.mono (by first | decide | omega)) rfl (takes_of rfl rfl rfl rfl) (sa_cons (se_v (pv 1)) (sa_cons (se_v (pv 2)) (sa_cons se_int sa_nil)))))
      (ss_cons (ss_set (i := 5) sc_law.nd rfl (by first | exact Or.inl rfl | exact Or.inr rfl) (so_call (ok__law_saying C 6) (hr.mono (by first | decide | omega)) rfl (takes_of rfl rfl rfl rfl) (sa_cons (se_v (pv 1)) (sa_cons (se_v (pv 2)) (sa_cons (se_op op_addU o_add se_int (se_o (so_call (ok__law_draw C) (hr.mono (by first | decide | omega)) rfl (takes_of rfl rfl rfl rfl) (sa_cons (se_v (pv 1)) (sa_cons se_int sa_nil))))) sa_nil)))))
      (ss_cons (ss_set (i := 6) sc_law.nd rfl (by first | exact Or.inl rfl | exact Or.inr rfl) (so_e (se_sl sl_U o_sl (se_v (pv 2)) (sp_so (se_o (so_call (ok__law_draw C) (hr.mono (by first | decide | omega)) rfl (takes_of rfl rfl rfl rfl) (sa_cons (se_v (pv 1)) (sa_cons (se_b1 call_lenU c_len rfl (C.free_len) (by decide +kernel) (se_v (pv 2))) sa_nil))))) sp_no)))
      (ss_one (ss_for (passes_of rfl) rfl (si_range1 rfl (C.free_range) se_int) (sg_n 7 sc_law.nd rfl (by first | exact Or.inl rfl | exact Or.inr rfl) (by first | exact Or.inl rfl | exact Or.inr rfl | assumption)) (ss_cons (ss_set (i := 8) sc_law.nd rfl (by first | exact Or.inl rfl | exact Or.inr rfl) (so_call (ok__law_word C) (hr.mono (by first | decide | omega)) rfl (takes_of rfl rfl rfl rfl) (sa_cons (se_v (pv 1)) (sa_cons (se_ix ix_seq o_ix (se_lst (sa_cons (se_v (pv 2)) (sa_cons (se_v (pv 6)) sa_nil))) (se_op op_mod o_mod (se_v (pv 7)) se_int) (fun _ _ => rfl)) (sa_cons (se_o (so_call (ok__law_draw C) (hr.mono (by first | decide | omega)) rfl (takes_of rfl rfl rfl rfl) (sa_cons (se_v (pv 1)) (sa_cons se_int sa_nil)))) sa_nil)))))
      (ss_cons (ss_set (i := 9) sc_law.nd rfl (by first | exact Or.inl rfl | exact Or.inr rfl) (so_call (ok_holds C) (hr.mono (by first | decide | omega)) rfl (takes_of rfl rfl rfl rfl) (sa_cons (se_v (pv 2)) (sa_cons (se_v (pv 4)) (sa_cons (se_v (pv 8)) sa_nil)))))
      (ss_cons (ss_set (i := 10) sc_law.nd rfl (by first | exact Or.inl rfl | exact Or.inr rfl) (so_call (ok_holds C) (hr.mono (by first | decide | omega)) rfl (takes_of rfl rfl rfl rfl) (sa_cons (se_v (pv 2)) (sa_cons (se_v (pv 5)) (sa_cons (se_v (pv 8)) sa_nil)))))
      (ss_cons (ss_if (st_w (sw_or (st_not (st_e (se_o (so_call (ok__law_flag C) (hr.mono (by first | decide | omega)) rfl (takes_of rfl rfl rfl rfl) (sa_cons (se_v (pv 9)) (sa_cons (se_o (so_call (ok__law_so C 7) (hr.mono (by first | decide | omega)) rfl (takes_of rfl rfl rfl rfl) (sa_cons (se_v (pv 4)) (sa_cons (se_v (pv 8)) sa_nil)))) sa_nil)))))) (sw_or1 (st_not (st_e (se_o (so_call (ok__law_flag C) (hr.mono (by first | decide | omega)) rfl (takes_of rfl rfl rfl rfl) (sa_cons (se_v (pv 10)) (sa_cons (se_o (so_call (ok__law_so C 7) (hr.mono (by first | decide | omega)) rfl (takes_of rfl rfl rfl rfl) (sa_cons (se_v (pv 5)) (sa_cons (se_v (pv 8)) sa_nil)))) sa_nil))))))))) (ss_one (ss_ret (so_e se_bl))) ss_nil)
      (ss_cons (ss_if (st_not (st_e (se_o (so_call (ok__law_flag C) (hr.mono (by first | decide | omega)) rfl (takes_of rfl rfl rfl rfl) (sa_cons (se_o (so_call (ok_holds C) (hr.mono (by first | decide | omega)) rfl (takes_of rfl rfl rfl rfl) (sa_cons (se_v (pv 2)) (sa_cons (se_tup (sa_cons (se_str [110, 111, 116] (by decide +kernel) (by decide +kernel)) (sa_cons (se_v (pv 4)) sa_nil))) (sa_cons (se_v (pv 8)) sa_nil))))) (sa_cons (se_not (se_v (pv 9))) sa_nil)))))) (ss_one (ss_ret (so_e se_bl))) ss_nil)
      (ss_cons (ss_if (st_not (st_e (se_o (so_call (ok__law_flag C) (hr.mono (by first | decide | omega)) rfl (takes_of rfl rfl rfl rfl) (sa_cons (se_o (so_call (ok_holds C) (hr.mono (by first | decide | omega)) rfl (takes_of rfl rfl rfl rfl) (sa_cons (se_v (pv 2)) (sa_cons (se_tup (sa_cons (se_str [97, 110, 100] (by decide +kernel) (by decide +kernel)) (sa_cons (se_v (pv 4)) (sa_cons (se_v (pv 5)) sa_nil)))) (sa_cons (se_v (pv 8)) sa_nil))))) (sa_cons (se_and (se_v (pv 9)) (se_one (se_v (pv 10)))) sa_nil)))))) (ss_one (ss_ret (so_e se_bl))) ss_nil)
      (ss_cons (ss_if (st_not (st_e (se_o (so_call (ok__law_flag C) (hr.mono (by first | decide | omega)) rfl (takes_of rfl rfl rfl rfl) (sa_cons (se_o (so_call (ok_holds C) (hr.mono (by first | decide | omega)) rfl (takes_of rfl rfl rfl rfl) (sa_cons (se_v (pv 2)) (sa_cons (se_tup (sa_cons (se_str [111, 114] (by decide +kernel) (by decide +kernel)) (sa_cons (se_v (pv 4)) (sa_cons (se_v (pv 5)) sa_nil)))) (sa_cons (se_v (pv 8)) sa_nil))))) (sa_cons (se_or (se_v (pv 9)) (se_one (se_v (pv 10)))) sa_nil)))))) (ss_one (ss_ret (so_e se_bl))) ss_nil)
      (ss_cons (ss_set (i := 11) sc_law.nd rfl (by first | exact Or.inl rfl | exact Or.inr rfl) (so_e (se_ix ix_seq o_ix (se_v (pv 2)) (se_o (so_call (ok__law_draw C) (hr.mono (by first | decide | omega)) rfl (takes_of rfl rfl rfl rfl) (sa_cons (se_v (pv 1)) (sa_cons (se_b1 call_lenU c_len rfl (C.free_len) (by decide +kernel) (se_v (pv 2))) sa_nil)))) (fun _ _ => rfl))))
      (ss_one (ss_for (passes_of rfl) rfl (si_seq (se_tup (sa_cons (se_str [99, 117, 116] (by decide +kernel) (by decide +kernel)) (sa_cons (se_str [99, 117, 116, 108, 97, 115, 116] (by decide +kernel) (by decide +kernel)) sa_nil)))) (sg_n 12 sc_law.nd rfl (by first | exact Or.inl rfl | exact Or.inr rfl) (by first | exact Or.inl rfl | exact Or.inr rfl | assumption)) (ss_cons (ss_set (i := 13) sc_law.nd rfl (by first | exact Or.inl rfl | exact Or.inr rfl) (so_e (se_tup (sa_cons (se_v (pv 12)) (sa_cons (se_v (pv 11)) (sa_cons (se_v (pv 4)) (sa_cons (se_v (pv 5)) sa_nil)))))))
      (ss_one (ss_if (st_not (st_e (se_o (so_call (ok__law_flag C) (hr.mono (by first | decide | omega)) rfl (takes_of rfl rfl rfl rfl) (sa_cons (se_o (so_call (ok_holds C) (hr.mono (by first | decide | omega)) rfl (takes_of rfl rfl rfl rfl) (sa_cons (se_v (pv 2)) (sa_cons (se_v (pv 13)) (sa_cons (se_v (pv 8)) sa_nil))))) (sa_cons (se_o (so_call (ok__law_so C 7) (hr.mono (by first | decide | omega)) rfl (takes_of rfl rfl rfl rfl) (sa_cons (se_v (pv 13)) (sa_cons (se_v (pv 8)) sa_nil)))) sa_nil)))))) (ss_one (ss_ret (so_e se_bl))) ss_nil)))))))))))))))))))
      (ss_one (ss_ret (so_e se_bl)))))))
end
end S


open PySem PySem.W PySem.Calls PyProof.Rows
set_option maxRecDepth 100000 in
set_option maxHeartbeats 0 in
theorem PySem.Challenge.cw_saidacross_k08_whole_sayings_of_words_holds : PySem.Challenge.rw_saidacross_k08_whole_sayings_of_words.Holds := by
  w_on; o_law; k_head
  case hw => w_witness2
  case hc =>
    refine L2.walk_ofE (l := PySem.Challenge.rw_saidacross_k08_whole_sayings_of_words) (n := 63) (k := 14) (x := "_law_script") (CX := L2.CX0) rfl (by decide) (by kernel_rfl) ⟨rfl, by decide, by decide⟩ ?F (fun H s e s' z => z)
    intro w mg fa h Y G hmg0
    obtain ⟨K, KX, c⟩ : ∃ K : PySem.W.Frag, K.In h ∧ He.SaysX S.fas S.fns S.tbs [] S.exK w h K := ⟨_, kIn_of Y, { t := (by show He.obsT _ _ _ _ = He.valT _ _ _; kernel_rfl), more := (by kernel_rfl), hd := fun _ z => absurd z List.not_mem_nil, out := fun _ z => absurd z List.not_mem_nil, empty := fun _ z => absurd z List.not_mem_nil }⟩
    have C : S.Ctx w K mg := ⟨⟨_, c⟩, h, KX, G⟩
    have hmg : mg ("law" : PySem.Str) = some (.ref fa) := by
      exact hmg0
    obtain rfl : fa = He.ga K "law" := by
      have e := C.g_law
      rw [hmg] at e
      exact PySem.Value.ref.inj (Option.some.inj e)
    obtain ⟨fd, F⟩ := C.f_law
    refine ⟨K, fd, fun vs H Q _ => S.spM K M.f_law vs H Q L2.E0, KX, fun s u => ?_, ?_, fun base X N => ?_⟩
    · exact F.bindsA (ps := ["_law_script"]) (fun _ _ _ _ _ _ us hl => match us, hl with | [_], _ => rfl) s [u] rfl
    · intro H a ns hn _ hs
      exact S.law_start K H a ns hn hs M.law_true
    · exact S.FnOk.to0 (S.fn_law (P := (PySem.Challenge.rw_saidacross_k08_whole_sayings_of_words).prog) (w := w) (base := base) C F)
