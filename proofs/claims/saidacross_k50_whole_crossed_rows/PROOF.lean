import PyProof.Rows.All
import Wide.All
import OpenK.AllK
import Wide.FinOn
import KE.KStateDown
import KE.GoesNew
import HandS.ForMost
import HandS.Exc
import HandS.TryOnly
import HandS.TryMany
import HandS.ExcOwn
import HandS.ExcBuiltin
import HandS.Small
import HandS.WordsExc
import HandS.IsInst
import HandS.StrMore
import HandS.TupAny
import HandS.Zip
import HandS.Defaults
import HandS.Head0
import HandS.Head1
import HandS.Head2
import HandS.HeadEnd
import HandS.HeadHook1
import HandS.HeadHook2
import HandS.Walk
import KE.GoesMore
import HandS.Iter
import PySem.Challenge.RW_saidacross_k50_whole_crossed_rows
set_option Elab.async false
set_option linter.all false
set_option maxRecDepth 100000
set_option maxHeartbeats 4000000
namespace S
open PySem PySem.Spec PyProof.Rows L2
abbrev St := L2.St

/-! ### rules of more than one kind -/
section
variable {X : Cx}
/-- a text so many times -/
def repS (z : Str) (n : Nat) : Str := ⟨((List.replicate n z.cps.toList).flatten).toArray⟩
theorem foldl_app : ∀ (l : List (Array Nat)) (a : Array Nat), l.foldl (· ++ ·) a = (a.toList ++ (l.map Array.toList).flatten).toArray
  | [], a => by simp
  | b :: r, a => by
    rw [List.foldl_cons, foldl_app r]
    simp
theorem repS_fold (z : Str) (n : Nat) : (⟨(List.replicate n z.cps).foldl (· ++ ·) #[]⟩ : Str) = repS z n := by
  unfold repS
  rw [foldl_app]
  simp
theorem repS_one (z : Str) : repS z 1 = z := by
  obtain ⟨c⟩ := z
  simp [repS]
theorem repS_zero (z : Str) : repS z 0 = Str.empty := by
  simp [repS]
  rfl
theorem repS_empty (z : Str) (h : z.length = 0) (n : Nat) : repS z n = z := by
  obtain ⟨c⟩ := z
  have e : c.toList = [] := by
    have h1 : c.size = 0 := h
    exact List.eq_nil_of_length_eq_zero (by simpa using h1)
  have e2 : c = #[] := by simpa using congrArg List.toArray e
  subst e2
  simp [repS]
theorem repS_length (z : Str) (n : Nat) : (repS z n).length = n * z.length := by
  show ((List.replicate n z.cps.toList).flatten).toArray.size = _
  rw [List.size_toArray, List.length_flatten]
  simp
  rfl
def rMulSI : R2 := fun x y H Q => ∃ z i, x = .str z ∧ y = .int i ∧ i < 2 ^ 62 ∧ -(2 ^ 62) ≤ i ∧ z.length * i.toNat ≤ sizeLine ∧ Q (.str (repS z i.toNat)) H
theorem op_mulSI : OpR X (binaryOp .Mult) rMulSI := by
  intro pins s σ H x y v u Q I rx ry h
  obtain ⟨z, i, rfl, rfl, h1, h2, h3, q⟩ := h
  obtain ⟨t, rfl⟩ := rx
  obtain ⟨t', rfl⟩ := ry
  have h63 : (decide (i < -(2 ^ 63 : Int)) || decide (i ≥ 2 ^ 63)) = false := by
    rw [decide_eq_false (by omega), decide_eq_false (by omega)]; rfl
  have hsz : (sizeLine : Nat) < 2 ^ 62 := by rw [sizeLine_eq]; decide
  refine PySem.P.mul_str h63 (fun hn hz => ?_) (fun hn hz => ?_) ?_
  · intro hg
    have hpos : 0 < i := by omega
    have e : (i.toNat : Int) = i := by omega
    have h4 : (z.length : Int) * i ≤ sizeLine := by
      rw [← e]; exact_mod_cast h3
    have h5 : (2 ^ 63 - 1) / i < (z.length : Int) := hg
    have h6 : (2 ^ 63 - 1 : Int) < z.length * i := by
      have := Int.lt_mul_of_ediv_lt hpos h5
      rw [Int.mul_comm] at this
      first
        | exact this
        | (rw [Int.mul_comm]; exact this)
    omega
  · exact decide_eq_false (by omega)
  · by_cases hn : i < 1
    · rw [if_pos hn]
      have e : i.toNat = 0 := by omega
      rw [e, repS_zero] at q
      exact ⟨by decide, .str Str.empty, H, I.tok _, ⟨_, rfl⟩, q⟩
    · rw [if_neg hn]
      by_cases hz : (i == 1 || z.length == 0) = true
      · rw [if_pos hz]
        have e : repS z i.toNat = z := by
          rcases Bool.or_eq_true_iff.mp hz with h | h
          · have h' : i = 1 := eq_of_beq h
            rw [h']; exact repS_one z
          · exact repS_empty z (eq_of_beq h) _
        rw [e] at q
        exact ⟨.str z, H, I, ⟨_, rfl⟩, q⟩
      · rw [if_neg hz, repS_fold]
        exact ⟨by rw [repS_length, Nat.mul_comm]; omega, .str _, H, I.tok _, ⟨_, rfl⟩, q⟩
def rMulU : R2 := fun x y H Q => rI CMul (fun i j => .int (i * j)) x y H Q ∨ rMulSI x y H Q ∨ rRep x y H Q
theorem op_mulU : OpR X (binaryOp .Mult) rMulU := op_mul.or (op_mulSI.or op_rep)
def rLtS (f : List Nat → List Nat → Bool) : R2 := fun x y H Q => ∃ i j, x = .str i ∧ y = .str j ∧ Q (.bl (f i.cps.toList j.cps.toList)) H
def rCmU (p : Int → Int → Bool) (f : List Nat → List Nat → Bool) : R2 := fun x y H Q => rI0 (fun i j => .bl (p i j)) x y H Q ∨ rLtS f x y H Q
theorem op_ltU : OpR X (compareOp .Lt) (rCmU (fun i j => decide (i < j)) fun a b => decide (a < b)) := op_lt.or (r' := rLtS fun a b => decide (a < b)) op_lt_str
theorem op_leU : OpR X (compareOp .LtE) (rCmU (fun i j => decide (i ≤ j)) fun a b => !decide (b < a)) := op_le.or (r' := rLtS fun a b => !decide (b < a)) op_le_str
theorem op_gtU : OpR X (compareOp .Gt) (rCmU (fun i j => decide (j < i)) fun a b => decide (b < a)) := op_gt.or (r' := rLtS fun a b => decide (b < a)) op_gt_str
theorem op_geU : OpR X (compareOp .GtE) (rCmU (fun i j => decide (j ≤ i)) fun a b => !decide (a < b)) := op_ge.or (r' := rLtS fun a b => !decide (a < b)) op_ge_str
def rAddU (K : PySem.W.Frag) : R2 := fun x y H Q => rI0 (fun i j => .int (i + j)) x y H Q ∨ (∃ i j, x = .str i ∧ y = .str j ∧ i.length + j.length ≤ sizeLine ∧ Q (.str (i ++ j)) H) ∨ rCat x y H Q ∨ rCatA K x y H Q
theorem op_addU : OpR X (binaryOp .Add) (rAddU X.K) := op_add.or (op_add_str.or (op_cat.or op_catA))
def rEqU (K : PySem.W.Frag) : R2 := fun x y H Q => rEq x y H Q ∨ rEqD K x y H Q
theorem op_eqU (hu : X.A.units + 64 < cLine) : OpR X (compareOp .Eq) (rEqU X.K) := op_eq.or (op_eqD hu)
def rNeU (K : PySem.W.Frag) : R2 := fun x y H Q => rNe x y H Q ∨ rNeD K x y H Q
theorem op_neU (hu : X.A.units + 64 < cLine) : OpR X (compareOp .NotEq) (rNeU X.K) := op_ne.or (op_neD hu)
def rInC : R2 := fun x y H Q => ∃ (c : Nat) (z : Str), x = .str ⟨#[c]⟩ ∧ y = .str z ∧ Q (.bl (decide (c ∈ z.cps.toList))) H
def rNotInC : R2 := fun x y H Q => ∃ (c : Nat) (z : Str), x = .str ⟨#[c]⟩ ∧ y = .str z ∧ Q (.bl (!decide (c ∈ z.cps.toList))) H
def rInSS : R2 := fun x y H Q => ∃ i j, x = .str i ∧ y = .str j ∧ Q (.bl (!(Builtin.Str.occurrences j i 0 j.length 1).isEmpty)) H
def rNotInSS : R2 := fun x y H Q => ∃ i j, x = .str i ∧ y = .str j ∧ Q (.bl (!(!(Builtin.Str.occurrences j i 0 j.length 1).isEmpty))) H
def rInU (K : PySem.W.Frag) : R2 := fun x y H Q => rInC x y H Q ∨ rIn K false x y H Q ∨ rInSS x y H Q
def rNotInU (K : PySem.W.Frag) : R2 := fun x y H Q => rNotInC x y H Q ∨ rIn K true x y H Q ∨ rNotInSS x y H Q
theorem op_inU : OpR X (compareOp .In) (rInU X.K) := OpR.or (r := rInC) op_in_sign (op_in_seq.or (r' := rInSS) op_in_str)
theorem op_notInU : OpR X (compareOp .NotIn) (rNotInU X.K) := OpR.or (r := rNotInC) op_notIn_sign (op_notIn_seq.or (r' := rNotInSS) op_notIn_str)
def rSlU (K : PySem.W.Frag) : V → Option Int → Option Int → Hp → VK → Prop := fun x lo hi H Q => rSlL K x lo hi H Q ∨ rSlS x lo hi H Q ∨ rSlA K x lo hi H Q
theorem sl_U : SlR X (rSlU X.K) := sl_list.or (sl_str.or sl_tupA)
def rLenU (K : PySem.W.Frag) : List V → Hp → VK → Prop := fun xs H Q => (∃ z, xs = [.str z] ∧ z.length ≤ sizeLine ∧ Q (.int z.length) H) ∨ (∃ p ys, xs = [.ref p] ∧ (SqL K H p ys ∨ SqT K H p ys) ∧ Q (.int ys.length) H) ∨ (∃ a kvs, xs = [V.ref a] ∧ H a = some (.dK kvs) ∧ Q (.int kvs.length) H)
theorem call_lenU : CallR X (.builtin "len") (rLenU X.K) := call_len_str.or (call_len_seq.or call_lenD)
def rListU (K : PySem.W.Frag) : List V → Hp → VK → Prop := fun xs H Q => (∃ p ys, xs = [.ref p] ∧ (SqL K H p ys ∨ SqT K H p ys) ∧ ∀ l, H l = none → Q (.ref l) (upd H l (.lst ys)))
theorem call_listU : CallR X (.type "list") (rListU X.K) := call_list_of
def rTupleU (K : PySem.W.Frag) : List V → Hp → VK → Prop := fun xs H Q => ∃ p ys, xs = [.ref p] ∧ ((SqL K H p ys ∧ ∀ l, H l = none → Q (.ref l) (upd H l (.tup ys))) ∨ (SqT K H p ys ∧ Q (.ref p) H))
theorem call_tupleU : CallR X (.type "tuple") (rTupleU X.K) := call_tuple_of

def rInt1 : List V → Hp → VK → Prop := fun xs H Q => (∃ i, xs = [.int i] ∧ Q (.int i) H) ∨ ∃ k, xs = [.bl k] ∧ Q (.int (if k then 1 else 0)) H
theorem call_intU : CallR X (.type "int") rInt1 := call_int1
def rAbs1 : List V → Hp → VK → Prop := fun xs H Q => ∃ i, xs = [.int i] ∧ Q (.int (if i < 0 then -i else i)) H
theorem call_absU : CallR X (.builtin "abs") rAbs1 := call_abs
def rMax2 : List V → Hp → VK → Prop := fun xs H Q => ∃ i j, xs = [.int i, .int j] ∧ Q (.int (if j > i then j else i)) H
theorem call_max2U (hc : X.calm = true) : CallR X (.builtin "max") rMax2 := call_max2 hc
def rMin2 : List V → Hp → VK → Prop := fun xs H Q => ∃ i j, xs = [.int i, .int j] ∧ Q (.int (if j < i then j else i)) H
theorem call_min2U (hc : X.calm = true) : CallR X (.builtin "min") rMin2 := call_min2 hc
def rIsN : R2 := fun x y H Q => y = .non ∧ Q (.bl (decide (x = .non))) H
theorem op_isNU : OpR X (compareOp .Is) rIsN := op_isN
def rNotN : R2 := fun x y H Q => y = .non ∧ Q (.bl (!decide (x = .non))) H
theorem op_notNU : OpR X (compareOp .IsNot) rNotN := op_notN

/-! ### names of the module -/
theorem pe_gstr {x z : Str} {pos : Pos} (hg : Gl X x) (h : ∃ t, X.mg x = some (.str z t)) (hd : (x == ("__debug__" : Str)) = false := by decide) : PE X (.Name x pos) (tC (.str z)) := by
  obtain ⟨t, e⟩ := h
  exact pe_glob hg e ⟨t, rfl⟩ hd
theorem pe_gint {x : Str} {i : Int} {pos : Pos} (hg : Gl X x) (h : ∃ t, X.mg x = some (.int i t)) (hd : (x == ("__debug__" : Str)) = false := by decide) : PE X (.Name x pos) (tC (.int i)) := by
  obtain ⟨t, e⟩ := h
  exact pe_glob hg e ⟨t, rfl⟩ hd
theorem pe_gref {x : Str} {a : Addr} {pos : Pos} (hg : Gl X x) (h : X.mg x = some (.ref a)) (hd : (x == ("__debug__" : Str)) = false := by decide) : PE X (.Name x pos) (tC (.ref a)) := pe_glob hg h rfl hd

/-! ### an own exception class, called with nothing -/
theorem pmk_own0 {C : Addr} {bmB : List Value} {B newId initId : String} {x : Str} {p pos : Pos} (F : ExcBaseFacts B newId initId bmB) (q : PySem.W.excIn X.K C bmB newId = true) (gC : X.mg x = some (.ref C))
    (kC : PySem.W.keepIn X.K (.ref C) = true) (r : Raises X (.ref C)) (hg : Gl X x) (hdb : (x == ("__debug__" : Str)) = false := by decide) : PMk X (.Call (.Name x p) [] [] pos) (fun _ H Q => Q (.ref C) none H) := by
  intro pins s σ H Q I h
  refine wpAny_Call_Name_kw (ld_glob I hg gC ?_ hdb)
  refine PySem.W.callWith_K0 I.kIn kC ?_
  show wpAny _ _ (call (.ref C) []) _ _ _
  obtain ⟨bm, N, nm, qn, bs, hdct, sn, sub, ab, col, dd, k0, k1, k2, k3, k5, mN, hC, hN, hni, T⟩ := exc_obj I.kIn q
  refine wpAny_call_exc_subT F T hC hN hni (fun h' e hm => ?_) (Nat.zero_le _)
  exact mk_of I hm r h (I.hok.gone hm.new)
end

/-! ### a def that keeps its promise, found by its name -/
/-- the def x of the module keeps sp, by at most level k -/
def Ok (P : Program) (w : World) (K : PySem.W.Frag) (mg : Str → Option Value) (base : Heap) (k : Nat) (x : Str) (ps : List Str) (sp : Sp) : Prop :=
  ∃ fd, FnOk P w K mg base (L2.CX P w) k (He.ga K x) fd ps sp ∧ Binds K fd ps [] ∧ PySem.W.keepIn K (.ref (He.ga K x)) = true ∧ mg x = some (.ref (He.ga K x))
section
variable {P : Program} {w : World} {K : PySem.W.Frag} {mg : Str → Option Value} {base : Heap}
/-- THE RULE for a def: its body as a term of rules, and the reading of that term -/
theorem okX {x qual : Str} {st : Stmt} {f : Addr} {fd : FuncData} {N ps : List Str} {k : Nat} {sp : Sp} (F : FunD K x qual (defArgs st) (defBody st) (defScope st) [] [] f fd) (S : FnScope N ps (defScope st)) (len : ∀ vs H Q E, sp vs H Q E → vs.length = ps.length)
    (hbody : ∀ (cdv : Value) (A : Around) (outer : List Env) (s : Shared) (H : Hp) (vs : List V) (Q : VK) (E : XK), Room k (A.deeper (envOfC qual (defScope st) s.heap.objs.size f cdv)) → sp vs H Q E →
      ∃ t, PSs (cxOf (L2.CX P w) P w K mg base N qual (defScope st) f cdv A outer s H E) (defBody st) t ∧ t { nx := fun _ H' => Q .non H', rt := Q } (start N vs) H) : FnOk P w K mg base (L2.CX P w) (k + 1) f fd ps sp := F.ok S len hbody
section
variable {X : Cx} {k : Nat} {x : Str} {ps : List Str} {sp : Sp} {p pos : Pos} {e : Expr} {es : List Expr} {t : TA} {W : WX}
theorem pe_callD (F : Ok X.prog X.w X.K X.mg X.base k x ps sp) (hr : Room k X.A) (hg : Gl X x) (tk : Takes X W) (ha : PA X (e :: es) t) (hdb : (x == ("__debug__" : Str)) = false := by decide)
    (he : starEach (e :: es) X.env = (false, eval e X.env) :: starEach es X.env := by rfl) (hpl : (backTo pos (starEach es X.env)).any (·.1) = false := by rfl) : PE X (.Call (.Name x p) (e :: es) [] pos) (tCallS sp (WE W) t) := by
  obtain ⟨fd, F, b, kp, hm⟩ := F
  exact pe_callS F hr hg hm kp b (fun σ => passAt tk σ) ha hdb he hpl
theorem pe_callC (F : Ok X.prog X.w X.K X.mg X.base k x ps sp) (hr : Room k X.A) (hg : Gl X x) (ha : PA X (e :: es) t) (hdb : (x == ("__debug__" : Str)) = false := by decide)
    (he : starEach (e :: es) X.env = (false, eval e X.env) :: starEach es X.env := by rfl) (hpl : (backTo pos (starEach es X.env)).any (·.1) = false := by rfl) : PE X (.Call (.Name x p) (e :: es) [] pos) (tCallS sp (fun _ => E0) t) := by
  obtain ⟨fd, F, b, kp, hm⟩ := F
  refine ⟨fun pins s σ H Q I h => ?_⟩
  refine (pe_call F hr hg hm kp b .nil passL ha hdb he hpl).run pins s σ H Q I ?_
  have e : tCall sp [] E0 t = tCallS sp (fun _ => E0) t := by
    funext σ H Q
    show (t σ H fun vs H1 => sp (vs ++ []) H1 Q E0) = (t σ H fun vs H1 => sp vs H1 Q E0)
    simp only [List.append_nil]
  rw [e]
  exact h
theorem pe_callC0 (F : Ok X.prog X.w X.K X.mg X.base k x ps sp) (hr : Room k X.A) (hg : Gl X x) (hdb : (x == ("__debug__" : Str)) = false := by decide) : PE X (.Call (.Name x p) [] [] pos) (tCallS sp (fun _ => E0) tNil) := by
  obtain ⟨fd, F, b, kp, hm⟩ := F
  exact pe_call0 F hr hg hm kp b .nil passL hdb
theorem pe_callD0 (F : Ok X.prog X.w X.K X.mg X.base k x ps sp) (hr : Room k X.A) (hg : Gl X x) (_tk : Takes X W) (hdb : (x == ("__debug__" : Str)) = false := by decide) : PE X (.Call (.Name x p) [] [] pos) (tCallS sp (fun _ => E0) tNil) := pe_callC0 F hr hg hdb
end
end
end S

namespace S
open PySem PySem.Spec PyProof.Rows L2

/-! ### readings, a step at a time -/
section
variable {K : PySem.W.Frag} {D : Ends} {σ : St} {H H' : Hp} {Q : VK} {t u : TS} {te ta tb tc : TE} {tt tu : TT} {g : TG} {tl : TA} {v x y : V} {i j : Int} {a p : Addr} {xs ys : List V} {z z' : Str} {r : R2}
theorem w_seq (h : t { D with nx := u D } σ H) : tSeq t u D σ H := h
theorem w_next (h : D.nx σ H) : tNext D σ H := h
theorem w_asg (h : te σ H fun x H1 => g x σ H1 D.nx) : tAsg te g D σ H := h
theorem w_gname {n : Nat} {R : St → Hp → Prop} (h : R (σ.set n (some v)) H) : gName n v σ H R := h
theorem w_drop (h : te σ H fun _ H1 => D.nx σ H1) : tDrop te D σ H := h
theorem w_ret (h : te σ H D.rt) : tRet te D σ H := h
theorem w_retN (h : D.rt .non H) : tRetN D σ H := h
theorem w_ifs (h : tt σ H fun b H1 => if b = true then t D σ H1 else u D σ H1) : tIfS tt t u D σ H := h
theorem w_brk (h : D.bk σ H) : tBreak D σ H := h
theorem w_cont (h : D.ct σ H) : tCont D σ H := h
theorem w_nx {n : St → Hp → Prop} {rt : VK} {bk ct : St → Hp → Prop} (h : n σ H) : (Ends.mk n rt bk ct).nx σ H := h
theorem w_rt {n : St → Hp → Prop} {rt : VK} {bk ct : St → Hp → Prop} (h : rt v H) : (Ends.mk n rt bk ct).rt v H := h
theorem w_bk {n : St → Hp → Prop} {rt : VK} {bk ct : St → Hp → Prop} (h : bk σ H) : (Ends.mk n rt bk ct).bk σ H := h
theorem w_ct {n : St → Hp → Prop} {rt : VK} {bk ct : St → Hp → Prop} (h : ct σ H) : (Ends.mk n rt bk ct).ct σ H := h
theorem w_var {n : Nat} (e : σ[n]? = some (some v)) (h : Q v H) : tVar n σ H Q := ⟨v, e, h⟩
theorem w_c (h : Q v H) : tC v σ H Q := h
theorem w_op (h : ta σ H fun x H1 => tb σ H1 fun y H2 => r x y H2 Q) : tOp r ta tb σ H Q := h
theorem w_un {f : V → Hp → VK → Prop} (h : ta σ H fun x H1 => f x H1 Q) : tUn f ta σ H Q := h
theorem w_test {R : Bool → Hp → Prop} (h : te σ H fun x H' => ∃ k, x = .bl k ∧ R k H') : tTest te σ H R := h
theorem w_tB {R : Bool → Hp → Prop} (h : te σ H fun x H' => ∃ k, x = .bl k ∧ R k H') : tB te σ H R := h
theorem w_exb {k : Bool} {R : Bool → Prop} (h : R k) : ∃ k', V.bl k = V.bl k' ∧ R k' := ⟨k, rfl, h⟩
theorem w_and {R : Bool → Hp → Prop} (h : tt σ H fun c H1 => if c = true then tu σ H1 R else R false H1) : tAnd tt tu σ H R := h
theorem w_or {R : Bool → Hp → Prop} (h : tt σ H fun c H1 => if c = true then R true H1 else tu σ H1 R) : tOr tt tu σ H R := h
theorem w_not {R : Bool → Hp → Prop} (h : tt σ H fun c H1 => R (!c) H1) : tNot tt σ H R := h
theorem w_andV (h : ta σ H fun x H1 => ∃ c, x = .bl c ∧ if c = true then tb σ H1 Q else Q (.bl false) H1) : tAndV ta tb σ H Q := h
theorem w_orV (h : ta σ H fun x H1 => ∃ c, x = .bl c ∧ if c = true then Q (.bl true) H1 else tb σ H1 Q) : tOrV ta tb σ H Q := h
theorem w_notV (h : ta σ H fun x H1 => ∃ c, x = .bl c ∧ Q (.bl (!c)) H1) : tNotV ta σ H Q := h
theorem w_tIf (h : tt σ H fun c H1 => if c = true then ta σ H1 Q else tb σ H1 Q) : tIf tt ta tb σ H Q := h
theorem w_cb {f : List V → Hp → VK → Prop} (h : tl σ H fun vs H1 => f vs H1 Q) : tCB f tl σ H Q := h
theorem w_cons {tr : TA} {R : List V → Hp → Prop} (h : te σ H fun x H1 => tr σ H1 fun xs H2 => R (x :: xs) H2) : tCons te tr σ H R := h
theorem w_nil {R : List V → Hp → Prop} (h : R [] H) : tNil σ H R := h
theorem w_call {sp : Sp} {E : St → XK} (h : tl σ H fun vs H1 => sp vs H1 Q (E σ)) : tCallS sp E tl σ H Q := h
theorem w_yes {R : Bool → Hp → Prop} (h : R true H) : tYes σ H R := h
theorem w_for {wi : TI} (h : wi σ H fun J H1 => ∃ W : Nat → Nat → St → Hp → Prop, (∃ m, W 0 m σ H1) ∧ ∀ i m σ H, W i m σ H →
  (J.stop i H ∧ D.nx σ H) ∨ (J.go i H ∧ ∃ N : St → Hp → Prop, (∀ σ' H', N σ' H' → ∃ m', m' < m ∧ W (i + 1) m' σ' H') ∧ ∀ x H', J.yld i H x H' → g x σ H' fun σ2 H2 => t { D with nx := N, ct := N, bk := D.nx } σ2 H2)) : tFor wi g t D σ H := h
theorem w_bm {T : String} {f : V → List V → Hp → VK → Prop} (h : te σ H fun x H1 => tyV K T x H1 ∧ tl σ H1 fun xs H2 => f x xs H2 Q) : tBM K T f te tl σ H Q := h
theorem w_bm0 {T : String} {f : V → List V → Hp → VK → Prop} (h : te σ H fun x H1 => tyV K T x H1 ∧ f x [] H1 Q) : tBM0 K T f te σ H Q := h
theorem w_tyL (e : H p = some (.lst xs)) {A : Prop} (h : A) : tyV K "list" (.ref p) H ∧ A := ⟨.inl ⟨rfl, xs, SqL.of e⟩, h⟩
theorem w_m1 {f : V → List V → Hp → VK → Prop} (h : ta σ H fun x H1 => (∃ a, x = .str a) ∧ tb σ H1 fun y H2 => f x [y] H2 Q) : tM1 f ta tb σ H Q := h
theorem w_m0 {f : V → List V → Hp → VK → Prop} (h : ta σ H fun x H1 => (∃ a, x = .str a) ∧ f x [] H1 Q) : tM0 f ta σ H Q := h
theorem w_tyS {A : Prop} (h : A) : (∃ a, V.str z = .str a) ∧ A := ⟨⟨z, rfl⟩, h⟩
theorem w_sl {f : V → Option Int → Option Int → Hp → VK → Prop} {tl th : TO} (h : te σ H fun x H1 => tl σ H1 fun l H2 => th σ H2 fun u H3 => f x l u H3 Q) : tSl f te tl th σ H Q := h
theorem w_noPart {R : Option Int → Hp → Prop} (h : R none H) : tNoPart σ H R := h
theorem w_part {R : Option Int → Hp → Prop} (h : te σ H fun x H1 => ∃ i, x = .int i ∧ R (some i) H1) : tPart te σ H R := h
theorem w_exi {R : Int → Prop} (h : R i) : ∃ k, V.int i = V.int k ∧ R k := ⟨i, rfl, h⟩
/-! operators -/
theorem w_add (h : Q (.int (i + j)) H) : rAddU K (.int i) (.int j) H Q := .inl ⟨i, j, rfl, rfl, h⟩
theorem w_addS (hl : z.length + z'.length ≤ sizeLine) (h : Q (.str (z ++ z')) H) : rAddU K (.str z) (.str z') H Q := .inr (.inl ⟨z, z', rfl, rfl, hl, h⟩)
theorem w_addL {q : Addr} (h1 : H p = some (.lst xs)) (h2 : H q = some (.lst ys)) (hl : xs.length + ys.length ≤ sizeLine) (h : ∀ l, H l = none → Q (.ref l) (upd H l (.lst (xs ++ ys)))) : rAddU K (.ref p) (.ref q) H Q :=
  .inr (.inr (.inl ⟨p, q, xs, ys, rfl, rfl, h1, h2, hl, h⟩))
theorem w_sub {f : Int → Int → V} (h : Q (f i j) H) : rI0 f (.int i) (.int j) H Q := ⟨i, j, rfl, rfl, h⟩
theorem w_rI {c : Int → Int → Prop} {f : Int → Int → V} (hc : c i j) (h : Q (f i j) H) : rI c f (.int i) (.int j) H Q := ⟨i, j, rfl, rfl, hc, h⟩
theorem w_rU {f : Int → V} (h : Q (f i) H) : rU f (.int i) H Q := ⟨i, rfl, h⟩
theorem w_mul (hc : CMul i j) (h : Q (.int (i * j)) H) : rMulU (.int i) (.int j) H Q := .inl ⟨i, j, rfl, rfl, hc, h⟩
theorem w_mulS (h1 : i < 2 ^ 62) (h2 : -(2 ^ 62) ≤ i) (h3 : z.length * i.toNat ≤ sizeLine) (h : Q (.str (repS z i.toNat)) H) : rMulU (.str z) (.int i) H Q := .inr (.inl ⟨z, i, rfl, rfl, h1, h2, h3, h⟩)
theorem w_eq (hs : scal x y = true) (h : Q (.bl (decide (x = y))) H) : rEqU K x y H Q := .inl ⟨hs, h⟩
theorem w_ne (hs : scal x y = true) (h : Q (.bl (!decide (x = y))) H) : rNeU K x y H Q := .inl ⟨hs, h⟩
theorem w_eqI (h : Q (.bl (decide (i = j))) H) : rEqU K (.int i) (.int j) H Q := w_eq rfl (by rw [show decide (V.int i = V.int j) = decide (i = j) from decide_eq_decide.mpr ⟨fun e => V.int.inj e, fun e => by rw [e]⟩]; exact h)
theorem w_neI (h : Q (.bl (!decide (i = j))) H) : rNeU K (.int i) (.int j) H Q := w_ne rfl (by rw [show decide (V.int i = V.int j) = decide (i = j) from decide_eq_decide.mpr ⟨fun e => V.int.inj e, fun e => by rw [e]⟩]; exact h)
theorem w_eqS (h : Q (.bl (decide (z = z'))) H) : rEqU K (.str z) (.str z') H Q := w_eq rfl (by rw [show decide (V.str z = V.str z') = decide (z = z') from decide_eq_decide.mpr ⟨fun e => V.str.inj e, fun e => by rw [e]⟩]; exact h)
theorem w_neS (h : Q (.bl (!decide (z = z'))) H) : rNeU K (.str z) (.str z') H Q := w_ne rfl (by rw [show decide (V.str z = V.str z') = decide (z = z') from decide_eq_decide.mpr ⟨fun e => V.str.inj e, fun e => by rw [e]⟩]; exact h)
theorem w_eqB {b c : Bool} (h : Q (.bl (decide (b = c))) H) : rEqU K (.bl b) (.bl c) H Q := w_eq rfl (by rw [show decide (V.bl b = V.bl c) = decide (b = c) from decide_eq_decide.mpr ⟨fun e => V.bl.inj e, fun e => by rw [e]⟩]; exact h)
theorem w_neB {b c : Bool} (h : Q (.bl (!decide (b = c))) H) : rNeU K (.bl b) (.bl c) H Q := w_ne rfl (by rw [show decide (V.bl b = V.bl c) = decide (b = c) from decide_eq_decide.mpr ⟨fun e => V.bl.inj e, fun e => by rw [e]⟩]; exact h)
theorem w_eqD {d e : PyData} (h1 : Dp K H x d) (h2 : Dp K H y e) (s1 : SeqAt.shaped d = true) (s2 : SeqAt.shaped e = true) (h : Q (.bl (PyData.eqv d e)) H) : rEqU K x y H Q := .inr ⟨d, e, h1, h2, s1, s2, h⟩
theorem w_neD {d e : PyData} (h1 : Dp K H x d) (h2 : Dp K H y e) (s1 : SeqAt.shaped d = true) (s2 : SeqAt.shaped e = true) (h : Q (.bl (!PyData.eqv d e)) H) : rNeU K x y H Q := .inr ⟨d, e, h1, h2, s1, s2, h⟩
theorem w_cmp {f : Int → Int → Bool} {f' : List Nat → List Nat → Bool} (h : Q (.bl (f i j)) H) : rCmU f f' (.int i) (.int j) H Q := .inl ⟨i, j, rfl, rfl, h⟩
theorem w_cmpS {f : Int → Int → Bool} {f' : List Nat → List Nat → Bool} (h : Q (.bl (f' z.cps.toList z'.cps.toList)) H) : rCmU f f' (.str z) (.str z') H Q := .inr ⟨z, z', rfl, rfl, h⟩
theorem w_inC {c : Nat} (h : Q (.bl (decide (c ∈ z.cps.toList))) H) : rInU K (.str ⟨#[c]⟩) (.str z) H Q := .inl ⟨c, z, rfl, rfl, h⟩
theorem w_notInC {c : Nat} (h : Q (.bl (!decide (c ∈ z.cps.toList))) H) : rNotInU K (.str ⟨#[c]⟩) (.str z) H Q := .inl ⟨c, z, rfl, rfl, h⟩
theorem w_isN (h : Q (.bl (decide (x = .non))) H) : rIsN x .non H Q := ⟨rfl, h⟩
theorem w_notN (h : Q (.bl (!decide (x = .non))) H) : rNotN x .non H Q := ⟨rfl, h⟩
/-! items, slices, len -/
theorem w_ixL (h1 : SqL K H p xs) (h2 : atI xs i = some v) (h : Q v H) : rIx K (.ref p) (.int i) H Q := .inl ⟨p, xs, i, v, rfl, rfl, h1, h2, h⟩
theorem w_ixT (h1 : SqT K H p xs) (h2 : atI xs i = some v) (h : Q v H) : rIx K (.ref p) (.int i) H Q := .inr (.inl ⟨p, xs, i, v, rfl, rfl, h1, h2, h⟩)
theorem w_ixS {c : Nat} (h1 : z.length ≤ sizeLine) (h2 : atI z.cps.toList i = some c) (h : Q (.str ⟨#[c]⟩) H) : rIx K (.str z) (.int i) H Q := .inr (.inr ⟨z, i, c, rfl, rfl, h1, h2, h⟩)
theorem w_lenS (h1 : z.length ≤ sizeLine) (h : Q (.int z.length) H) : rLenU K [.str z] H Q := .inl ⟨z, rfl, h1, h⟩
theorem w_lenL (h1 : SqL K H p xs) (h : Q (.int xs.length) H) : rLenU K [.ref p] H Q := .inr (.inl ⟨p, xs, rfl, .inl h1, h⟩)
theorem w_lenT (h1 : SqT K H p xs) (h : Q (.int xs.length) H) : rLenU K [.ref p] H Q := .inr (.inl ⟨p, xs, rfl, .inr h1, h⟩)
theorem w_slL {lo hi : Option Int} (h1 : SqL K H p xs) (h : ∀ q, H q = none → Q (.ref q) (upd H q (.lst (cutV xs lo hi)))) : rSlU K (.ref p) lo hi H Q := .inl ⟨p, xs, rfl, h1, h⟩
theorem w_slS {lo hi : Option Int} (h1 : z.length ≤ sizeLine) (h : Q (.str (cutS z lo hi)) H) : rSlU K (.str z) lo hi H Q := .inr (.inl ⟨z, rfl, h1, h⟩)
theorem w_int (h : Q (.int i) H) : rInt1 [.int i] H Q := .inl ⟨i, rfl, h⟩
theorem w_intB {b : Bool} (h : Q (.int (if b then 1 else 0)) H) : rInt1 [.bl b] H Q := .inr ⟨b, rfl, h⟩
theorem w_abs (h : Q (.int (if i < 0 then -i else i)) H) : rAbs1 [.int i] H Q := ⟨i, rfl, h⟩
theorem w_max (h : Q (.int (if j > i then j else i)) H) : rMax2 [.int i, .int j] H Q := ⟨i, j, rfl, h⟩
theorem w_min (h : Q (.int (if j < i then j else i)) H) : rMin2 [.int i, .int j] H Q := ⟨i, j, rfl, h⟩
theorem w_isi {n : String} {tv : Value} {b : Bool} (ty : TyX K H x tv) (e : PySem.W.kitOne K tv (.type n) = some b) (h : Q (.bl b) H) : rIsi K [x, .ty n] H Q := ⟨x, .ty n, tv, _, b, rfl, .ty n, ty, e, h⟩
theorem w_append (h1 : H p = some (.lst xs)) (hl : xs.length < sizeLine) (h : Q .non (upd H p (.lst (xs ++ [v])))) : rAppend (.ref p) [v] H Q := ⟨p, xs, v, rfl, rfl, h1, hl, h⟩
theorem w_setL {k : Nat} {R : Hp → Prop} (h1 : H p = some (.lst xs)) (hj : ixN xs.length i = some k) (h : R (upd H p (.lst (xs.set k v)))) : rSetL (.ref p) (.int i) v H R := ⟨p, xs, i, k, rfl, rfl, h1, hj, h⟩
theorem w_gsub {to ti : TE} {f : TSet} {R : St → Hp → Prop} (h : to σ H fun o H1 => ti σ H1 fun i H2 => f o i v H2 fun H3 => R σ H3) : gSub to ti f v σ H R := h
/-! new things -/
def NewT (xs : List V) (H : Hp) (Q : VK) : Prop := xs.length ≤ sizeLine ∧ ∀ p, H p = none → Q (.ref p) (upd H p (.tup xs))
def NewL (xs : List V) (H : Hp) (Q : VK) : Prop := xs.length ≤ sizeLine ∧ ∀ p, H p = none → Q (.ref p) (upd H p (.lst xs))
theorem w_tup (h : tl σ H fun xs H1 => NewT xs H1 Q) : tTup tl σ H Q := h
theorem w_lst (h : tl σ H fun xs H1 => NewL xs H1 Q) : tLst tl σ H Q := h
theorem Same.upd {H : Hp} {p : Addr} {o : HO} (h : H p = none) : Same H (upd H p o) := fun b u e => by
  rw [upd_ne (ne_of_none e h)]; exact e
theorem Same.app (s : Same H H') {o : HO} (h : H p = some o) : H' p = some o := s p o h
theorem w_newT (hl : xs.length ≤ sizeLine) (h : ∀ p H', H p = none → Same H H' → H' p = some (.tup xs) → Q (.ref p) H') : NewT xs H Q := ⟨hl, fun p hp => h p _ hp (Same.upd hp) upd_same⟩
theorem w_newL (hl : xs.length ≤ sizeLine) (h : ∀ p H', H p = none → Same H H' → H' p = some (.lst xs) → Q (.ref p) H') : NewL xs H Q := ⟨hl, fun p hp => h p _ hp (Same.upd hp) upd_same⟩
theorem w_newL' (hl : xs.length ≤ sizeLine) (h : ∀ p, H p = none → Q (.ref p) (upd H p (.lst xs))) : NewL xs H Q := ⟨hl, h⟩
/-! tests that are decided -/
theorem w_iteT {A B : Prop} {b : Bool} (e : b = true) (h : A) : if b = true then A else B := by rw [if_pos e]; exact h
theorem w_iteF {A B : Prop} {b : Bool} (e : b = false) (h : B) : if b = true then A else B := by rw [e]; exact iteF h
theorem w_ite {A B : Prop} {b : Bool} (h1 : b = true → A) (h2 : b = false → B) : if b = true then A else B := by
  cases b with
  | true => exact iteT (h1 rfl)
  | false => exact iteF (h2 rfl)
theorem w_iteN' {A B : Prop} {b : Bool} (h1 : b = false → A) (h2 : b = true → B) : if (!b) = true then A else B := by
  cases b with
  | true => exact iteF (h2 rfl)
  | false => exact iteT (h1 rfl)
theorem w_iteNT {A B : Prop} (h : B) : if (!true) = true then A else B := iteF h
theorem w_iteNF {A B : Prop} (h : A) : if (!false) = true then A else B := iteT h
theorem w_iteD {A B p : Prop} [Decidable p] (h1 : p → A) (h2 : ¬ p → B) : if decide p = true then A else B := by
  by_cases h : p
  · rw [decide_eq_true h]; exact iteT (h1 h)
  · rw [decide_eq_false h]; exact iteF (h2 h)
theorem w_iteN {A B p : Prop} [Decidable p] (h1 : ¬ p → A) (h2 : p → B) : if (!decide p) = true then A else B := by
  by_cases h : p
  · rw [decide_eq_true h]; exact iteF (h2 h)
  · rw [decide_eq_false h]; exact iteT (h1 h)
end

/-! ### ways joined behind a statement -/
/-- t, then u, with a word J between them -/
def tRaise (W : WX) (f : St → Hp → XK → Prop) : TS := fun _ σ H => f σ H fun cls d H' => W cls d σ H'
theorem ps_raiseU {X : Cx} {W : WX} {e : Expr} {t : St → Hp → XK → Prop} {pos : Pos} (hc : X.calm = true) (tk : Takes X W) (he : PMk X e t) : PS X (.Raise (some e) none pos) (tRaise W t) := ps_raise hc tk he
def tMk0 (c : Value) : St → Hp → XK → Prop := fun _ H Q => Q c none H
def tCut (t u : TS) : TS := fun D σ H => ∃ J : St → Hp → Prop, t { D with nx := J } σ H ∧ ∀ σ' H', J σ' H' → u D σ' H'
theorem pss_cut {X : Cx} {st : Stmt} {rest : List Stmt} {t u : TS} (h1 : PS X st t) (h2 : PSs X rest u) : PSs X (st :: rest) (tCut t u) := by
  refine ⟨fun pins s σ H D I h => ?_⟩
  obtain ⟨J, h, k⟩ := h
  refine wpAny_execs_cons (thn (h1.run pins s σ H { D with nx := J } I h) fun f s1 q => ?_)
  cases f with
  | next =>
    obtain ⟨σ', H', I', q⟩ := q
    exact h2.run pins s1 σ' H' D I' (k σ' H' q)
  | ret v => exact q
  | brk => exact q
  | cont => exact q
theorem w_raise {W : WX} {f : St → Hp → XK → Prop} {D : Ends} {σ : St} {H : Hp} (h : f σ H fun cls d H' => W cls d σ H') : tRaise W f D σ H := h
theorem w_mk0 {c : Value} {H : Hp} {σ : St} {E : XK} (h : E c none H) : tMk0 c σ H E := h
theorem w_cut0 {t u : TS} {D : Ends} {σ : St} {H : Hp} (h : t { D with nx := u D } σ H) : tCut t u D σ H := ⟨u D, h, fun _ _ z => z⟩
theorem w_cutJ {t u : TS} {D : Ends} {σ : St} {H : Hp} (J : St → Hp → Prop) (h : t { D with nx := J } σ H) (k : ∀ σ' H', J σ' H' → u D σ' H') : tCut t u D σ H := ⟨J, h, k⟩

/-! ### no exception leaves the law -/
theorem FnOk.to0 {P : Program} {w : World} {K : PySem.W.Frag} {mg : Str → Option Value} {base : Heap} {k : Nat} {f : Addr} {fd : FuncData} {ps : List Str} {sp : Sp} (F : FnOk P w K mg base (L2.CX P w) k f fd ps sp) :
    FnOk P w K mg base CX0 k f fd ps (fun vs H Q _ => sp vs H Q E0) :=
  ⟨fun vs H Q _ h => F.len vs H Q E0 h, fun A outer s H args us vs Q _ hr he hb hv hs => codeAny_mono (F.run A outer s H args us vs Q E0 hr he hb hv hs) fun r s' hq => by
    cases r with
    | error e =>
      obtain ⟨_, _, _, _, _, _, _, _, _, _, _, _, z⟩ := hq
      exact z.elim
    | ok fl =>
      cases fl with
      | ret u => exact hq
      | next => exact hq
      | brk => exact hq
      | cont => exact hq⟩
end S

namespace S
open PySem PySem.Spec PyProof.Rows L2

/-! ### loops by the part that is done -/
section
variable {α : Type} {as : List α} {J : It} {G : Hp → Prop} {Y : α → Hp → V → Hp → Prop} {K : PySem.W.Frag} {D : Ends} {σ : St} {H : Hp} {g : TG} {tb : TS} {tt : TT} {te : TE} {a : Addr}
def WalkP (J : It) (as : List α) (G : Hp → Prop) (Y : α → Hp → V → Hp → Prop) : Prop := Walk J as.length G (fun i H x H' => ∃ z, as[i]? = some z ∧ Y z H x H')
theorem take_split {i : Nat} {z : α} (h : as[i]? = some z) : as = as.take i ++ z :: as.drop (i + 1) ∧ as.take (i + 1) = as.take i ++ [z] := by
  obtain ⟨hi, e⟩ := List.getElem?_eq_some_iff.mp h
  refine ⟨?_, ?_⟩
  · rw [← e]
    simp
  · rw [List.take_add_one, h]
    rfl
/-- what a for asks for: the loop's word -/
def ForW (J : It) (g : TG) (tb : TS) (D : Ends) (σ : St) (H1 : Hp) : Prop := ∃ W : Nat → Nat → St → Hp → Prop, (∃ m, W 0 m σ H1) ∧ ∀ i m σ H, W i m σ H →
  (J.stop i H ∧ D.nx σ H) ∨ (J.go i H ∧ ∃ N : St → Hp → Prop, (∀ σ' H', N σ' H' → ∃ m', m' < m ∧ W (i + 1) m' σ' H') ∧ ∀ x H', J.yld i H x H' → g x σ H' fun σ2 H2 => tb { D with nx := N, ct := N, bk := D.nx } σ2 H2)
def LcW (J : It) (g : TG) (tt : TT) (te : TE) (vs : List Nat) (σ : St) (H1 : Hp) (Q : VK) : Prop := ∀ D, H1 D = none → ∃ W : Nat → Nat → Hp → Prop, (∃ m, W 0 m (upd H1 D (.lst []))) ∧ ∀ i m H, W i m H →
  (J.stop i H ∧ Q (.ref D) H) ∨ (J.go i H ∧ ∃ Nx : Hp → Prop, (∀ H', Nx H' → ∃ m', m' < m ∧ W (i + 1) m' H') ∧ ∀ x H', J.yld i H x H' → g x (wipe σ vs) H' fun σ2 H2 => wipe σ2 vs = wipe σ vs ∧ tt σ2 H2 fun b H3 =>
    if b = true then te σ2 H3 fun y H4 => ∃ acc, H4 D = some (.lst acc) ∧ acc.length < sizeLine ∧ Nx (upd H4 D (.lst (acc ++ [y]))) else Nx H3)
theorem w_forW {wi : TI} (h : wi σ H fun J H1 => ForW J g tb D σ H1) : tFor wi g tb D σ H := h
theorem w_lcW {wi : TI} {vs : List Nat} {Q : VK} (h : wi σ H fun J H1 => LcW J g tt te vs σ H1 Q) : tLc wi g tt te vs σ H Q := h
theorem for_pre (wk : WalkP J as G Y) (Pv : List α → St → Hp → Prop) (h0 : Pv [] σ H) (hG : ∀ d r σ H, as = d ++ r → Pv d σ H → G H)
    (hs : ∀ d z r x σ H H', as = d ++ z :: r → Pv d σ H → Y z H x H' → g x σ H' fun σ2 H2 => tb { D with nx := Pv (d ++ [z]), ct := Pv (d ++ [z]), bk := D.nx } σ2 H2) (hd : ∀ σ H, Pv as σ H → D.nx σ H) : ForW J g tb D σ H := by
  refine for_it wk (fun i σ H => Pv (as.take i) σ H) h0 (fun i σ H hi p => hG _ (as.drop i) σ H (List.take_append_drop i as).symm p) (fun i x σ H H' hi p y => ?_) fun σ H p => hd σ H (by rw [List.take_length] at p; exact p)
  obtain ⟨z, hz, y⟩ := y
  obtain ⟨e1, e2⟩ := take_split hz
  have q := hs _ z _ x σ H H' e1 p y
  rw [e2]
  exact q
theorem lc_pre {vs : List Nat} {Q : VK} (wk : WalkP J as G Y) (Pv : Addr → List α → Hp → Prop) (h0 : ∀ D, H D = none → Pv D [] (upd H D (.lst []))) (hG : ∀ D d r H, as = d ++ r → Pv D d H → G H)
    (hs : ∀ D d z r x H0 H', H D = none → as = d ++ z :: r → Pv D d H0 → Y z H0 x H' → g x (wipe σ vs) H' fun σ2 H2 => wipe σ2 vs = wipe σ vs ∧ tt σ2 H2 fun b H3 =>
      if b = true then te σ2 H3 fun y H4 => ∃ acc, H4 D = some (.lst acc) ∧ acc.length < sizeLine ∧ Pv D (d ++ [z]) (upd H4 D (.lst (acc ++ [y]))) else Pv D (d ++ [z]) H3) (hd : ∀ D H1, H D = none → Pv D as H1 → Q (.ref D) H1) : LcW J g tt te vs σ H Q := by
  intro D hD
  refine lc_it wk (fun i H => Pv D (as.take i) H) (h0 D hD) (fun i H hi p => hG D _ (as.drop i) H (List.take_append_drop i as).symm p) (fun i x H0 H' hi p y => ?_) fun H1 p => hd D H1 hD (by rw [List.take_length] at p; exact p)
  obtain ⟨z, hz, y⟩ := y
  obtain ⟨e1, e2⟩ := take_split hz
  have q := hs D _ z _ x H0 H' hD e1 p y
  rw [e2]
  exact q
/-! what is walked -/
theorem wp_list {f : α → V} : WalkP (Itl K a) as (fun H => SqL K H a (as.map f)) (fun z H x H' => H' = H ∧ x = f z) := by
  have w := walk_list (K := K) (a := a) (xs := as.map f)
  rw [List.length_map] at w
  refine w.mono (fun H h => h) fun i H x H' hi h y => ?_
  obtain ⟨e, y⟩ := y
  rw [List.getElem?_map] at y
  cases q : as[i]? with
  | none => rw [q] at y; cases y
  | some z => rw [q] at y; exact ⟨z, rfl, e, (Option.some.inj y).symm⟩
theorem wp_tup {f : α → V} : WalkP (Itt K a) as (fun H => SqT K H a (as.map f)) (fun z H x H' => H' = H ∧ x = f z) := by
  have w := walk_tup (K := K) (a := a) (xs := as.map f)
  rw [List.length_map] at w
  refine w.mono (fun H h => h) fun i H x H' hi h y => ?_
  obtain ⟨e, y⟩ := y
  rw [List.getElem?_map] at y
  cases q : as[i]? with
  | none => rw [q] at y; cases y
  | some z => rw [q] at y; exact ⟨z, rfl, e, (Option.some.inj y).symm⟩
theorem wp_listV {xs : List V} : WalkP (Itl K a) xs (fun H => SqL K H a xs) (fun z H x H' => H' = H ∧ x = z) := by
  have w := wp_list (K := K) (a := a) (as := xs) (f := id)
  rw [List.map_id] at w
  exact w
theorem wp_tupV {xs : List V} : WalkP (Itt K a) xs (fun H => SqT K H a xs) (fun z H x H' => H' = H ∧ x = z) := by
  have w := wp_tup (K := K) (a := a) (as := xs) (f := id)
  rw [List.map_id] at w
  exact w
theorem wp_str {z : Str} : WalkP (Its z) z.cps.toList (fun _ => True) (fun c H x H' => H' = H ∧ x = .str ⟨#[c]⟩) := by
  have w := walk_str (z := z)
  show Walk (Its z) z.cps.toList.length _ _
  rw [Array.length_toList]
  refine w.mono (fun H h => h) fun i H x H' hi h y => ?_
  obtain ⟨e, c, hc, ex⟩ := y
  exact ⟨c, by rw [← hc]; simp, e, ex⟩
theorem wp_range {lo : Int} {n : Nat} : WalkP (Itr lo n) (List.range n) (fun _ => True) (fun k H x H' => H' = H ∧ x = .int (lo + (k : Nat))) := by
  have w := walk_range (lo := lo) (n := n)
  show Walk (Itr lo n) (List.range n).length _ _
  rw [List.length_range]
  refine w.mono (fun H h => h) fun i H x H' hi h y => ?_
  exact ⟨i, by rw [List.getElem?_range hi], y.1, y.2⟩
/-- a loop over range(lo, lo + n), by the number of the turn -/
theorem for_rng {lo : Int} {n : Nat} (Pv : Nat → St → Hp → Prop) (h0 : Pv 0 σ H)
    (hs : ∀ i σ H, i < n → Pv i σ H → g (.int (lo + (i : Nat))) σ H fun σ2 H2 => tb { D with nx := Pv (i + 1), ct := Pv (i + 1), bk := D.nx } σ2 H2) (hd : ∀ σ H, Pv n σ H → D.nx σ H) : ForW (Itr lo n) g tb D σ H := for_range Pv h0 hs hd
theorem lc_rng {lo : Int} {n : Nat} {vs : List Nat} {Q : VK} (Pv : Addr → Nat → Hp → Prop) (h0 : ∀ D, H D = none → Pv D 0 (upd H D (.lst [])))
    (hs : ∀ D i H0, H D = none → i < n → Pv D i H0 → g (.int (lo + (i : Nat))) (wipe σ vs) H0 fun σ2 H2 => wipe σ2 vs = wipe σ vs ∧ tt σ2 H2 fun b H3 =>
      if b = true then te σ2 H3 fun y H4 => ∃ acc, H4 D = some (.lst acc) ∧ acc.length < sizeLine ∧ Pv D (i + 1) (upd H4 D (.lst (acc ++ [y]))) else Pv D (i + 1) H3) (hd : ∀ D H1, H D = none → Pv D n H1 → Q (.ref D) H1) : LcW (Itr lo n) g tt te vs σ H Q := by
  intro D hD
  exact lc_range (fun i H => Pv D i H) (h0 D hD) (fun i H0 hi p => hs D i H0 hD hi p) fun H1 p => hd D H1 hD p
theorem w_iStr {R : It → Hp → Prop} {te : TE} (h : te σ H fun v H1 => ∃ x, v = .str x ∧ R (Its x) H1) : iStr te σ H R := h
theorem w_iList {R : It → Hp → Prop} {te : TE} (h : te σ H fun v H1 => ∃ b, v = .ref b ∧ (∃ xs, SqL K H1 b xs) ∧ R (Itl K b) H1) : iList K te σ H R := h
theorem w_iTup {R : It → Hp → Prop} {te : TE} (h : te σ H fun v H1 => ∃ b, v = .ref b ∧ (∃ xs, SqT K H1 b xs) ∧ R (Itt K b) H1) : iTup K te σ H R := h
theorem w_exs {z : Str} {R : Str → Prop} (h : R z) : ∃ x, V.str z = .str x ∧ R x := ⟨z, rfl, h⟩
theorem w_itl {xs : List V} {R : Addr → Prop} (h1 : SqL K H a xs) (h : R a) : ∃ b, V.ref a = .ref b ∧ (∃ xs, SqL K H b xs) ∧ R b := ⟨a, rfl, ⟨xs, h1⟩, h⟩
theorem w_itt {xs : List V} {R : Addr → Prop} (h1 : SqT K H a xs) (h : R a) : ∃ b, V.ref a = .ref b ∧ (∃ xs, SqT K H b xs) ∧ R b := ⟨a, rfl, ⟨xs, h1⟩, h⟩
theorem w_iRng1 {R : It → Hp → Prop} {tl : TA} (h : tl σ H fun vs H1 => ∃ j : Int, vs = [.int j] ∧ -(2 ^ 62) ≤ j ∧ j < 2 ^ 62 ∧ R (Itr 0 j.toNat) H1) : iRng1 tl σ H R := h
theorem w_iRng2 {R : It → Hp → Prop} {tl : TA} (h : tl σ H fun vs H1 => ∃ i j : Int, vs = [.int i, .int j] ∧ (-(2 ^ 62) ≤ i ∧ i < 2 ^ 62 ∧ -(2 ^ 62) ≤ j ∧ j < 2 ^ 62) ∧ R (Itr i (j - i).toNat) H1) : iRng2 tl σ H R := h
theorem w_rng1 {j : Int} {R : Int → Prop} (h1 : -(2 ^ 62) ≤ j) (h2 : j < 2 ^ 62) (h : R j) : ∃ k : Int, [V.int j] = [.int k] ∧ -(2 ^ 62) ≤ k ∧ k < 2 ^ 62 ∧ R k := ⟨j, rfl, h1, h2, h⟩
theorem w_rng2 {i j : Int} {R : Int → Int → Prop} (h1 : -(2 ^ 62) ≤ i ∧ i < 2 ^ 62 ∧ -(2 ^ 62) ≤ j ∧ j < 2 ^ 62) (h : R i j) : ∃ k l : Int, [V.int i, V.int j] = [.int k, .int l] ∧ (-(2 ^ 62) ≤ k ∧ k < 2 ^ 62 ∧ -(2 ^ 62) ≤ l ∧ l < 2 ^ 62) ∧ R k l := ⟨i, j, rfl, h1, h⟩
end

/-! ### the heap but one place -/
def del (H : Hp) (p : Addr) : Hp := fun b => if b = p then none else H b
section
variable {H H' : Hp} {p q : Addr} {o : HO}
theorem del_same : del H p p = none := if_pos rfl
theorem del_ne (h : q ≠ p) : del H p q = H q := if_neg h
theorem del_upd : del (upd H p o) p = del H p := by
  funext b
  unfold del upd
  split <;> rfl
theorem Same.del : Same (del H p) H := fun b u e => by
  unfold S.del at e
  split at e
  · cases e
  · exact e
theorem Same.dels (s : Same H H') : Same (S.del H p) (S.del H' p) := fun b u e => by
  unfold S.del at e ⊢
  split at e
  · cases e
  · rename_i h
    rw [if_neg h]
    exact s b u e
/-- what stood before p was made is not p -/
theorem Same.to_del (s : Same H H') (h : H p = none) : Same H (S.del H' p) := fun b u e => by
  rw [del_ne (ne_of_none e h)]
  exact s b u e
theorem Same.into (s : Same H (S.del H' p)) : Same H H' := s.trans Same.del
theorem del_new (hp : H' p ≠ none) (hn : H' q = none) : S.del (upd H' q o) p = upd (S.del H' p) q o := by
  have n : q ≠ p := fun e => hp (e ▸ hn)
  funext b
  by_cases h : b = p
  · rw [h, del_same, upd_ne (Ne.symm n), del_same]
  · rw [del_ne h]
    by_cases h2 : b = q
    · rw [h2, upd_same, upd_same]
    · rw [upd_ne h2, upd_ne h2, del_ne h]
theorem seqT {K : PySem.W.Frag} {a : Addr} {xs : List V} (e : Same H H') (h : SqT K H a xs) : SqT K H' a xs := by
  rcases h with (h | ⟨o, h⟩) | h
  · exact .inl (.inl (e _ _ h))
  · exact .inl (.inr ⟨o, e _ _ h⟩)
  · exact .inr h
end

/-! ### data -/
mutual
theorem Dp.same {K : PySem.W.Frag} {H H' : Hp} (s : Same H H') : ∀ {d : PyData} {v : V}, Dp K H v d → Dp K H' v d
  | _, _, .non => .non
  | _, _, .bl b => .bl b
  | _, _, .int i => .int i
  | _, _, .str x => .str x
  | _, _, .lst h r => .lst (Same.seq s h) (DpAll.same s r)
  | _, _, .tup h r => .tup (seqT s h) (DpAll.same s r)
theorem DpAll.same {K : PySem.W.Frag} {H H' : Hp} (s : Same H H') : ∀ {ds : List PyData} {vs : List V}, DpAll K H vs ds → DpAll K H' vs ds
  | _, _, .nil => .nil
  | _, _, .cons h r => .cons (Dp.same s h) (DpAll.same s r)
end
end S

namespace S
open PySem PySem.Spec PyProof.Rows L2

/-! ### the drawing hand as one thing: a list of cells and four numbers, which ones left open -/
def HandO (c a : Addr) : HO := .ext fun h => ∃ (its : List Value) (n : Nat) (i s t k : Int), Vals [.ref c, .int i, .int s, .int t, .int k] its ∧ h.get? a = some { cls := .type "list", data := .seq its.toArray n } ∧ 0 ≤ i
/-- a hand stands at a -/
def Hand (H : Hp) (a : Addr) : Prop := ∃ (c : Addr) (ns : List Int), H a = some (HandO c a) ∧ H c = some (.lst (ns.map V.int))
theorem Hand.same {H H' : Hp} {a : Addr} (s : Same H H') (h : Hand H a) : Hand H' a := by
  obtain ⟨c, ns, h1, h2⟩ := h
  exact ⟨c, ns, s _ _ h1, s _ _ h2⟩

section
variable {P : Program} {w : World} {H H' : Hp} {h h' : Heap} {a c : Addr} {o o' : HO} {fs : List Addr}
/-- the same place told otherwise: no place that others lean on -/
def Loose : HO → Prop
  | .lst _ => True
  | .ext _ => True
  | _ => False
theorem hok_retell (ok : HOk P w H h) (e : H a = some o) (l : Loose o) (l' : Loose o') (n : ObjOk P w (upd H a o') h a o') : HOk P w (upd H a o') h := fun b u q => by
  by_cases hb : b = a
  · subst hb
    rw [upd_same] at q
    cases q
    exact n
  · rw [upd_ne hb] at q
    refine (ok b u q).stay (fun _ _ _ z => z) (fun d z => ?_) fun d xs z => ?_
    · have nd : d ≠ a := fun y => by
        rw [y, e] at z
        cases z
        exact l
      rw [upd_ne nd]; exact z
    · have nd : d ≠ a := fun y => by
        rw [y, e] at z
        cases z
        exact l
      rw [upd_ne nd]; exact z
/-- the change of a call, told from the other telling -/
theorem un_retell (un : Un fs [] (upd H a o') H' h h') (e : H a = some o) (l : Loose o) : Un fs [] H H' h h' where
  keep := fun b u q n => un.keep b u q (by rw [upd_ne (fun z => by rw [z, e] at n; cases n)]; exact n)
  slot := fun b u q n => un.slot b u q (by rw [upd_ne (fun z => by rw [z, e] at n; cases n)]; exact n)
  free := fun b u q n => un.free b u q (by rw [upd_ne (fun z => by rw [z, e] at n; cases n)]; exact n)
  there := un.there
  tups := fun b xs q => un.tups b xs (by rw [upd_ne (fun z => by rw [z, e] at q; cases q; exact l)]; exact q)
  frzs := fun b u v q => un.frzs b u v (by rw [upd_ne (fun z => by rw [z, e] at q; cases q; exact l)]; exact q)
  tbls := fun b ps q => un.tbls b ps (by rw [upd_ne (fun z => by rw [z, e] at q; cases q; exact l)]; exact q)
/-- the end's heap told otherwise -/
theorem un_after (un : Un fs [] H H' h h') (e : H' a = some o) (l : Loose o) : Un fs [] H (upd H' a o') h h' where
  keep := un.keep
  slot := un.slot
  free := fun b u q n z => by
    have f := un.free b u q n z
    rw [upd_ne (fun y => by rw [y, e] at f; cases f)]
    exact f
  there := un.there
  tups := fun b xs q => by
    have f := un.tups b xs q
    rw [upd_ne (fun y => by rw [y, e] at f; cases f; exact l)]
    exact f
  frzs := fun b u v q => by
    have f := un.frzs b u v q
    rw [upd_ne (fun y => by rw [y, e] at f; cases f; exact l)]
    exact f
  tbls := fun b ps q => by
    obtain ⟨m, f⟩ := un.tbls b ps q
    refine ⟨m, ?_⟩
    rw [upd_ne (fun y => by rw [y, e] at f; cases f; exact l)]
    exact f
end

/-- the promise of _law_draw over the list itself -/
def spDraw0 (C : Int → Prop) : Sp := fun vs H Q _ => ∃ (a c : Addr) (ns : List Int) (i s t k m : Int), vs = [.ref a, .int m] ∧ H a = some (.lst [.ref c, .int i, .int s, .int t, .int k]) ∧ H c = some (.lst (ns.map V.int)) ∧ a ≠ c ∧ 0 ≤ i ∧ C m ∧
  ∀ d i' s' t' k' : Int, 0 ≤ d → d < m → 0 ≤ i' → Q (.int d) (upd H a (.lst [.ref c, .int i', .int s', .int t', .int k']))
/-- the promise of _law_draw: a number below m, and nothing changes -/
def spDraw (C : Int → Prop) : Sp := fun vs H Q _ => ∃ (a : Addr) (m : Int), vs = [.ref a, .int m] ∧ Hand H a ∧ C m ∧ ∀ d : Int, 0 ≤ d → d < m → Q (.int d) H
def CDraw (m : Int) : Prop := 0 < m ∧ m < 1073741824
section
variable {P : Program} {w : World} {K : PySem.W.Frag} {mg : Str → Option Value} {base : Heap} {k : Nat} {f : Addr} {fd : FuncData} {ps : List Str}
theorem draw_conv {C : Int → Prop} (hps : ps.length = 2) (F : FnOk P w K mg base (L2.CX P w) k f fd ps (spDraw0 C)) : FnOk P w K mg base (L2.CX P w) k f fd ps (spDraw C) := by
  refine ⟨fun vs H Q E h => ?_, fun A outer s H args us vs Q E hr he hb hv hs => ?_⟩
  · obtain ⟨a, m, rfl, _⟩ := h
    rw [hps]; rfl
  · obtain ⟨a, m, rfl, ⟨c, ns, ha, hc⟩, hm, k⟩ := hs
    have hac : a ≠ c := fun e => by rw [e, hc] at ha; cases ha
    obtain ⟨its, n, i, s0, t, kk, rv, hg, hi⟩ : ∃ (its : List Value) (n : Nat) (i s0 t k : Int), Vals [.ref c, .int i, .int s0, .int t, .int k] its ∧ s.heap.get? a = some { cls := .type "list", data := .seq its.toArray n } ∧ 0 ≤ i := (he.hok a _ ha).1
    have n1 : ObjOk P w (upd H a (.lst [.ref c, .int i, .int s0, .int t, .int kk])) s.heap a (.lst [.ref c, .int i, .int s0, .int t, .int kk]) := ⟨by show 5 ≤ sizeLine; decide, its, n, rv, hg⟩
    have ok1 : HOk P w (upd H a (.lst [.ref c, .int i, .int s0, .int t, .int kk])) s.heap := hok_retell he.hok ha True.intro True.intro n1
    have he1 : Env0 P w K mg base A outer s (upd H a (.lst [.ref c, .int i, .int s0, .int t, .int kk])) := ⟨he.frames, he.mod, fun b o q => ⟨(he.bs b o q).1, by
        have z := (he.bs b o q).2
        rw [upd_ne (fun y => by rw [y, ha] at z; cases z)]; exact z⟩, he.bsz, he.funs, fun b q => by
        have z := he.frf b q
        rw [upd_ne (fun y => by rw [y, ha] at z; cases z)]; exact z, ok1, he.bare⟩
    refine codeAny_mono (F.run A outer s _ args us _ (fun v H2 => ∃ i' s' t' k' : Int, 0 ≤ i' ∧ H2 = upd (upd H a (.lst [.ref c, .int i, .int s0, .int t, .int kk])) a (.lst [.ref c, .int i', .int s', .int t', .int k']) ∧ Q v H) E0 hr he1 hb hv ?_) fun r s2 hq => ?_
    · refine ⟨a, c, ns, i, s0, t, kk, m, rfl, upd_same, by rw [upd_ne (Ne.symm hac)]; exact hc, hac, hi, hm, fun d i' s2 t' k' h1 h2 h3 => ⟨i', s2, t', k', h3, rfl, k d h1 h2⟩⟩
    · cases r with
      | error e =>
        obtain ⟨_, _, _, _, _, _, _, _, _, _, _, _, z⟩ := hq
        exact z.elim
      | ok fl =>
        cases fl with
        | ret u =>
          obtain ⟨v, H2, os, bare, un, hok2, rv2, i', s3, t', k', h3, e2, q⟩ := hq
          have e3 : H2 a = some (.lst [.ref c, .int i', .int s3, .int t', .int k']) := by rw [e2, upd_same]
          have e4 : upd H2 a (HandO c a) = H := by
            rw [e2, upd_upd, upd_upd]
            funext b
            by_cases hb : b = a
            · rw [hb, upd_same, ha]
            · rw [upd_ne hb]
          have n2 : ObjOk P w (upd H2 a (HandO c a)) s2.heap a (HandO c a) := by
            obtain ⟨_, its2, n3, rv3, hg3⟩ := (show ObjOk P w H2 s2.heap a (.lst [.ref c, .int i', .int s3, .int t', .int k']) from hok2 a _ e3)
            refine ⟨⟨its2, n3, i', s3, t', k', rv3, hg3, h3⟩, ⟨_, hg3⟩, fun g1 g2 hp kp => ?_⟩
            obtain ⟨i1, n4, x1, x2, x3, x4, y1, y2, y3⟩ := hp
            exact ⟨i1, n4, x1, x2, x3, x4, y1, kp _ y2, y3⟩
          have ok3 : HOk P w (upd H2 a (HandO c a)) s2.heap := hok_retell hok2 e3 True.intro True.intro n2
          have un3 := un_after (o' := HandO c a) (un_retell un ha True.intro) e3 True.intro
          rw [e4] at ok3 un3
          exact ⟨v, H, os, bare, un3, ok3, rv2, q⟩
        | next => exact hq
        | brk => exact hq
        | cont => exact hq

/-- the promise of _law_hand over the list itself -/
def spHand0 (K : PySem.W.Frag) : Sp := fun vs H Q _ => ∃ (a : Addr) (ns : List Int), vs = [.ref a] ∧ SqL K H a (ns.map V.int) ∧ ns.length ≤ 63 ∧
  ∀ (p c : Addr) (ms : List Int) (i s t k : Int) (H' : Hp), H p = none → Same H H' → H' p = some (.lst [.ref c, .int i, .int s, .int t, .int k]) → H' c = some (.lst (ms.map V.int)) → 0 ≤ i → Q (.ref p) H'
def spHand (K : PySem.W.Frag) : Sp := fun vs H Q _ => ∃ (a : Addr) (ns : List Int), vs = [.ref a] ∧ SqL K H a (ns.map V.int) ∧ ns.length ≤ 63 ∧
  ∀ (p : Addr) (H' : Hp), H p = none → Same H H' → Hand H' p → Q (.ref p) H'
theorem hand_conv (hps : ps.length = 1) (F : FnOk P w K mg base (L2.CX P w) k f fd ps (spHand0 K)) : FnOk P w K mg base (L2.CX P w) k f fd ps (spHand K) := by
  refine ⟨fun vs H Q E h => ?_, fun A outer s H args us vs Q E hr he hb hv hs => ?_⟩
  · obtain ⟨a, ns, rfl, _⟩ := h
    rw [hps]; rfl
  · obtain ⟨a, ns, rfl, hS, hl, kk⟩ := hs
    refine codeAny_mono (F.run A outer s H args us _ (fun v H' => ∃ (p c : Addr) (ms : List Int) (i s t k : Int), v = .ref p ∧ H p = none ∧ Same H H' ∧ H' p = some (.lst [.ref c, .int i, .int s, .int t, .int k]) ∧ H' c = some (.lst (ms.map V.int)) ∧ 0 ≤ i) E0 hr he hb hv
      ⟨a, ns, rfl, hS, hl, fun p c ms i s t k H' h1 h2 h3 h4 h5 => ⟨p, c, ms, i, s, t, k, rfl, h1, h2, h3, h4, h5⟩⟩) fun r s2 hq => ?_
    cases r with
    | error e =>
      obtain ⟨_, _, _, _, _, _, _, _, _, _, _, _, z⟩ := hq
      exact z.elim
    | ok fl =>
      cases fl with
      | ret u =>
        obtain ⟨v, H2, os, bare, un, hok2, rv2, p, c, ms, i', s3, t', k', rfl, h1, h2, e3, h4, h5⟩ := hq
        have hpc : p ≠ c := fun e => by
          rw [e, h4] at e3
          have := HO.lst.inj (Option.some.inj e3)
          cases ms with
          | nil => cases this
          | cons x r =>
            have z := (List.cons.inj this).1
            cases z
        have n2 : ObjOk P w (upd H2 p (HandO c p)) s2.heap p (HandO c p) := by
          obtain ⟨_, its2, n3, rv3, hg3⟩ := (show ObjOk P w H2 s2.heap p (.lst [.ref c, .int i', .int s3, .int t', .int k']) from hok2 p _ e3)
          refine ⟨⟨its2, n3, i', s3, t', k', rv3, hg3, h5⟩, ⟨_, hg3⟩, fun g1 g2 hp kp => ?_⟩
          obtain ⟨i1, n4, x1, x2, x3, x4, y1, y2, y3⟩ := hp
          exact ⟨i1, n4, x1, x2, x3, x4, y1, kp _ y2, y3⟩
        have ok3 : HOk P w (upd H2 p (HandO c p)) s2.heap := hok_retell hok2 e3 True.intro True.intro n2
        have un3 := un_after (o' := HandO c p) un e3 True.intro
        refine ⟨.ref p, _, os, bare, un3, ok3, rv2, kk p _ h1 (fun b u q => ?_) ⟨c, ms, upd_same, by rw [upd_ne (Ne.symm hpc)]; exact h4⟩⟩
        rw [upd_ne (ne_of_none q h1)]
        exact h2 b u q
      | next => exact hq
      | brk => exact hq
      | cont => exact hq
end
end S

namespace S
open PySem PySem.Spec PyProof.Rows L2

theorem pg_tupK {X : Cx} {es : List Expr} {k} {pos : Pos} {t : TGs} {n : Nat} (K : PySem.W.Frag) (hK : X.K = K) (hc : X.calm = true) (hn : (assignEach es X.env).length = n) (hst : (assignEach es X.env).findIdx? (·.1) = none) (h : PGs X es t) : PG X (.Tuple es k pos) (gTup K n t) := hK ▸ pg_tup hc h hn hst
theorem opK {X : Cx} {K : PySem.W.Frag} {o} (r : PySem.W.Frag → R2) (hK : X.K = K) (h : OpR X o (r X.K)) : OpR X o (r K) := hK ▸ h
theorem slK {X : Cx} {K : PySem.W.Frag} (r : PySem.W.Frag → V → Option Int → Option Int → Hp → VK → Prop) (hK : X.K = K) (h : L2.SlR X (r X.K)) : L2.SlR X (r K) := hK ▸ h
theorem ixK {X : Cx} {K : PySem.W.Frag} (r : PySem.W.Frag → R2) (hK : X.K = K) (h : IxR X (r X.K)) : IxR X (r K) := hK ▸ h
theorem callK {X : Cx} {K : PySem.W.Frag} {f} (r : PySem.W.Frag → List V → Hp → VK → Prop) (hK : X.K = K) (h : CallR X f (r X.K)) : CallR X f (r K) := hK ▸ h
theorem pg_tupU {X : Cx} {es : List Expr} {k} {pos : Pos} {t : TGs} {n : Nat} (hc : X.calm = true) (hn : (assignEach es X.env).length = n) (hst : (assignEach es X.env).findIdx? (·.1) = none) (h : PGs X es t) : PG X (.Tuple es k pos) (gTup X.K n t) := pg_tup hc h hn hst
theorem pgs_consU {X : Cx} {e : Expr} {es : List Expr} {t : TG} {u : TGs} (hs : (assignEach (e :: es) X.env).map (·.2) = assign e X.env :: (assignEach es X.env).map (·.2)) (h1 : PG X e t) (h2 : PGs X es u) : PGs X (e :: es) (gCons t u) := pgs_cons h1 h2 hs
theorem pg_nameU {X : Cx} {pos : Pos} {x : Str} (i : Nat) (hN : X.N.Nodup) (hi : X.N[i]? = some x) (hx : Loc X.env.scope x) (hf : X.fn x = true ∨ X.env.scope.names.lookup x = some .local) : PG X (.Name x pos) (gName i) := pg_name hN hi hx hf

/-! ### data that may be compared -/
def Sh (n : Nat) (d : PyData) : Prop := d.canLay0 = true ∧ d.depth ≤ n
theorem Sh.shaped {n : Nat} {d : PyData} (h : Sh n d) (hn : n ≤ 64) : SeqAt.shaped d = true := by
  unfold SeqAt.shaped
  rw [h.1, Bool.true_and]
  exact decide_eq_true (Nat.le_trans h.2 hn)
theorem Sh.mono {n m : Nat} {d : PyData} (h : Sh n d) (e : n ≤ m) : Sh m d := ⟨h.1, Nat.le_trans h.2 e⟩
theorem Sh.int {n : Nat} {i : Int} : Sh n (.int i) := ⟨rfl, Nat.zero_le _⟩
theorem Sh.bool {n : Nat} {b : Bool} : Sh n (.bool b) := ⟨rfl, Nat.zero_le _⟩
theorem Sh.none {n : Nat} : Sh n .none := ⟨rfl, Nat.zero_le _⟩
theorem Sh.str {n : Nat} {z : Str} (h : ∀ c ∈ z.cps.toList, c < 128) : Sh n (.str z) := by
  refine ⟨?_, Nat.zero_le _⟩
  show PyData.strOk z = true
  unfold PyData.strOk
  rw [Array.all_eq_true']
  intro c hc
  have := h c (by simpa using hc)
  simp only [decide_eq_true_eq]
  omega
theorem Sh.all {n : Nat} : ∀ {ds : List PyData}, (∀ d ∈ ds, Sh n d) → PyData.canLayAll0 ds = true ∧ PyData.depthAll ds ≤ n
  | [], _ => ⟨rfl, Nat.zero_le _⟩
  | d :: r, h => by
    have h1 := h d (by simp)
    have h2 := Sh.all (ds := r) fun x hx => h x (by simp [hx])
    refine ⟨?_, ?_⟩
    · show (d.canLay0 && PyData.canLayAll0 r) = true
      rw [h1.1, h2.1]
      rfl
    · show max d.depth (PyData.depthAll r) ≤ n
      exact Nat.max_le.mpr ⟨h1.2, h2.2⟩
theorem Sh.list {n : Nat} {ds : List PyData} (h : ∀ d ∈ ds, Sh n d) : Sh (n + 1) (.list ds) := ⟨(Sh.all h).1, Nat.succ_le_succ (Sh.all h).2⟩
theorem Sh.tuple {n : Nat} {ds : List PyData} (h : ∀ d ∈ ds, Sh n d) : Sh (n + 1) (.tuple ds) := ⟨(Sh.all h).1, Nat.succ_le_succ (Sh.all h).2⟩
theorem Sh.all_inv {n : Nat} : ∀ {ds : List PyData}, PyData.canLayAll0 ds = true → PyData.depthAll ds ≤ n → ∀ d ∈ ds, Sh n d
  | [], _, _ => fun d hd => by cases hd
  | a :: r, h1, h2 => fun d hd => by
    obtain ⟨q1, q2⟩ := Bool.and_eq_true_iff.mp (show (a.canLay0 && PyData.canLayAll0 r) = true from h1)
    obtain ⟨q3, q4⟩ := Nat.max_le.mp (show max a.depth (PyData.depthAll r) ≤ n from h2)
    rcases List.mem_cons.mp hd with rfl | hd
    · exact ⟨q1, q3⟩
    · exact Sh.all_inv q2 q4 d hd
theorem Sh.list_inv {n : Nat} {ds : List PyData} (h : Sh (n + 1) (.list ds)) : ∀ d ∈ ds, Sh n d := by
  obtain ⟨h1, h2⟩ := h
  have h1 : PyData.canLayAll0 ds = true := h1
  have h2 : PyData.depthAll ds + 1 ≤ n + 1 := h2
  exact Sh.all_inv h1 (by omega)
theorem eqv_same {n : Nat} {d : PyData} (h : Sh n d) : PyData.eqv d d = true := SeqAt.eqv_refl d h.1

section
variable {K : PySem.W.Frag} {H H' : Hp} {v : V} {vs : List V} {ds es : List PyData} {p : Addr} {xs : List V}
theorem DpAll.append : ∀ {vs ws : List V} {ds es : List PyData}, DpAll K H vs ds → DpAll K H ws es → DpAll K H (vs ++ ws) (ds ++ es)
  | _, _, _, _, .nil, h => h
  | _, _, _, _, .cons a r, h => .cons a (DpAll.append r h)
theorem DpAll.length : ∀ {vs : List V} {ds : List PyData}, DpAll K H vs ds → vs.length = ds.length
  | _, _, .nil => rfl
  | _, _, .cons _ r => congrArg (· + 1) (DpAll.length r)
theorem DpAll.split : ∀ {a b : List V} {ds : List PyData}, DpAll K H (a ++ b) ds → ∃ d e, ds = d ++ e ∧ DpAll K H a d ∧ DpAll K H b e
  | [], b, ds, h => ⟨[], ds, rfl, .nil, h⟩
  | x :: a, b, _, .cons h r => by
    obtain ⟨d, e, rfl, h1, h2⟩ := DpAll.split (a := a) r
    exact ⟨_ :: d, e, rfl, .cons h h1, h2⟩
theorem DpAll.get : ∀ {vs : List V} {ds : List PyData} {i : Nat} {d : PyData}, DpAll K H vs ds → ds[i]? = some d → ∃ v, vs[i]? = some v ∧ Dp K H v d
  | _, _, _, _, .nil, e => by cases e
  | _, _, 0, _, .cons h _, e => ⟨_, rfl, by rw [← Option.some.inj e]; exact h⟩
  | _, _, i + 1, _, .cons _ r, e => DpAll.get (i := i) r e
theorem DpAll.takes : ∀ {vs : List V} {ds : List PyData} (n : Nat), DpAll K H vs ds → DpAll K H (vs.take n) (ds.take n)
  | _, _, 0, _ => .nil
  | _, _, n + 1, .nil => .nil
  | _, _, n + 1, .cons a r => .cons a (DpAll.takes n r)
theorem DpAll.drops : ∀ {vs : List V} {ds : List PyData} (n : Nat), DpAll K H vs ds → DpAll K H (vs.drop n) (ds.drop n)
  | _, _, 0, h => h
  | _, _, n + 1, .nil => .nil
  | _, _, n + 1, .cons a r => DpAll.drops n r
theorem Dp.intE {i j : Int} (h : i = j) : Dp K H (.int i) (.int j) := by
  rw [h]; exact .int _
theorem Dp.int_inv {i : Int} (h : Dp K H v (.int i)) : v = .int i := by cases h; rfl
theorem Dp.str_inv {z : Str} (h : Dp K H v (.str z)) : v = .str z := by cases h; rfl
theorem Dp.bool_inv {b : Bool} (h : Dp K H v (.bool b)) : v = .bl b := by cases h; rfl
theorem Dp.none_inv (h : Dp K H v .none) : v = .non := by cases h; rfl
theorem Dp.tup_inv (h : Dp K H v (.tuple ds)) : ∃ p xs, v = .ref p ∧ SqT K H p xs ∧ DpAll K H xs ds := by
  cases h with
  | tup h1 h2 => exact ⟨_, _, rfl, h1, h2⟩
theorem Dp.lst_inv (h : Dp K H v (.list ds)) : ∃ p xs, v = .ref p ∧ SqL K H p xs ∧ DpAll K H xs ds := by
  cases h with
  | lst h1 h2 => exact ⟨_, _, rfl, h1, h2⟩
theorem DpAll.ints : ∀ {vs : List V} {ns : List Int}, DpAll K H vs (ns.map PyData.int) → vs = ns.map V.int
  | _, [], .nil => rfl
  | _, n :: ns, .cons h r => by
    rw [Dp.int_inv h, DpAll.ints r]
    rfl
theorem DpAll.of_ints : ∀ {ns : List Int}, DpAll K H (ns.map V.int) (ns.map PyData.int)
  | [] => .nil
  | n :: ns => .cons (.int n) DpAll.of_ints
theorem DpAll.strs : ∀ {vs : List V} {zs : List Str}, DpAll K H vs (zs.map PyData.str) → vs = zs.map V.str
  | _, [], .nil => rfl
  | _, n :: ns, .cons h r => by
    rw [Dp.str_inv h, DpAll.strs r]
    rfl
theorem DpAll.of_strs : ∀ {ns : List Str}, DpAll K H (ns.map V.str) (ns.map PyData.str)
  | [] => .nil
  | n :: ns => .cons (.str n) DpAll.of_strs
theorem tyT (h : SqT K H p xs) : TyX K H (.ref p) (.type "tuple") := by
  rcases h with (h | ⟨o, h⟩) | ⟨o, its, n, h, c, _⟩
  · exact .base (.tup h)
  · exact .fTuple h
  · exact .kTuple h c
theorem tyL (h : SqL K H p xs) : TyX K H (.ref p) (.type "list") := by
  rcases h with (h | ⟨o, h⟩) | ⟨o, its, n, h, c, _⟩
  · exact .base (.lst h)
  · exact .base (.frz h)
  · exact .kList h c
/-- the type's name of a datum -/
def tyn : PyData → String
  | .none => "NoneType" | .bool _ => "bool" | .int _ => "int" | .str _ => "str" | .list _ => "list" | .tuple _ => "tuple" | .dict _ => "dict"
theorem _root_.L2.Dp.ty {d : PyData} (h : Dp K H v d) : TyX K H v (.type (tyn d)) := by
  cases h with
  | non => exact .base .non
  | bl b => exact .base (.bl b)
  | int i => exact .base (.int i)
  | str z => exact .base (.str z)
  | lst h1 _ => exact tyL h1
  | tup h1 _ => exact tyT h1
/-- isinstance(x, T) of a datum -/
theorem w_isiD {Q : VK} {d : PyData} {n : String} {b : Bool} (hd : Dp K H v d) (e : kitB (tyn d) n = some b) (h : Q (.bl b) H) : rIsi K [v, .ty n] H Q := w_isi hd.ty (kit_ty e) h
theorem w_isiT {Q : VK} {t n : String} {b : Bool} (ty : TyX K H v (.type t)) (e : kitB t n = some b) (h : Q (.bl b) H) : rIsi K [v, .ty n] H Q := w_isi ty (kit_ty e) h
/-! targets -/
variable {σ : St} {R : St → Hp → Prop}
theorem w_gtup {n : Nat} {t : TGs} (h1 : SqT K H p xs) (hl : xs.length = n) (h : t xs σ H R) : gTup K n t (.ref p) σ H R := ⟨p, xs, rfl, h1, hl, h⟩
theorem w_gcons {t : TG} {u : TGs} (h : t v σ H fun σ' H' => u vs σ' H' R) : gCons t u (v :: vs) σ H R := ⟨v, vs, rfl, h⟩
theorem w_gnil (h : R σ H) : gNil [] σ H R := ⟨rfl, h⟩
theorem w_wipe {σ2 : St} {l : List Nat} {A : Prop} (e : wipe σ2 l = wipe σ l) (h : A) : wipe σ2 l = wipe σ l ∧ A := ⟨e, h⟩
end
/-- signs of a text that is one sign -/
theorem one_len (c : Nat) : (⟨#[c]⟩ : Str).length = 1 := rfl
theorem str_ext {a b : Str} (h : a.cps.toList = b.cps.toList) : a = b := by
  obtain ⟨a⟩ := a
  obtain ⟨b⟩ := b
  have : a = b := by simpa using congrArg List.toArray h
  rw [this]
theorem app_list (a b : Str) : (a ++ b).cps.toList = a.cps.toList ++ b.cps.toList := by
  show (a.cps ++ b.cps).toList = _
  simp
theorem len_list (a : Str) : a.length = a.cps.toList.length := by
  show a.cps.size = _
  simp

/-! ### slices -/
section
variable {α β : Type}
def cutG (xs : List α) (lo hi : Option Int) : List α := (xs.drop (HT.sIx xs.length 0 lo)).take (HT.sIx xs.length xs.length hi - HT.sIx xs.length 0 lo)
theorem cutG_V (xs : List V) (lo hi : Option Int) : cutV xs lo hi = cutG xs lo hi := rfl
theorem cutG_S (z : Str) (lo hi : Option Int) : (cutS z lo hi).cps.toList = cutG z.cps.toList lo hi := by
  unfold cutS cutG
  rw [len_list]
theorem cutG_map (f : α → β) (xs : List α) (lo hi : Option Int) : cutG (xs.map f) lo hi = (cutG xs lo hi).map f := by
  unfold cutG
  rw [List.length_map, List.map_take, List.map_drop]
theorem cutG_to (xs : List α) (n : Nat) : cutG xs none (some (n : Int)) = xs.take n := by
  unfold cutG
  rw [HT.sIx_none, HT.sIx_nat, List.drop_zero, Nat.sub_zero, List.take_eq_take_iff]
  omega
theorem cutG_from (xs : List α) (n : Nat) : cutG xs (some (n : Int)) none = xs.drop n := by
  unfold cutG
  rw [HT.sIx_none, HT.sIx_nat, ← List.length_drop, List.take_length]
  by_cases h : n ≤ xs.length
  · rw [Nat.min_eq_left h]
  · rw [Nat.min_eq_right (by omega), List.drop_length, List.drop_eq_nil_of_le (by omega)]
theorem cutG_nn (xs : List α) (a b : Nat) (h : b ≤ xs.length) : cutG xs (some (a : Int)) (some (b : Int)) = (xs.drop a).take (b - a) := by
  unfold cutG
  rw [HT.sIx_nat, HT.sIx_nat, Nat.min_eq_left h]
  by_cases h2 : a ≤ xs.length
  · rw [Nat.min_eq_left h2]
  · rw [Nat.min_eq_right (by omega), List.drop_length, List.drop_eq_nil_of_le (by omega), List.take_nil, List.take_nil]
theorem cutG_init (xs : List α) : cutG xs none (some (-1)) = xs.dropLast := by
  unfold cutG
  have e : HT.sIx xs.length xs.length (some (-1)) = xs.length - 1 := by
    have e1 : HT.sIx xs.length xs.length (some (-1)) = ((-1 : Int) + (xs.length : Int)).toNat := rfl
    rw [e1]
    omega
  rw [HT.sIx_none, e, List.drop_zero, Nat.sub_zero, List.dropLast_eq_take]
theorem cutG_last (xs : List α) : cutG xs (some (-1)) none = xs.drop (xs.length - 1) := by
  unfold cutG
  have e : HT.sIx xs.length 0 (some (-1)) = xs.length - 1 := by
    have e1 : HT.sIx xs.length 0 (some (-1)) = ((-1 : Int) + (xs.length : Int)).toNat := rfl
    rw [e1]
    omega
  rw [HT.sIx_none, e, ← List.length_drop, List.take_length]
end
end S

namespace S
open PySem PySem.Spec PyProof.Rows L2
section
variable {K : PySem.W.Frag} {H : Hp} {J : It} {g : TG} {tt : TT} {te : TE} {vs : List Nat} {σ : St} {Q : VK} {G : Hp → Prop}
theorem w_slLs {H : Hp} {p : Addr} {xs : List V} {lo hi : Option Int} (h1 : SqL K H p xs) (h : ∀ q H', H q = none → Same H H' → H' q = some (.lst (cutV xs lo hi)) → Q (.ref q) H') : rSlU K (.ref p) lo hi H Q := w_slL h1 fun q hq => h q _ hq (Same.upd hq) upd_same
theorem w_addLs {H : Hp} {p q : Addr} {xs ys : List V} (h1 : H p = some (.lst xs)) (h2 : H q = some (.lst ys)) (hl : xs.length + ys.length ≤ sizeLine) (h : ∀ l H', H l = none → Same H H' → H' l = some (.lst (xs ++ ys)) → Q (.ref l) H') : rAddU K (.ref p) (.ref q) H Q := w_addL h1 h2 hl fun q hq => h q _ hq (Same.upd hq) upd_same
theorem w_tupL {H : Hp} {p : Addr} {xs : List V} (h1 : SqL K H p xs) (h : ∀ l H', H l = none → Same H H' → H' l = some (.tup xs) → Q (.ref l) H') : rTupleU K [.ref p] H Q := ⟨p, xs, rfl, .inl ⟨h1, fun l hl => h l _ hl (Same.upd hl) upd_same⟩⟩
theorem w_tupT {H : Hp} {p : Addr} {xs : List V} (h1 : SqT K H p xs) (h : Q (.ref p) H) : rTupleU K [.ref p] H Q := ⟨p, xs, rfl, .inr ⟨h1, h⟩⟩
theorem ixN_zero (n : Nat) : ixN (n + 1) 0 = some 0 := by
  unfold ixN
  rw [if_pos (by omega)]
  rw [if_pos (by omega)]
  rfl
theorem sz1 {c : Nat} : (⟨#[c]⟩ : Str).length ≤ sizeLine := show 1 ≤ sizeLine by decide
theorem szN {n : Nat} (h : n ≤ 100000) : n ≤ sizeLine := Nat.le_trans h (by decide)
theorem DpAll.at {H : Hp} : ∀ {d r : List V} {x : V} {ds : List PyData}, DpAll K H (d ++ x :: r) ds → ∃ e, ds[d.length]? = some e ∧ Dp K H x e ∧ ds.take (d.length + 1) = ds.take d.length ++ [e] := by
  intro d r x ds h
  obtain ⟨a, b, rfl, h1, h2⟩ := DpAll.split h
  cases h2 with
  | cons h3 h4 =>
    have hl := DpAll.length h1
    rename_i e es
    have e1 : (a ++ e :: es)[d.length]? = some e := by rw [List.getElem?_append_right (by omega), hl, Nat.sub_self]; rfl
    refine ⟨_, e1, h3, ?_⟩
    rw [List.take_add_one, e1]
    rfl
theorem _root_.L2.Dp.t2 {v : V} {d e : PyData} (h : Dp K H v (.tuple [d, e])) : ∃ p x y, v = .ref p ∧ SqT K H p [x, y] ∧ Dp K H x d ∧ Dp K H y e := by
  obtain ⟨p, xs, rfl, q, a⟩ := Dp.tup_inv h
  cases a with
  | cons a1 a => cases a with
    | cons a2 a => cases a; exact ⟨p, _, _, rfl, q, a1, a2⟩
theorem _root_.L2.Dp.t3 {v : V} {d e f : PyData} (h : Dp K H v (.tuple [d, e, f])) : ∃ p x y z, v = .ref p ∧ SqT K H p [x, y, z] ∧ Dp K H x d ∧ Dp K H y e ∧ Dp K H z f := by
  obtain ⟨p, xs, rfl, q, a⟩ := Dp.tup_inv h
  cases a with
  | cons a1 a => cases a with
    | cons a2 a => cases a with
      | cons a3 a => cases a; exact ⟨p, _, _, _, rfl, q, a1, a2, a3⟩
theorem put_into {H H0 H4 : Hp} {D : Addr} {acc : List V} {ds : List PyData} {y : V} {e : PyData} (h0 : H0 D = some (.lst acc)) (s : Same H (del H0 D)) (dp : DpAll K (del H0 D) acc ds) (s4 : Same H0 H4) (dy : Dp K (del H4 D) y e) :
    H4 D = some (.lst acc) ∧ Same H (del (upd H4 D (.lst (acc ++ [y]))) D) ∧ DpAll K (del (upd H4 D (.lst (acc ++ [y]))) D) (acc ++ [y]) (ds ++ [e]) := by
  rw [del_upd]
  exact ⟨s4 _ _ h0, s.trans (Same.dels s4), DpAll.append (DpAll.same (Same.dels s4) dp) (.cons dy .nil)⟩
/-- a comprehension over told data: each one's answer, or none -/
theorem lc_fm {xs : List V} {ds : List PyData} (F : PyData → Option PyData) (wk : WalkP J xs G (fun z H x H' => H' = H ∧ x = z)) (hG : ∀ H', Same H H' → G H') (dx : DpAll K H xs ds) (hl : xs.length < sizeLine)
    (hs : ∀ (D : Addr) (x : V) (d : PyData) (H0 : Hp) (acc : List V) (Put : VK) (Skip : Hp → Prop), H D = none → H0 D = some (.lst acc) → Same H (del H0 D) → d ∈ ds → Dp K (del H0 D) x d → (∀ e, F d = some e → ∀ y H4, Same H0 H4 → Dp K (del H4 D) y e → Put y H4) → (F d = none → ∀ H3, Same H0 H3 → Skip H3) →
      g x (wipe σ vs) H0 fun σ2 H2 => wipe σ2 vs = wipe σ vs ∧ tt σ2 H2 fun b H3 => if b = true then te σ2 H3 Put else Skip H3)
    (hd : ∀ D ys H1, H D = none → Same H (del H1 D) → H1 D = some (.lst ys) → DpAll K (del H1 D) ys (ds.filterMap F) → Q (.ref D) H1) : LcW J g tt te vs σ H Q := by
  have hlen := DpAll.length dx
  refine lc_pre wk (fun D d H' => ∃ acc, H' D = some (.lst acc) ∧ acc.length ≤ d.length ∧ Same H (del H' D) ∧ DpAll K (del H' D) acc ((ds.take d.length).filterMap F)) (fun D hD => ⟨[], upd_same, Nat.le_refl _, ?_, .nil⟩) (fun D d r H' e p => ?_) (fun D d z r x H0 H' hD e p y => ?_) fun D H1 hD p => ?_
  · rw [del_upd]
    exact Same.to_del (fun _ _ e => e) hD
  · obtain ⟨acc, _, _, s, _⟩ := p
    exact hG _ (Same.into s)
  · obtain ⟨acc, h0, hle, s, dp⟩ := p
    obtain ⟨rfl, rfl⟩ := y
    obtain ⟨el, e1, dz, e2⟩ := DpAll.at (e ▸ dx)
    have hlt : d.length < xs.length := by rw [e, List.length_append]; exact Nat.lt_add_of_pos_right (Nat.succ_pos _)
    refine hs D x el H' acc _ _ hD h0 s (List.mem_of_getElem? e1) (Dp.same s dz) (fun f hf y H4 s4 dy => ?_) (fun hf H3 s3 => ?_)
    · obtain ⟨p1, p2, p3⟩ := put_into h0 s dp s4 dy
      refine ⟨acc, p1, Nat.lt_of_le_of_lt hle (Nat.lt_trans hlt hl), acc ++ [y], upd_same, by rw [List.length_append, List.length_append]; exact Nat.succ_le_succ hle, p2, ?_⟩
      rw [List.length_append]
      show DpAll _ _ _ ((ds.take (d.length + 1)).filterMap F)
      rw [e2, List.filterMap_append]
      show DpAll _ _ _ (_ ++ List.filterMap F [el])
      rw [List.filterMap_cons, hf]
      exact p3
    · refine ⟨acc, s3 _ _ h0, by rw [List.length_append]; exact Nat.le_succ_of_le hle, s.trans (Same.dels s3), ?_⟩
      rw [List.length_append]
      show DpAll _ _ _ ((ds.take (d.length + 1)).filterMap F)
      rw [e2, List.filterMap_append]
      show DpAll _ _ _ (_ ++ List.filterMap F [el])
      rw [List.filterMap_cons, hf]
      show DpAll _ _ _ (_ ++ [])
      rw [List.append_nil]
      exact DpAll.same (Same.dels s3) dp
  · obtain ⟨acc, h0, _, s, dp⟩ := p
    rw [hlen, List.take_length] at dp
    exact hd D acc H1 hD s h0 dp
/-- a comprehension over told data without a test -/
theorem lc_dp {xs : List V} {ds : List PyData} (F : PyData → PyData) (wk : WalkP J xs G (fun z H x H' => H' = H ∧ x = z)) (hG : ∀ H', Same H H' → G H') (dx : DpAll K H xs ds) (hl : xs.length < sizeLine)
    (hs : ∀ (D : Addr) (x : V) (d : PyData) (H0 : Hp) (acc : List V) (Put : VK) (Skip : Hp → Prop), H D = none → H0 D = some (.lst acc) → Same H (del H0 D) → d ∈ ds → Dp K (del H0 D) x d → (∀ y H4, Same H0 H4 → Dp K (del H4 D) y (F d) → Put y H4) →
      g x (wipe σ vs) H0 fun σ2 H2 => wipe σ2 vs = wipe σ vs ∧ tt σ2 H2 fun b H3 => if b = true then te σ2 H3 Put else Skip H3)
    (hd : ∀ D ys H1, H D = none → Same H (del H1 D) → H1 D = some (.lst ys) → DpAll K (del H1 D) ys (ds.map F) → Q (.ref D) H1) : LcW J g tt te vs σ H Q := by
  refine lc_fm (fun d => some (F d)) wk hG dx hl (fun D x d H0 acc Put Skip hD h0 s hm dx put _ => hs D x d H0 acc Put Skip hD h0 s hm dx (put _ rfl)) fun D ys H1 hD s h d => hd D ys H1 hD s h ?_
  rw [← List.filterMap_eq_map]
  exact d
/-- a comprehension over a range -/
theorem lcr_dp {lo : Int} {n : Nat} (F : Nat → PyData) (hl : n < sizeLine)
    (hs : ∀ (D : Addr) (i : Nat) (H0 : Hp) (acc : List V) (Put : VK) (Skip : Hp → Prop), H D = none → i < n → H0 D = some (.lst acc) → Same H (del H0 D) → (∀ y H4, Same H0 H4 → Dp K (del H4 D) y (F i) → Put y H4) →
      g (.int (lo + (i : Nat))) (wipe σ vs) H0 fun σ2 H2 => wipe σ2 vs = wipe σ vs ∧ tt σ2 H2 fun b H3 => if b = true then te σ2 H3 Put else Skip H3)
    (hd : ∀ D ys H1, H D = none → Same H (del H1 D) → H1 D = some (.lst ys) → DpAll K (del H1 D) ys ((List.range n).map F) → Q (.ref D) H1) : LcW (Itr lo n) g tt te vs σ H Q := by
  refine lc_rng (fun D i H' => ∃ acc, H' D = some (.lst acc) ∧ acc.length ≤ i ∧ Same H (del H' D) ∧ DpAll K (del H' D) acc ((List.range i).map F)) (fun D hD => ⟨[], upd_same, Nat.le_refl _, ?_, .nil⟩) (fun D i H0 hD hi p => ?_) fun D H1 hD p => ?_
  · rw [del_upd]
    exact Same.to_del (fun _ _ e => e) hD
  · obtain ⟨acc, h0, hle, s, dp⟩ := p
    refine hs D i H0 acc _ _ hD hi h0 s fun y H4 s4 dy => ?_
    obtain ⟨p1, p2, p3⟩ := put_into h0 s dp s4 dy
    refine ⟨acc, p1, Nat.lt_of_le_of_lt hle (Nat.lt_trans hi hl), acc ++ [y], upd_same, by rw [List.length_append]; exact Nat.succ_le_succ hle, p2, ?_⟩
    rw [List.range_succ, List.map_append]
    exact p3
  · obtain ⟨acc, h0, _, s, dp⟩ := p
    exact hd D acc H1 hD s h0 dp
end
end S

namespace S
open PySem PySem.Spec PyProof.Rows L2
/-! ### walking two texts side by side -/
def ItP (xs ys : Nat → Option V) (n : Nat) : It :=
  ⟨fun i _ => i < n, fun i H v H' => ∃ T x y, v = .ref T ∧ H T = none ∧ H' = upd H T (.tup [x, y]) ∧ xs i = some x ∧ ys i = some y, fun i _ => i = n⟩
theorem walk_P {xs ys : Nat → Option V} {n : Nat} : Walk (ItP xs ys n) n (fun _ => True) (YPair xs ys) :=
  ⟨fun i _ hi _ => hi, fun _ _ => rfl, fun i H v H' _ _ y => y⟩
/-- an iterator of new pairs, as the hand wants it -/
theorem turn_pair {P : Program} {w : World} {K : PySem.W.Frag} {tg : Expr} {z : Addr} {fp wr : List Addr} {n : Nat} {P1 P2 : Nat → Value → Prop} {St : Nat → Heap → Prop} {xs ys : Nat → Option V}
    (W : ∀ A : Around, A.handled = none → GoesN P w A tg z fp wr n (fun i h₀ v h => ∃ T x y, v = .ref T ∧ h₀.objs.size ≤ T ∧ P1 i x ∧ P2 i y ∧ h.IsTuple T #[x, y]) St) (hz : z ∈ fp) (sf : ∀ (A : Around) (i : Nat) (s : Shared) (Q : Value → Shared → Prop) (E : Value → Shared → Prop), St i s.heap → Q (.ref z) s → wpAny (model P w) A (pyIter (.ref z)) Q E s)
    (ob : ∀ i h, St i h → ∀ b ∈ fp, ∃ o, h.get? b = some o ∧ ∀ v, o.data ≠ .cell v) (r1 : ∀ i u, i < n → P1 i u → ∃ x, xs i = some x ∧ RelV x u) (r2 : ∀ i u, i < n → P2 i u → ∃ x, ys i = some x ∧ RelV x u) :
    Turn P w K tg (ItP xs ys n) fp z St where
  mem := hz
  obj := ob
  keep := fun i h h' st k => (W callerA rfl).frame i h h' st k
  item := by
    intro X hP hw hK hc i pins s σ H E I hf st hg
    subst hP hw hK
    have Wa := W X.A (I.ok.hd hc)
    refine Wa.goes i s _ E hg st fun v h' tk hY st' hk htk => ?_
    obtain ⟨T, u1, u2, rfl, hT, p1, p2, o, ho, hoc, m, hod⟩ := hY
    obtain ⟨x, hx, rx⟩ := r1 i u1 hg p1
    obtain ⟨y, hy, ry⟩ := r2 i u2 hg p2
    have new : ObjOk X.prog X.w (upd H T (.tup [x, y])) h' T (.tup [x, y]) := ⟨by show 2 ≤ sizeLine; decide, [u1, u2], .cons rx (.cons ry .nil), ⟨_, ho, hoc, _, hod⟩⟩
    have I1 : Inv X pins σ (upd H T (.tup [x, y])) { s with heap := h', toks := tk } :=
      I.turnedNew (t' := tk) (ch := fp) (fun b o hb q => hk b o (fun z => hb (Wa.sub b z)) q) hf hT new
    refine ⟨.ref T, _, I1, rfl, ⟨T, x, y, rfl, I.hok.fresh hT, rfl, hx, hy⟩, st', fun b hb => ?_⟩
    obtain ⟨ob1, hob, _⟩ := ob i s.heap st b hb
    rw [upd_ne (Nat.ne_of_lt (Nat.lt_of_lt_of_le (Heap.lt_size hob) hT))]
    exact (hf b hb).1
  done := by
    intro X hP hw hK hc i pins s σ H E I hf st hg
    subst hP hw hK
    have Wa := W X.A (I.ok.hd hc)
    have hg' : i = n := hg
    subst hg'
    exact Wa.stops s _ E st fun h' tk hk htk => I.turnedL (t' := tk) (ch := fp) (fun b o hb q => hk b o (fun z => hb (Wa.sub b z)) q) hf
  self := sf
def chS (z : Str) (i : Nat) : Option V := (z.cps.toList[i]?).map fun c => .str ⟨#[c]⟩
theorem chS_ok {z : Str} {i : Nat} {u : Value} (h : ∃ c t, z.cps[i]? = some c ∧ u = .str ⟨#[c]⟩ t) : ∃ x, chS z i = some x ∧ RelV x u := by
  obtain ⟨c, t, hc, rfl⟩ := h
  refine ⟨.str ⟨#[c]⟩, ?_, ⟨t, rfl⟩⟩
  unfold chS
  rw [show z.cps.toList[i]? = some c by rw [← hc]; simp]
  rfl
def iZipS (ta : TA) : TI := fun σ H R => ta σ H fun vs H1 => ∃ x y : Str, vs = [.str x, .str y] ∧ R (ItP (chS x) (chS y) (min x.cps.size y.cps.size)) H1
theorem pi_zipS {X : Cx} {e e2 : Expr} {ta : TA} {p pos tpos : Pos} {elts : List Expr} {kk} (hg : Gl X "zip") (hm : X.mg "zip" = none) (ha : PA X [e, e2] ta)
    (hs : starEach [e, e2] X.env = (false, eval e X.env) :: starEach [e2] X.env := by rfl) (hpl : (backTo pos (starEach [e2] X.env)).any (·.1) = false := by rfl) :
    PI X (.Tuple elts kk tpos) (.Call (.Name "zip" p) [e, e2] [] pos) (iZipS ta) := by
  refine ⟨fun pins s σ H R I h => ?_⟩
  refine Call_ (ld_blt I hg hm PyProof.Rows.boot_zip (PyProof.Rows.callWith_type1 (thn (ha.run pos pins s σ H _ I h) fun us s1 ⟨vs, H1, I1, r1, q1⟩ => ?_) hs hpl))
  obtain ⟨x, y, ex, q⟩ := q1
  subst ex
  cases r1 with
  | cons r rr =>
    cases rr with
    | cons r' rr =>
      cases rr
      obtain ⟨t1, rfl⟩ := r
      obtain ⟨t2, rfl⟩ := r'
      refine zip_begins2 (begins_text x _) (begins_text y _) True.intro True.intro fun h' hz hTI hTO h1 h2 hsz hk => wpAny_pyIter_zip hz ?_
      have I2 : Inv X pins σ H1 { s1 with heap := h' } := I1.kept (t' := s1.toks) hk
      have S2 : ZipSep2 (s1.heap.objs.size + 4) (s1.heap.objs.size + 2) (s1.heap.objs.size + 3) s1.heap.objs.size (s1.heap.objs.size + 1) [s1.heap.objs.size] [s1.heap.objs.size + 1] := by
        constructor <;> simp
      refine ⟨s1.heap.objs.size + 4, (s1.heap.objs.size + 4) :: (s1.heap.objs.size + 2) :: (s1.heap.objs.size + 3) :: ([s1.heap.objs.size] ++ [s1.heap.objs.size + 1]), _, _, H1, rfl, I2,
        turn_pair (fun A hA => GoesN.zip2 S2 (Draws.text (A := A.in1) hA _ x _) (Draws.text (A := A.in1) hA _ y _)) (by simp) (fun A i s Q E st h => wpAny_pyIter_zip st.1 h) (fun i h st b hb => ?_) (fun i u _ hu => chS_ok hu) (fun i u _ hu => chS_ok hu), ⟨hz, hTI, ⟨_, _, hTO⟩, ⟨_, h1, rfl, rfl⟩, ⟨_, h2, rfl, rfl⟩⟩, fun c hcm => ?_, q⟩
      · obtain ⟨hz, hTI, ⟨a1, a2, hTO⟩, ⟨o1, e1, _, d1⟩, ⟨o2, e2, _, d2⟩⟩ := st
        have e' : b = s1.heap.objs.size + 4 ∨ b = s1.heap.objs.size + 2 ∨ b = s1.heap.objs.size + 3 ∨ b = s1.heap.objs.size ∨ b = s1.heap.objs.size + 1 := by simpa using hb
        rcases e' with z | z | z | z | z
        · rw [z]; exact ⟨_, hz, fun v q => nomatch q⟩
        · rw [z]; exact ⟨_, hTI, fun v q => nomatch q⟩
        · rw [z]; exact ⟨_, hTO, fun v q => nomatch q⟩
        · rw [z]; exact ⟨o1, e1, fun v q => by rw [d1] at q; cases q⟩
        · rw [z]; exact ⟨o2, e2, fun v q => by rw [d2] at q; cases q⟩
      · have e' : c = s1.heap.objs.size + 4 ∨ c = s1.heap.objs.size + 2 ∨ c = s1.heap.objs.size + 3 ∨ c = s1.heap.objs.size ∨ c = s1.heap.objs.size + 1 := by simpa using hcm
        have hle : s1.heap.objs.size ≤ c := by
          rcases e' with z | z | z | z | z
          · rw [z]; exact Nat.le_add_right _ _
          · rw [z]; exact Nat.le_add_right _ _
          · rw [z]; exact Nat.le_add_right _ _
          · rw [z]; exact Nat.le_refl _
          · rw [z]; exact Nat.le_add_right _ _
        exact I1.fpOk hle (I1.hok.fresh hle)
/-- two texts walked side by side, by the number of the turn -/
theorem wp_zipS {x y : Str} (hl : x.cps.size = y.cps.size) : WalkP (ItP (chS x) (chS y) (min x.cps.size y.cps.size)) (x.cps.toList.zip y.cps.toList) (fun _ => True)
    (fun z H v H' => ∃ T, v = .ref T ∧ H T = none ∧ H' = upd H T (.tup [.str ⟨#[z.1]⟩, .str ⟨#[z.2]⟩])) := by
  have w := walk_P (xs := chS x) (ys := chS y) (n := min x.cps.size y.cps.size)
  have e : (x.cps.toList.zip y.cps.toList).length = min x.cps.size y.cps.size := by rw [List.length_zip]; simp
  show Walk _ (x.cps.toList.zip y.cps.toList).length _ _
  rw [e]
  refine w.mono (fun H h => h) fun i H v H' hi h q => ?_
  obtain ⟨T, a, b, rfl, hT, rfl, ha, hb⟩ := q
  unfold chS at ha hb
  cases e1 : x.cps.toList[i]? with
  | none => rw [e1] at ha; cases ha
  | some c =>
    cases e2 : y.cps.toList[i]? with
    | none => rw [e2] at hb; cases hb
    | some d =>
      rw [e1] at ha
      rw [e2] at hb
      cases ha
      cases hb
      refine ⟨(c, d), ?_, T, rfl, hT, rfl⟩
      rw [List.getElem?_zip_eq_some]
      exact ⟨e1, e2⟩
end S

namespace S
open PySem PySem.Spec PyProof.Rows L2
def strOf (l : List Nat) : Str := ⟨l.toArray⟩
theorem strOf_list (l : List Nat) : (strOf l).cps.toList = l := rfl
theorem strOf_self (z : Str) : strOf z.cps.toList = z := str_ext rfl
theorem strOf_length (l : List Nat) : (strOf l).length = l.length := by rw [len_list, strOf_list]
theorem strOf_inj {a b : List Nat} (h : strOf a = strOf b) : a = b := by
  have := congrArg (fun z : Str => z.cps.toList) h
  exact this

section
variable {X : Cx} {K : PySem.W.Frag} {to te : TE} {o e : Expr} {H : Hp} {Q : VK}
theorem w_iZipS {ta : TA} {σ : St} {R : It → Hp → Prop} (h : ta σ H fun vs H1 => ∃ x y : Str, vs = [.str x, .str y] ∧ R (ItP (chS x) (chS y) (min x.cps.size y.cps.size)) H1) : iZipS ta σ H R := h
def rFind : V → List V → Hp → VK → Prop := fun x xs H Q => ∃ a b, x = .str a ∧ xs = [.str b] ∧ Q (.int (Txt.find a b)) H
theorem pe_findU {apos pos : Pos} (ho : PE X o to) (he : PE X e te) (hs : starEach [e] X.env = [(false, eval e X.env)]) (hbase : attributeBase o "find" X.env (eval o X.env) = eval o X.env) (hline : (apos.endLine == pos.line) = true) :
    PE X (.Call (.Attribute o "find" apos) [e] [] pos) (tM1 rFind to te) := pe_m1 F.slot_str_find F.type_str_find mt_find ho he hs hbase hline
theorem w_find {a b : Str} {i : Int} (h : Txt.find a b = i) (q : Q (.int i) H) : rFind (.str a) [.str b] H Q := ⟨a, b, rfl, rfl, by rw [h]; exact q⟩
def rIndexS : V → List V → Hp → VK → Prop := fun x xs H Q => ∃ a b i rest, x = .str a ∧ xs = [.str b] ∧ Builtin.Str.occurrences a b 0 a.length 1 = i :: rest ∧ Q (.int (i : Nat)) H
theorem mt_indexS : MtR X "str.index" rIndexS := by
  intro pins s σ H x xs v us Q I rx rs h
  obtain ⟨a, b, i, rest, rfl, rfl, ho, h⟩ := h
  obtain ⟨t, rfl⟩ := rx
  cases rs with
  | cons r1 rs =>
    cases rs
    obtain ⟨u, rfl⟩ := r1
    exact PySem.call_gives F.slot_str_index (typeIs_str _ _ _) F.entry_str_index (F.args_str_index_2 _ _) (gives_str_index a b t u i rest ho) ⟨.int (i : Nat), H, I.tok (s.toks + 1), ⟨_, rfl⟩, h⟩
theorem pe_indexU {apos pos : Pos} (ho : PE X o to) (he : PE X e te) (hs : starEach [e] X.env = [(false, eval e X.env)]) (hbase : attributeBase o "index" X.env (eval o X.env) = eval o X.env) (hline : (apos.endLine == pos.line) = true) :
    PE X (.Call (.Attribute o "index" apos) [e] [] pos) (tM1 rIndexS to te) := pe_m1 F.slot_str_index F.type_str_index mt_indexS ho he hs hbase hline
theorem w_index {a b : Str} {i : Nat} {rest : List Nat} (h : Builtin.Str.occurrences a b 0 a.length 1 = i :: rest) (q : Q (.int (i : Nat)) H) : rIndexS (.str a) [.str b] H Q := ⟨a, b, i, rest, rfl, rfl, h, q⟩
def rJoin (K : PySem.W.Frag) : V → List V → Hp → VK → Prop := fun x xs H Q => ∃ a p, ∃ ys : List Str, x = .str a ∧ xs = [.ref p] ∧ (SqL K H p (ys.map V.str) ∨ SqT K H p (ys.map V.str)) ∧
    (ys.map (·.length)).sum + ys.length * a.length ≤ 16777216 ∧ Q (.str (Txt.join a ys)) H
theorem pe_joinU {apos pos : Pos} (hK : X.K = K) (ho : PE X o to) (he : PE X e te) (hs : starEach [e] X.env = [(false, eval e X.env)]) (hbase : attributeBase o "join" X.env (eval o X.env) = eval o X.env) (hline : (apos.endLine == pos.line) = true) :
    PE X (.Call (.Attribute o "join" apos) [e] [] pos) (tM1 (rJoin K) to te) := by
  subst hK
  exact pe_join ho he hs hbase hline
def chv (c : Nat) : V := .str ⟨#[c]⟩
theorem sum_ones : ∀ l : List Nat, ((l.map fun c => (⟨#[c]⟩ : Str)).map (·.length)).sum = l.length
  | [] => rfl
  | c :: t => by
    rw [List.map_cons, List.map_cons, List.sum_cons, sum_ones t, List.length_cons]
    exact Nat.add_comm _ _
theorem joinL_ones : ∀ l : List Nat, TL.joinL [] ((l.map fun c => (⟨#[c]⟩ : Str)).map TL.tl) = l
  | [] => rfl
  | [c] => rfl
  | c :: d :: t => by
    have ih := joinL_ones (d :: t)
    show [c] ++ ([] ++ TL.joinL [] (((d :: t).map fun c => (⟨#[c]⟩ : Str)).map TL.tl)) = _
    rw [ih]
    rfl
theorem w_joinC {p : Addr} {cs : List Nat} (h : SqL K H p (cs.map chv)) (hl : cs.length ≤ 100000) (q : Q (.str (strOf cs)) H) : rJoin K (.str "") [.ref p] H Q := by
  refine ⟨"", p, cs.map fun c => ⟨#[c]⟩, rfl, rfl, .inl ?_, ?_, ?_⟩
  · rw [List.map_map]; exact h
  · rw [sum_ones]
    show cs.length + _ * 0 ≤ _
    omega
  · have e : Txt.join "" (cs.map fun c => (⟨#[c]⟩ : Str)) = strOf cs := by
      rw [TL.join_eq]
      refine str_ext ?_
      rw [strOf_list]
      have := TL.tl_join "" (cs.map fun c => (⟨#[c]⟩ : Str))
      rw [show TL.tl ("" : Str) = [] from rfl, joinL_ones] at this
      exact this
    rw [e]
    exact q
end
end S

namespace S
open PySem PySem.Spec PyProof.Rows L2
def iEnumS (ta : TA) : TI := fun σ H R => ta σ H fun vs H1 => ∃ x : Str, vs = [.str x] ∧ R (ItP (fun i => some (.int (i : Nat))) (chS x) x.cps.size) H1
theorem w_iEnumS {ta : TA} {σ : St} {H : Hp} {R : It → Hp → Prop} (h : ta σ H fun vs H1 => ∃ x : Str, vs = [.str x] ∧ R (ItP (fun i => some (.int (i : Nat))) (chS x) x.cps.size) H1) : iEnumS ta σ H R := h
theorem pi_enumS {X : Cx} {e : Expr} {ta : TA} {p pos tpos : Pos} {elts : List Expr} {kk} (hg : Gl X "enumerate") (hm : X.mg "enumerate" = none) (ha : PA X [e] ta) (hs : starEach [e] X.env = [(false, eval e X.env)] := by rfl) :
    PI X (.Tuple elts kk tpos) (.Call (.Name "enumerate" p) [e] [] pos) (iEnumS ta) := by
  refine ⟨fun pins s σ H R I h => ?_⟩
  refine Call_ (ld_blt I hg hm boot_enumerate (PyProof.Rows.callWith_type1 (thn (ha.run pos pins s σ H _ I h) fun us s1 ⟨vs, H1, I1, r1, q1⟩ => ?_) hs rfl))
  obtain ⟨x, ex, q⟩ := q1
  subst ex
  cases r1 with
  | cons r rr =>
    cases rr
    obtain ⟨t, rfl⟩ := r
    refine call_enumerate_str fun h' he hit hsz hk => wpAny_pyIter_enum he ?_
    have I2 : Inv X pins σ H1 { s1 with heap := h' } := I1.kept (t' := s1.toks) hk
    refine ⟨s1.heap.objs.size + 1, [s1.heap.objs.size + 1, s1.heap.objs.size], fun i h => (∃ old, IsEnum h (s1.heap.objs.size + 1) s1.heap.objs.size ((0 : Int) + (i : Nat)) old) ∧ h.IsStrIter s1.heap.objs.size (strIterType x) x t i, _, H1, rfl, I2,
      turn_pair (P1 := fun i u => ∃ t, u = .int ((0 : Int) + (i : Nat)) t) (P2 := fun i v => ∃ c u, x.cps[i]? = some c ∧ v = .str ⟨#[c]⟩ u) (wr := [s1.heap.objs.size + 1, s1.heap.objs.size])
        (fun A hA => (GoesN.enumFrom 0 (Draws.text (A := A.in1) hA s1.heap.objs.size x t) (s1.heap.objs.size + 1) (Nat.succ_ne_self _) (by simp) (by simp)).mono fun i h₀ v h _ ⟨T, t, y, ev, hn, hy, hT⟩ => ⟨T, _, y, ev, hn, ⟨t, rfl⟩, hy, hT⟩)
        (by simp) (fun A i s Q E st h => let ⟨⟨_, he⟩, _⟩ := st; wpAny_pyIter_enum he h) (fun i h st b hb => ?_) (fun i u _ hu => ?_) (fun i u _ hu => chS_ok hu), ⟨⟨_, he⟩, hit⟩, fun c hcm => ?_, q⟩
    · obtain ⟨⟨old, he⟩, ⟨o1, e1, _, d1⟩⟩ := st
      have e' : b = s1.heap.objs.size + 1 ∨ b = s1.heap.objs.size := by simpa using hb
      rcases e' with z | z
      · rw [z]; exact ⟨_, he, fun v q => nomatch q⟩
      · rw [z]; exact ⟨o1, e1, fun v q => by rw [d1] at q; cases q⟩
    · obtain ⟨t, rfl⟩ := hu
      exact ⟨_, rfl, ⟨t, by rw [Int.zero_add]⟩⟩
    · have e' : c = s1.heap.objs.size + 1 ∨ c = s1.heap.objs.size := by simpa using hcm
      have hle : s1.heap.objs.size ≤ c := by
        rcases e' with z | z
        · rw [z]; exact Nat.le_add_right _ _
        · rw [z]; exact Nat.le_refl _
      exact I1.fpOk hle (I1.hok.fresh hle)
theorem wp_enumS {x : Str} : WalkP (ItP (fun i => some (.int (i : Nat))) (chS x) x.cps.size) x.cps.toList.zipIdx (fun _ => True)
    (fun z H v H' => ∃ T, v = .ref T ∧ H T = none ∧ H' = upd H T (.tup [.int (z.2 : Nat), .str ⟨#[z.1]⟩])) := by
  have w := walk_P (xs := fun i => some (V.int (i : Nat))) (ys := chS x) (n := x.cps.size)
  have e : x.cps.toList.zipIdx.length = x.cps.size := by rw [List.length_zipIdx]; simp
  show Walk _ x.cps.toList.zipIdx.length _ _
  rw [e]
  refine w.mono (fun H h => h) fun i H v H' hi h q => ?_
  obtain ⟨T, a, b, rfl, hT, rfl, ha, hb⟩ := q
  unfold chS at hb
  cases e1 : x.cps.toList[i]? with
  | none => rw [e1] at hb; cases hb
  | some c =>
    rw [e1] at hb
    cases ha
    cases hb
    refine ⟨(c, i), ?_, T, rfl, hT, rfl⟩
    rw [List.getElem?_zipIdx, e1]
    simp
def rAllU := rAll
theorem w_all {K : PySem.W.Frag} {H : Hp} {Q : VK} {p : Addr} {bs : List Bool} (h : SqL K H p (bs.map V.bl)) (q : Q (.bl (bs.all id)) H) : rAll K [.ref p] H Q := ⟨p, bs, rfl, h, q⟩
theorem w_listL {K : PySem.W.Frag} {H : Hp} {Q : VK} {p : Addr} {xs : List V} (h : SqL K H p xs) (q : ∀ l H', H l = none → Same H H' → H' l = some (.lst xs) → Q (.ref l) H') : rListU K [.ref p] H Q := ⟨p, xs, rfl, .inl h, fun l hl => q l _ hl (Same.upd hl) upd_same⟩
end S


namespace S
open PySem PySem.Spec PyProof.Rows L2
def top (i : Nat) : Stmt := PySem.Challenge.pw_saidacross_k50_whole_crossed_rows.main.body.getD i (.Pass ⟨0, 0, 0, 0⟩)
abbrev s_is_string_of : Stmt := top 8
abbrev N_is_string_of : List Str := ["thing", "signs", "sign"]
theorem sc_is_string_of : FnScope N_is_string_of ["thing", "signs"] (defScope s_is_string_of) := ⟨rfl, rfl, rfl, by decide +kernel, rfl, by decide +kernel, by decide +kernel⟩
def dd_is_string_of : He.DefD := ⟨("is_string_of", none), "is_string_of", "is_string_of", defArgs s_is_string_of, defBody s_is_string_of, defScope s_is_string_of, [], []⟩
abbrev s_check_dealing : Stmt := top 12
abbrev N_check_dealing : List Str := ["thing"]
theorem sc_check_dealing : FnScope N_check_dealing ["thing"] (defScope s_check_dealing) := ⟨rfl, rfl, rfl, by decide +kernel, rfl, by decide +kernel, by decide +kernel⟩
def dd_check_dealing : He.DefD := ⟨("check_dealing", none), "check_dealing", "check_dealing", defArgs s_check_dealing, defBody s_check_dealing, defScope s_check_dealing, [], []⟩
abbrev s_hands_of : Stmt := top 13
abbrev N_hands_of : List Str := ["dealing", "many", "hand"]
theorem sc_hands_of : FnScope N_hands_of ["dealing"] (defScope s_hands_of) := ⟨rfl, rfl, rfl, by decide +kernel, rfl, by decide +kernel, by decide +kernel⟩
def dd_hands_of : He.DefD := ⟨("hands_of", none), "hands_of", "hands_of", defArgs s_hands_of, defBody s_hands_of, defScope s_hands_of, [], []⟩
abbrev s_is_row : Stmt := top 14
abbrev N_is_row : List Str := ["dealing", "thing", "signs"]
theorem sc_is_row : FnScope N_is_row ["dealing", "thing", "signs"] (defScope s_is_row) := ⟨rfl, rfl, rfl, by decide +kernel, rfl, by decide +kernel, by decide +kernel⟩
def dd_is_row : He.DefD := ⟨("is_row", none), "is_row", "is_row", defArgs s_is_row, defBody s_is_row, defScope s_is_row, [], []⟩
abbrev s_check_row : Stmt := top 15
abbrev N_check_row : List Str := ["dealing", "thing", "signs"]
theorem sc_check_row : FnScope N_check_row ["dealing", "thing", "signs"] (defScope s_check_row) := ⟨rfl, rfl, rfl, by decide +kernel, rfl, by decide +kernel, by decide +kernel⟩
def dd_check_row : He.DefD := ⟨("check_row", none), "check_row", "check_row", defArgs s_check_row, defBody s_check_row, defScope s_check_row, [], []⟩
abbrev s_sight : Stmt := top 16
abbrev N_sight : List Str := ["dealing", "row", "hand", "owner", "sign"]
theorem sc_sight : FnScope N_sight ["dealing", "row", "hand"] (defScope s_sight) := ⟨rfl, rfl, rfl, by decide +kernel, rfl, by decide +kernel, by decide +kernel⟩
def dd_sight : He.DefD := ⟨("sight", none), "sight", "sight", defArgs s_sight, defBody s_sight, defScope s_sight, [], []⟩
abbrev s_seen : Stmt := top 17
abbrev N_seen : List Str := ["dealing", "row", "hand"]
theorem sc_seen : FnScope N_seen ["dealing", "row", "hand"] (defScope s_seen) := ⟨rfl, rfl, rfl, by decide +kernel, rfl, by decide +kernel, by decide +kernel⟩
def dd_seen : He.DefD := ⟨("seen", none), "seen", "seen", defArgs s_seen, defBody s_seen, defScope s_seen, [], []⟩
abbrev s_crossed : Stmt := top 18
abbrev N_crossed : List Str := ["dealing", "rows", "hands", "row", "place", "owner"]
theorem sc_crossed : FnScope N_crossed ["dealing", "rows"] (defScope s_crossed) := ⟨rfl, rfl, rfl, by decide +kernel, rfl, by decide +kernel, by decide +kernel⟩
def dd_crossed : He.DefD := ⟨("crossed", none), "crossed", "crossed", defArgs s_crossed, defBody s_crossed, defScope s_crossed, [], []⟩
abbrev s__law_hand : Stmt := top 20
abbrev N__law_hand : List Str := ["_law_script", "_law_cells", "_law_cell"]
theorem sc__law_hand : FnScope N__law_hand ["_law_script"] (defScope s__law_hand) := ⟨rfl, rfl, rfl, by decide +kernel, rfl, by decide +kernel, by decide +kernel⟩
def dd__law_hand : He.DefD := ⟨("_law_hand", none), "_law_hand", "_law_hand", defArgs s__law_hand, defBody s__law_hand, defScope s__law_hand, [], []⟩
abbrev s__law_draw : Stmt := top 21
abbrev N__law_draw : List Str := ["_law_hand_here", "_law_many", "_law_cell", "_law_digit", "_law_number"]
theorem sc__law_draw : FnScope N__law_draw ["_law_hand_here", "_law_many"] (defScope s__law_draw) := ⟨rfl, rfl, rfl, by decide +kernel, rfl, by decide +kernel, by decide +kernel⟩
def dd__law_draw : He.DefD := ⟨("_law_draw", none), "_law_draw", "_law_draw", defArgs s__law_draw, defBody s__law_draw, defScope s__law_draw, [], []⟩
abbrev s__law_dealing : Stmt := top 22
abbrev N__law_dealing : List Str := ["_law_hand_here", "_law_places", "_law_most", "_law_shape", "_law_many", "_law_owner", "_law_dealing_here", "_law_place"]
theorem sc__law_dealing : FnScope N__law_dealing ["_law_hand_here", "_law_places", "_law_most"] (defScope s__law_dealing) := ⟨rfl, rfl, rfl, by decide +kernel, rfl, by decide +kernel, by decide +kernel⟩
def dd__law_dealing : He.DefD := ⟨("_law_dealing", none), "_law_dealing", "_law_dealing", defArgs s__law_dealing, defBody s__law_dealing, defScope s__law_dealing, [], []⟩
abbrev s__law_hands : Stmt := top 23
abbrev N__law_hands : List Str := ["_law_dealing_here", "_law_many", "_law_owner"]
theorem sc__law_hands : FnScope N__law_hands ["_law_dealing_here"] (defScope s__law_hands) := ⟨rfl, rfl, rfl, by decide +kernel, rfl, by decide +kernel, by decide +kernel⟩
def dd__law_hands : He.DefD := ⟨("_law_hands", none), "_law_hands", "_law_hands", defArgs s__law_hands, defBody s__law_hands, defScope s__law_hands, [], []⟩
abbrev s__law_row : Stmt := top 24
abbrev N__law_row : List Str := ["_law_hand_here", "_law_signs", "_law_places", "_law_place"]
theorem sc__law_row : FnScope N__law_row ["_law_hand_here", "_law_signs", "_law_places"] (defScope s__law_row) := ⟨rfl, rfl, rfl, by decide +kernel, rfl, by decide +kernel, by decide +kernel⟩
def dd__law_row : He.DefD := ⟨("_law_row", none), "_law_row", "_law_row", defArgs s__law_row, defBody s__law_row, defScope s__law_row, [], []⟩
abbrev s__law_sight : Stmt := top 25
abbrev N__law_sight : List Str := ["_law_dealing_here", "_law_row_here", "_law_owner", "_law_place"]
theorem sc__law_sight : FnScope N__law_sight ["_law_dealing_here", "_law_row_here", "_law_owner"] (defScope s__law_sight) := ⟨rfl, rfl, rfl, by decide +kernel, rfl, by decide +kernel, by decide +kernel⟩
def dd__law_sight : He.DefD := ⟨("_law_sight", none), "_law_sight", "_law_sight", defArgs s__law_sight, defBody s__law_sight, defScope s__law_sight, [], []⟩
abbrev s__law_rows_for : Stmt := top 26
abbrev N__law_rows_for : List Str := ["_law_hand_here", "_law_hands_here", "_law_places", "_law_shape", "_law_first", "_law_rows", "_law_owner", "_law_row_here", "_law_turn", "_law_at"]
theorem sc__law_rows_for : FnScope N__law_rows_for ["_law_hand_here", "_law_hands_here", "_law_places"] (defScope s__law_rows_for) := ⟨rfl, rfl, rfl, by decide +kernel, rfl, by decide +kernel, by decide +kernel⟩
def dd__law_rows_for : He.DefD := ⟨("_law_rows_for", none), "_law_rows_for", "_law_rows_for", defArgs s__law_rows_for, defBody s__law_rows_for, defScope s__law_rows_for, [], []⟩
abbrev s_law : Stmt := top 27
abbrev N_law : List Str := ["_law_script", "_law_hand_here", "_law_places", "_law_dealing_here", "_law_hands_here", "_law_rows", "_law_due", "_law_given", "_law_turn", "_law_told", "_law_k", "_law_own", "_law_place"]
theorem sc_law : FnScope N_law ["_law_script"] (defScope s_law) := ⟨rfl, rfl, rfl, by decide +kernel, rfl, by decide +kernel, by decide +kernel⟩
def dd_law : He.DefD := ⟨("law", none), "law", "law", defArgs s_law, defBody s_law, defScope s_law, [], []⟩
def fns : List He.DefD := [dd_is_string_of, dd_check_dealing, dd_hands_of, dd_is_row, dd_check_row, dd_sight, dd_seen, dd_crossed, dd__law_hand, dd__law_draw, dd__law_dealing, dd__law_hands, dd__law_row, dd__law_sight, dd__law_rows_for, dd_law]
def fas : List He.Fa := [.glo "is_string_of", .glo "check_dealing", .glo "hands_of", .glo "is_row", .glo "check_row", .glo "sight", .glo "seen", .glo "crossed", .glo "_law_hand", .glo "_law_draw", .glo "_law_dealing", .glo "_law_hands", .glo "_law_row", .glo "_law_sight", .glo "_law_rows_for", .glo "law", .glo "SaidError", .exc "SaidError", .glo "NoDealing", .exc "NoDealing", .glo "NoRow", .exc "NoRow", .glo "NoHand", .exc "NoHand", .glo "NoRows", .exc "NoRows", .str "SMALL" "abcdefghijklmnopqrstuvwxyz", .str "HANDS" "ABCD", .str "SIGNS" "abcdefghijklmnopqrstuvwxyz.", .free "range", .free "list", .free "isinstance", .free "str", .free "max", .free "all", .free "abs", .free "int", .free "len", .free "zip", .free "enumerate"]
structure Ctx (K : PySem.W.Frag) (mg : Str → Option Value) : Prop where
  says : He.SaysD fas fns K
  inn : ∃ h : Heap, K.In h ∧ h.Ns mainGlobals mg
section
variable {K : PySem.W.Frag} {mg : Str → Option Value}
theorem Ctx.glo (C : Ctx K mg) {x : Str} (i : Nat) (h : fas[i]? = some (.glo x)) : mg x = some (.ref (He.ga K x)) := by
  obtain ⟨hp, X, G⟩ := C.inn
  exact He.glo_ok X G (C.says.fact i h)
theorem Ctx.g_is_string_of (C : Ctx K mg) : mg "is_string_of" = some (.ref (He.ga K "is_string_of")) := C.glo 0 rfl
theorem Ctx.g_check_dealing (C : Ctx K mg) : mg "check_dealing" = some (.ref (He.ga K "check_dealing")) := C.glo 1 rfl
theorem Ctx.g_hands_of (C : Ctx K mg) : mg "hands_of" = some (.ref (He.ga K "hands_of")) := C.glo 2 rfl
theorem Ctx.g_is_row (C : Ctx K mg) : mg "is_row" = some (.ref (He.ga K "is_row")) := C.glo 3 rfl
theorem Ctx.g_check_row (C : Ctx K mg) : mg "check_row" = some (.ref (He.ga K "check_row")) := C.glo 4 rfl
theorem Ctx.g_sight (C : Ctx K mg) : mg "sight" = some (.ref (He.ga K "sight")) := C.glo 5 rfl
theorem Ctx.g_seen (C : Ctx K mg) : mg "seen" = some (.ref (He.ga K "seen")) := C.glo 6 rfl
theorem Ctx.g_crossed (C : Ctx K mg) : mg "crossed" = some (.ref (He.ga K "crossed")) := C.glo 7 rfl
theorem Ctx.g__law_hand (C : Ctx K mg) : mg "_law_hand" = some (.ref (He.ga K "_law_hand")) := C.glo 8 rfl
theorem Ctx.g__law_draw (C : Ctx K mg) : mg "_law_draw" = some (.ref (He.ga K "_law_draw")) := C.glo 9 rfl
theorem Ctx.g__law_dealing (C : Ctx K mg) : mg "_law_dealing" = some (.ref (He.ga K "_law_dealing")) := C.glo 10 rfl
theorem Ctx.g__law_hands (C : Ctx K mg) : mg "_law_hands" = some (.ref (He.ga K "_law_hands")) := C.glo 11 rfl
theorem Ctx.g__law_row (C : Ctx K mg) : mg "_law_row" = some (.ref (He.ga K "_law_row")) := C.glo 12 rfl
theorem Ctx.g__law_sight (C : Ctx K mg) : mg "_law_sight" = some (.ref (He.ga K "_law_sight")) := C.glo 13 rfl
theorem Ctx.g__law_rows_for (C : Ctx K mg) : mg "_law_rows_for" = some (.ref (He.ga K "_law_rows_for")) := C.glo 14 rfl
theorem Ctx.g_law (C : Ctx K mg) : mg "law" = some (.ref (He.ga K "law")) := C.glo 15 rfl
theorem Ctx.g_SaidError (C : Ctx K mg) : mg "SaidError" = some (.ref (He.ga K "SaidError")) := C.glo 16 rfl
theorem Ctx.x_SaidError (C : Ctx K mg) : PySem.W.excIn K (He.ga K "SaidError") He.veBase "ValueError.__new__" = true := (He.exc_ok (C.says.fact 17 rfl)).1
theorem Ctx.k_SaidError (C : Ctx K mg) : PySem.W.keepIn K (.ref (He.ga K "SaidError")) = true := (He.exc_ok (C.says.fact 17 rfl)).2.1
theorem Ctx.r_SaidError (C : Ctx K mg) {X : Cx} (e : X.K = K := by rfl) : Raises X (.ref (He.ga K "SaidError")) := by subst e; exact raises_own (He.exc_ok (C.says.fact 17 rfl)).2.2.1 (He.exc_ok (C.says.fact 17 rfl)).2.2.2
theorem Ctx.g_NoDealing (C : Ctx K mg) : mg "NoDealing" = some (.ref (He.ga K "NoDealing")) := C.glo 18 rfl
theorem Ctx.x_NoDealing (C : Ctx K mg) : PySem.W.excIn K (He.ga K "NoDealing") He.veBase "ValueError.__new__" = true := (He.exc_ok (C.says.fact 19 rfl)).1
theorem Ctx.k_NoDealing (C : Ctx K mg) : PySem.W.keepIn K (.ref (He.ga K "NoDealing")) = true := (He.exc_ok (C.says.fact 19 rfl)).2.1
theorem Ctx.r_NoDealing (C : Ctx K mg) {X : Cx} (e : X.K = K := by rfl) : Raises X (.ref (He.ga K "NoDealing")) := by subst e; exact raises_own (He.exc_ok (C.says.fact 19 rfl)).2.2.1 (He.exc_ok (C.says.fact 19 rfl)).2.2.2
theorem Ctx.g_NoRow (C : Ctx K mg) : mg "NoRow" = some (.ref (He.ga K "NoRow")) := C.glo 20 rfl
theorem Ctx.x_NoRow (C : Ctx K mg) : PySem.W.excIn K (He.ga K "NoRow") He.veBase "ValueError.__new__" = true := (He.exc_ok (C.says.fact 21 rfl)).1
theorem Ctx.k_NoRow (C : Ctx K mg) : PySem.W.keepIn K (.ref (He.ga K "NoRow")) = true := (He.exc_ok (C.says.fact 21 rfl)).2.1
theorem Ctx.r_NoRow (C : Ctx K mg) {X : Cx} (e : X.K = K := by rfl) : Raises X (.ref (He.ga K "NoRow")) := by subst e; exact raises_own (He.exc_ok (C.says.fact 21 rfl)).2.2.1 (He.exc_ok (C.says.fact 21 rfl)).2.2.2
theorem Ctx.g_NoHand (C : Ctx K mg) : mg "NoHand" = some (.ref (He.ga K "NoHand")) := C.glo 22 rfl
theorem Ctx.x_NoHand (C : Ctx K mg) : PySem.W.excIn K (He.ga K "NoHand") He.veBase "ValueError.__new__" = true := (He.exc_ok (C.says.fact 23 rfl)).1
theorem Ctx.k_NoHand (C : Ctx K mg) : PySem.W.keepIn K (.ref (He.ga K "NoHand")) = true := (He.exc_ok (C.says.fact 23 rfl)).2.1
theorem Ctx.r_NoHand (C : Ctx K mg) {X : Cx} (e : X.K = K := by rfl) : Raises X (.ref (He.ga K "NoHand")) := by subst e; exact raises_own (He.exc_ok (C.says.fact 23 rfl)).2.2.1 (He.exc_ok (C.says.fact 23 rfl)).2.2.2
theorem Ctx.g_NoRows (C : Ctx K mg) : mg "NoRows" = some (.ref (He.ga K "NoRows")) := C.glo 24 rfl
theorem Ctx.x_NoRows (C : Ctx K mg) : PySem.W.excIn K (He.ga K "NoRows") He.veBase "ValueError.__new__" = true := (He.exc_ok (C.says.fact 25 rfl)).1
theorem Ctx.k_NoRows (C : Ctx K mg) : PySem.W.keepIn K (.ref (He.ga K "NoRows")) = true := (He.exc_ok (C.says.fact 25 rfl)).2.1
theorem Ctx.r_NoRows (C : Ctx K mg) {X : Cx} (e : X.K = K := by rfl) : Raises X (.ref (He.ga K "NoRows")) := by subst e; exact raises_own (He.exc_ok (C.says.fact 25 rfl)).2.2.1 (He.exc_ok (C.says.fact 25 rfl)).2.2.2
theorem Ctx.c_SMALL (C : Ctx K mg) : ∃ t, mg "SMALL" = some (.str "abcdefghijklmnopqrstuvwxyz" t) := by obtain ⟨h, X, G⟩ := C.inn; exact He.str_ok X G (C.says.fact 26 rfl)
theorem Ctx.c_HANDS (C : Ctx K mg) : ∃ t, mg "HANDS" = some (.str "ABCD" t) := by obtain ⟨h, X, G⟩ := C.inn; exact He.str_ok X G (C.says.fact 27 rfl)
theorem Ctx.c_SIGNS (C : Ctx K mg) : ∃ t, mg "SIGNS" = some (.str "abcdefghijklmnopqrstuvwxyz." t) := by obtain ⟨h, X, G⟩ := C.inn; exact He.str_ok X G (C.says.fact 28 rfl)
theorem Ctx.free_range (C : Ctx K mg) : mg "range" = none := by obtain ⟨h, X, G⟩ := C.inn; exact He.free_ok X G (C.says.fact 29 rfl)
theorem Ctx.free_list (C : Ctx K mg) : mg "list" = none := by obtain ⟨h, X, G⟩ := C.inn; exact He.free_ok X G (C.says.fact 30 rfl)
theorem Ctx.free_isinstance (C : Ctx K mg) : mg "isinstance" = none := by obtain ⟨h, X, G⟩ := C.inn; exact He.free_ok X G (C.says.fact 31 rfl)
theorem Ctx.free_str (C : Ctx K mg) : mg "str" = none := by obtain ⟨h, X, G⟩ := C.inn; exact He.free_ok X G (C.says.fact 32 rfl)
theorem Ctx.free_max (C : Ctx K mg) : mg "max" = none := by obtain ⟨h, X, G⟩ := C.inn; exact He.free_ok X G (C.says.fact 33 rfl)
theorem Ctx.free_all (C : Ctx K mg) : mg "all" = none := by obtain ⟨h, X, G⟩ := C.inn; exact He.free_ok X G (C.says.fact 34 rfl)
theorem Ctx.free_abs (C : Ctx K mg) : mg "abs" = none := by obtain ⟨h, X, G⟩ := C.inn; exact He.free_ok X G (C.says.fact 35 rfl)
theorem Ctx.free_int (C : Ctx K mg) : mg "int" = none := by obtain ⟨h, X, G⟩ := C.inn; exact He.free_ok X G (C.says.fact 36 rfl)
theorem Ctx.free_len (C : Ctx K mg) : mg "len" = none := by obtain ⟨h, X, G⟩ := C.inn; exact He.free_ok X G (C.says.fact 37 rfl)
theorem Ctx.free_zip (C : Ctx K mg) : mg "zip" = none := by obtain ⟨h, X, G⟩ := C.inn; exact He.free_ok X G (C.says.fact 38 rfl)
theorem Ctx.free_enumerate (C : Ctx K mg) : mg "enumerate" = none := by obtain ⟨h, X, G⟩ := C.inn; exact He.free_ok X G (C.says.fact 39 rfl)
theorem Ctx.f_is_string_of (C : Ctx K mg) : ∃ fd, FunD K "is_string_of" "is_string_of" (defArgs s_is_string_of) (defBody s_is_string_of) (defScope s_is_string_of) [] [] (He.ga K "is_string_of") fd := C.says.def_ 0 (d := dd_is_string_of) rfl
theorem b_is_string_of {f : Addr} {fd : FuncData} (F : FunD K "is_string_of" "is_string_of" (defArgs s_is_string_of) (defBody s_is_string_of) (defScope s_is_string_of) [] [] f fd) : Binds K fd ["thing", "signs"] [] := F.bindsN fun _ _ _ _ _ _ us hl => match us, hl with | [_, _], _ => rfl
theorem Ctx.f_check_dealing (C : Ctx K mg) : ∃ fd, FunD K "check_dealing" "check_dealing" (defArgs s_check_dealing) (defBody s_check_dealing) (defScope s_check_dealing) [] [] (He.ga K "check_dealing") fd := C.says.def_ 1 (d := dd_check_dealing) rfl
theorem b_check_dealing {f : Addr} {fd : FuncData} (F : FunD K "check_dealing" "check_dealing" (defArgs s_check_dealing) (defBody s_check_dealing) (defScope s_check_dealing) [] [] f fd) : Binds K fd ["thing"] [] := F.bindsN fun _ _ _ _ _ _ us hl => match us, hl with | [_], _ => rfl
theorem Ctx.f_hands_of (C : Ctx K mg) : ∃ fd, FunD K "hands_of" "hands_of" (defArgs s_hands_of) (defBody s_hands_of) (defScope s_hands_of) [] [] (He.ga K "hands_of") fd := C.says.def_ 2 (d := dd_hands_of) rfl
theorem b_hands_of {f : Addr} {fd : FuncData} (F : FunD K "hands_of" "hands_of" (defArgs s_hands_of) (defBody s_hands_of) (defScope s_hands_of) [] [] f fd) : Binds K fd ["dealing"] [] := F.bindsN fun _ _ _ _ _ _ us hl => match us, hl with | [_], _ => rfl
theorem Ctx.f_is_row (C : Ctx K mg) : ∃ fd, FunD K "is_row" "is_row" (defArgs s_is_row) (defBody s_is_row) (defScope s_is_row) [] [] (He.ga K "is_row") fd := C.says.def_ 3 (d := dd_is_row) rfl
theorem b_is_row {f : Addr} {fd : FuncData} (F : FunD K "is_row" "is_row" (defArgs s_is_row) (defBody s_is_row) (defScope s_is_row) [] [] f fd) : Binds K fd ["dealing", "thing", "signs"] [] := F.bindsN fun _ _ _ _ _ _ us hl => match us, hl with | [_, _, _], _ => rfl
theorem Ctx.f_check_row (C : Ctx K mg) : ∃ fd, FunD K "check_row" "check_row" (defArgs s_check_row) (defBody s_check_row) (defScope s_check_row) [] [] (He.ga K "check_row") fd := C.says.def_ 4 (d := dd_check_row) rfl
theorem b_check_row {f : Addr} {fd : FuncData} (F : FunD K "check_row" "check_row" (defArgs s_check_row) (defBody s_check_row) (defScope s_check_row) [] [] f fd) : Binds K fd ["dealing", "thing", "signs"] [] := F.bindsN fun _ _ _ _ _ _ us hl => match us, hl with | [_, _, _], _ => rfl
theorem Ctx.f_sight (C : Ctx K mg) : ∃ fd, FunD K "sight" "sight" (defArgs s_sight) (defBody s_sight) (defScope s_sight) [] [] (He.ga K "sight") fd := C.says.def_ 5 (d := dd_sight) rfl
theorem b_sight {f : Addr} {fd : FuncData} (F : FunD K "sight" "sight" (defArgs s_sight) (defBody s_sight) (defScope s_sight) [] [] f fd) : Binds K fd ["dealing", "row", "hand"] [] := F.bindsN fun _ _ _ _ _ _ us hl => match us, hl with | [_, _, _], _ => rfl
theorem Ctx.f_seen (C : Ctx K mg) : ∃ fd, FunD K "seen" "seen" (defArgs s_seen) (defBody s_seen) (defScope s_seen) [] [] (He.ga K "seen") fd := C.says.def_ 6 (d := dd_seen) rfl
theorem b_seen {f : Addr} {fd : FuncData} (F : FunD K "seen" "seen" (defArgs s_seen) (defBody s_seen) (defScope s_seen) [] [] f fd) : Binds K fd ["dealing", "row", "hand"] [] := F.bindsN fun _ _ _ _ _ _ us hl => match us, hl with | [_, _, _], _ => rfl
theorem Ctx.f_crossed (C : Ctx K mg) : ∃ fd, FunD K "crossed" "crossed" (defArgs s_crossed) (defBody s_crossed) (defScope s_crossed) [] [] (He.ga K "crossed") fd := C.says.def_ 7 (d := dd_crossed) rfl
theorem b_crossed {f : Addr} {fd : FuncData} (F : FunD K "crossed" "crossed" (defArgs s_crossed) (defBody s_crossed) (defScope s_crossed) [] [] f fd) : Binds K fd ["dealing", "rows"] [] := F.bindsN fun _ _ _ _ _ _ us hl => match us, hl with | [_, _], _ => rfl
theorem Ctx.f__law_hand (C : Ctx K mg) : ∃ fd, FunD K "_law_hand" "_law_hand" (defArgs s__law_hand) (defBody s__law_hand) (defScope s__law_hand) [] [] (He.ga K "_law_hand") fd := C.says.def_ 8 (d := dd__law_hand) rfl
theorem b__law_hand {f : Addr} {fd : FuncData} (F : FunD K "_law_hand" "_law_hand" (defArgs s__law_hand) (defBody s__law_hand) (defScope s__law_hand) [] [] f fd) : Binds K fd ["_law_script"] [] := F.bindsN fun _ _ _ _ _ _ us hl => match us, hl with | [_], _ => rfl
theorem Ctx.f__law_draw (C : Ctx K mg) : ∃ fd, FunD K "_law_draw" "_law_draw" (defArgs s__law_draw) (defBody s__law_draw) (defScope s__law_draw) [] [] (He.ga K "_law_draw") fd := C.says.def_ 9 (d := dd__law_draw) rfl
theorem b__law_draw {f : Addr} {fd : FuncData} (F : FunD K "_law_draw" "_law_draw" (defArgs s__law_draw) (defBody s__law_draw) (defScope s__law_draw) [] [] f fd) : Binds K fd ["_law_hand_here", "_law_many"] [] := F.bindsN fun _ _ _ _ _ _ us hl => match us, hl with | [_, _], _ => rfl
theorem Ctx.f__law_dealing (C : Ctx K mg) : ∃ fd, FunD K "_law_dealing" "_law_dealing" (defArgs s__law_dealing) (defBody s__law_dealing) (defScope s__law_dealing) [] [] (He.ga K "_law_dealing") fd := C.says.def_ 10 (d := dd__law_dealing) rfl
theorem b__law_dealing {f : Addr} {fd : FuncData} (F : FunD K "_law_dealing" "_law_dealing" (defArgs s__law_dealing) (defBody s__law_dealing) (defScope s__law_dealing) [] [] f fd) : Binds K fd ["_law_hand_here", "_law_places", "_law_most"] [] := F.bindsN fun _ _ _ _ _ _ us hl => match us, hl with | [_, _, _], _ => rfl
theorem Ctx.f__law_hands (C : Ctx K mg) : ∃ fd, FunD K "_law_hands" "_law_hands" (defArgs s__law_hands) (defBody s__law_hands) (defScope s__law_hands) [] [] (He.ga K "_law_hands") fd := C.says.def_ 11 (d := dd__law_hands) rfl
theorem b__law_hands {f : Addr} {fd : FuncData} (F : FunD K "_law_hands" "_law_hands" (defArgs s__law_hands) (defBody s__law_hands) (defScope s__law_hands) [] [] f fd) : Binds K fd ["_law_dealing_here"] [] := F.bindsN fun _ _ _ _ _ _ us hl => match us, hl with | [_], _ => rfl
theorem Ctx.f__law_row (C : Ctx K mg) : ∃ fd, FunD K "_law_row" "_law_row" (defArgs s__law_row) (defBody s__law_row) (defScope s__law_row) [] [] (He.ga K "_law_row") fd := C.says.def_ 12 (d := dd__law_row) rfl
theorem b__law_row {f : Addr} {fd : FuncData} (F : FunD K "_law_row" "_law_row" (defArgs s__law_row) (defBody s__law_row) (defScope s__law_row) [] [] f fd) : Binds K fd ["_law_hand_here", "_law_signs", "_law_places"] [] := F.bindsN fun _ _ _ _ _ _ us hl => match us, hl with | [_, _, _], _ => rfl
theorem Ctx.f__law_sight (C : Ctx K mg) : ∃ fd, FunD K "_law_sight" "_law_sight" (defArgs s__law_sight) (defBody s__law_sight) (defScope s__law_sight) [] [] (He.ga K "_law_sight") fd := C.says.def_ 13 (d := dd__law_sight) rfl
theorem b__law_sight {f : Addr} {fd : FuncData} (F : FunD K "_law_sight" "_law_sight" (defArgs s__law_sight) (defBody s__law_sight) (defScope s__law_sight) [] [] f fd) : Binds K fd ["_law_dealing_here", "_law_row_here", "_law_owner"] [] := F.bindsN fun _ _ _ _ _ _ us hl => match us, hl with | [_, _, _], _ => rfl
theorem Ctx.f__law_rows_for (C : Ctx K mg) : ∃ fd, FunD K "_law_rows_for" "_law_rows_for" (defArgs s__law_rows_for) (defBody s__law_rows_for) (defScope s__law_rows_for) [] [] (He.ga K "_law_rows_for") fd := C.says.def_ 14 (d := dd__law_rows_for) rfl
theorem b__law_rows_for {f : Addr} {fd : FuncData} (F : FunD K "_law_rows_for" "_law_rows_for" (defArgs s__law_rows_for) (defBody s__law_rows_for) (defScope s__law_rows_for) [] [] f fd) : Binds K fd ["_law_hand_here", "_law_hands_here", "_law_places"] [] := F.bindsN fun _ _ _ _ _ _ us hl => match us, hl with | [_, _, _], _ => rfl
theorem Ctx.f_law (C : Ctx K mg) : ∃ fd, FunD K "law" "law" (defArgs s_law) (defBody s_law) (defScope s_law) [] [] (He.ga K "law") fd := C.says.def_ 15 (d := dd_law) rfl
theorem b_law {f : Addr} {fd : FuncData} (F : FunD K "law" "law" (defArgs s_law) (defBody s_law) (defScope s_law) [] [] f fd) : Binds K fd ["_law_script"] [] := F.bindsN fun _ _ _ _ _ _ us hl => match us, hl with | [_], _ => rfl
end
end S

namespace S
open PySem PySem.Spec PyProof.Rows L2
local macro_rules | `(tactic| walk_at "hp") => `(tactic| first | assumption | exact upd_same | (refine Same.app (by assumption) ?_; walk_at "hp"))
local macro_rules | `(tactic| walk_at "hl") => `(tactic| first | assumption | exact SqL.of (by walk_at "hp") | (refine Same.seq (by assumption) ?_; walk_at "hl"))
local macro_rules | `(tactic| walk_at "ht") => `(tactic| first | assumption | exact SqT.of (by walk_at "hp") | (refine seqT (by assumption) ?_; walk_at "ht"))
local macro_rules | `(tactic| walk_at "sz") => `(tactic| first | assumption | decide | exact sz1 | (refine szN ?_; omega) | omega | (simp only [List.length_cons, List.length_nil]; decide) | (simp; omega))
local macro_rules | `(tactic| walk_at "ty") => `(tactic| first | assumption | exact .base (.int _) | exact .base (.str _) | exact .base .non | exact .base (.bl _) | exact .base (.lst (by walk_at "hp")) | exact .base (.tup (by walk_at "hp")) | exact tyT (by walk_at "ht") | exact tyL (by walk_at "hl") | exact .base (.dK (by walk_at "hp")))
local macro_rules | `(tactic| walk_at "w1") => `(tactic| first
  | with_reducible first | refine w_seq ?_ | refine w_asg ?_ | refine w_ifs ?_ | refine w_ret ?_ | refine w_drop ?_ | refine w_next ?_ | refine w_gname ?_ | refine w_c ?_ | refine w_op ?_ | refine w_cons ?_ | refine w_nil ?_ | refine w_call ?_ | refine w_cb ?_ | refine w_test ?_ | refine w_tB ?_ | refine w_exb ?_ | refine w_exi ?_ | refine w_and ?_ | refine w_or ?_ | refine w_not ?_ | refine w_andV ?_ | refine w_orV ?_ | refine w_notV ?_ | refine w_tIf ?_ | refine w_un ?_ | refine w_nx ?_ | refine w_rt ?_ | refine w_bk ?_ | refine w_ct ?_ | refine w_brk ?_ | refine w_cont ?_ | refine w_retN ?_ | refine iteT ?_ | refine iteF ?_ | refine w_iteNT ?_ | refine w_iteNF ?_ | refine w_add ?_ | refine w_sub ?_ | refine w_eqI ?_ | refine w_neI ?_ | refine w_eqS ?_ | refine w_neS ?_ | refine w_eqB ?_ | refine w_neB ?_ | refine w_cmp ?_ | refine w_cmpS ?_ | refine w_inC ?_ | refine w_notInC ?_ | refine w_rU ?_ | refine w_int ?_ | refine w_abs ?_ | refine w_max ?_ | refine w_min ?_ | refine w_intB ?_ | refine w_yes ?_ | refine w_tup ?_ | refine w_lst ?_ | refine w_sl ?_ | refine w_noPart ?_ | refine w_part ?_ | refine w_bm ?_ | refine w_bm0 ?_ | refine w_m1 ?_ | refine w_m0 ?_ | refine w_tyS ?_ | refine w_gsub ?_ | refine w_forW ?_ | refine w_lcW ?_ | refine w_iList ?_ | refine w_iStr ?_ | refine w_iTup ?_ | refine w_iRng1 ?_ | refine w_iZipS ?_ | refine w_iEnumS ?_ | refine w_iRng2 ?_ | refine w_exs ?_ | refine w_isN ?_ | refine w_notN ?_ | refine w_raise ?_ | refine w_mk0 ?_ | refine w_gcons ?_ | refine w_gnil ?_
  | (with_reducible show tVar _ _ _ _; refine w_var rfl ?_)
  | ((with_reducible show ∃ b, V.ref _ = V.ref b ∧ (∃ xs, SqL _ _ b xs) ∧ _); first | refine w_itl (by walk_at "hl") ?_)
  | ((with_reducible show ∃ b, V.ref _ = V.ref b ∧ (∃ xs, SqT _ _ b xs) ∧ _); first | refine w_itt (by walk_at "ht") ?_)
  | ((with_reducible show tyV _ _ (V.ref _) _ ∧ _); first | refine w_tyL (by walk_at "hp") ?_)
  | ((with_reducible show gTup _ _ _ (V.ref _) _ _ _); first | refine w_gtup (by walk_at "ht") (by exact rfl) ?_)
  | ((with_reducible show wipe _ _ = wipe _ _ ∧ _); first | refine w_wipe rfl ?_)
  | ((with_reducible show rLenU _ [V.ref _] _ _); first | refine w_lenL (by walk_at "hl") ?_ | refine w_lenT (by walk_at "ht") ?_)
  | ((with_reducible show rLenU _ [V.str _] _ _); first | refine w_lenS (by walk_at "sz") ?_)
  | ((with_reducible show rIx _ (V.ref _) (V.int _) _ _); first | refine w_ixL (by walk_at "hl") (by first | assumption | exact rfl) ?_ | refine w_ixT (by walk_at "ht") (by first | assumption | exact rfl) ?_)
  | ((with_reducible show rIx _ (V.str _) (V.int _) _ _); first | refine w_ixS (by walk_at "sz") (by first | assumption | exact rfl) ?_)
  | ((with_reducible show rSetL (V.ref _) (V.int _) _ _ _); first | refine w_setL (by walk_at "hp") (by first | assumption | exact rfl) ?_)
  | ((with_reducible show rIsi _ [_, V.ty _] _ _); first | refine w_isiT (b := true) (by walk_at "ty") (by decide +kernel) ?_ | refine w_isiT (b := false) (by walk_at "ty") (by decide +kernel) ?_)
  | ((with_reducible show rMulU (V.int _) (V.int _) _ _); first | refine w_mul (by first | exact .inr ⟨by decide, by decide⟩ | exact .inl ⟨by decide, by decide⟩ | exact .inl ⟨by omega, by omega⟩ | exact .inr ⟨by omega, by omega⟩) ?_)
  | ((with_reducible show rI _ _ (V.int _) (V.int _) _ _); first | refine w_rI (by first | assumption | (show (0 : Int) < _; omega) | exact ⟨by omega, by omega⟩ | exact ⟨by decide, by decide, by decide⟩) ?_))
local macro_rules | `(tactic| walk_at "w") => `(tactic| repeat (first | walk_at "w1" | dsimp only [List.set_cons_zero, List.set_cons_succ, Int.reduceToNat]))
local macro_rules | `(tactic| walk_at "w0") => `(tactic| (dsimp only [cxOf, L2.start, List.map, List.length, Nat.reduceAdd, Nat.reduceSub, List.replicate, List.cons_append, List.nil_append]; walk_at "w"))

section
variable {P : Program} {w : World} {K : PySem.W.Frag} {mg : Str → Option Value} {base : Heap}
/-- all signs of z are signs of s -/
def allIn (z s : Str) : Bool := z.cps.toList.all fun c => decide (c ∈ s.cps.toList)
/-- a value that is no text, by its type -/
def NotStr (K : PySem.W.Frag) (H : Hp) (v : V) : Prop := ∃ tv, TyX K H v tv ∧ PySem.W.kitOne K tv (.type "str") = some false
def sp_is_string_of (K : PySem.W.Frag) : Sp := fun vs H Q _ => ∃ (v : V) (s : Str), vs = [v, .str s] ∧ ((∃ z, v = .str z ∧ Q (.bl (allIn z s)) H) ∨ (NotStr K H v ∧ Q (.bl false) H))
theorem ok_is_string_of (C : Ctx K mg) : Ok P w K mg base 1 "is_string_of" ["thing", "signs"] (sp_is_string_of K) := by
  obtain ⟨fd, F⟩ := C.f_is_string_of
  refine ⟨fd, okX F sc_is_string_of (fun vs H Q E h => ?_) (fun cdv A outer s H vs Q E hr h => ⟨_, (pss_cons (ps_if (pt_not (pt_val (pe_callB call_isi rfl (C.free_isinstance) (by decide +kernel) (pa_cons (pv 0) (pa_cons (pe_bltn (v := .ty "str") rfl (C.free_str) (by decide +kernel) rfl) pa_nil))))) (pss_one (ps_ret pe_bl)) pss_nil)
      (pss_cons (ps_for (passes_of rfl) rfl (pi_str (pv 0)) (pg_nameU 2 sc_is_string_of.nd rfl (by first | exact Or.inl rfl | exact Or.inr rfl) (by first | exact Or.inl rfl | exact Or.inr rfl | assumption)) (pss_one (ps_if (pt_cmpR op_notInU (pv 2) (pv 1) (by rfl)) (pss_one (ps_ret pe_bl)) pss_nil)))
      (pss_one (ps_ret pe_bl)))), ?_⟩), b_is_string_of F, F.kp, C.g_is_string_of⟩
  · obtain ⟨v, s, rfl, _⟩ := h
    rfl
  · obtain ⟨v, s, rfl, h⟩ := h
    walk_at "w0"
    rcases h with ⟨z, rfl, q⟩ | ⟨⟨tv, ty, kt⟩, q⟩
    · refine w_isi (.base (.str _)) (kit_ty (r := true) (by decide +kernel)) ?_
      walk_at "w"
      refine for_pre wp_str (fun d σ' H' => H' = H ∧ (∃ o, σ' = [some (.str z), some (.str s), o]) ∧ d.all (fun c => decide (c ∈ s.cps.toList)) = true) ⟨rfl, ⟨_, rfl⟩, rfl⟩ (fun _ _ _ _ _ _ => True.intro) ?_ ?_
      · rintro d c r x σ' H1 H2 e ⟨rfl, ⟨o, rfl⟩, hd⟩ ⟨rfl, rfl⟩
        walk_at "w"
        refine w_iteN (fun h => ?_) (fun h => ?_)
        · walk_at "w"
          have e2 : allIn z s = false := by
            unfold allIn
            rw [e, List.all_append, hd, List.all_cons, decide_eq_false h]
            rfl
          rw [e2] at q
          exact q
        · walk_at "w"
          refine ⟨rfl, ⟨_, rfl⟩, ?_⟩
          rw [List.all_append, hd, List.all_cons, decide_eq_true h]
          rfl
      · rintro σ' H1 ⟨rfl, ⟨o, rfl⟩, hd⟩
        walk_at "w"
        have e2 : allIn z s = true := hd
        rw [e2] at q
        exact q
    · refine w_isi ty kt ?_
      walk_at "w"
      exact q

end
section
variable {P : Program} {w : World} {K : PySem.W.Frag} {mg : Str → Option Value} {base : Heap}
def GoodDealing (z : Str) : Prop := allIn z "ABCD" = true ∧ z ≠ ""
def sp_check_dealing (K : PySem.W.Frag) : Sp := fun vs H Q E => ∃ v : V, vs = [v] ∧ ((∃ z, v = .str z ∧ (GoodDealing z → Q .non H) ∧ (¬ GoodDealing z → E (.ref (He.ga K "NoDealing")) none H)) ∨ (NotStr K H v ∧ E (.ref (He.ga K "NoDealing")) none H))
theorem ok_check_dealing (C : Ctx K mg) : Ok P w K mg base 2 "check_dealing" ["thing"] (sp_check_dealing K) := by
  obtain ⟨fd, F⟩ := C.f_check_dealing
  refine ⟨fd, okX F sc_check_dealing (fun vs H Q E h => ?_) (fun cdv A outer s H vs Q E hr h => ⟨_, (pss_one (ps_if (PW.pt (pw_or (pt_not (pt_val (pe_callD (ok_is_string_of C) (hr.mono (by decide)) rfl (takes_of rfl rfl rfl rfl) (pa_cons (pv 0) (pa_cons (pe_gstr rfl C.c_HANDS) pa_nil))))) (pw_or1 (pt_cmpR (op_eqU hr.units) (pv 0) pe_str (nomark _))))) (pss_one (ps_raiseU rfl (takes_of rfl rfl rfl rfl) (pmk_own0 PySem.F.excBase_ValueError C.x_NoDealing C.g_NoDealing C.k_NoDealing C.r_NoDealing rfl))) pss_nil)), ?_⟩), b_check_dealing F, F.kp, C.g_check_dealing⟩
  · obtain ⟨v, rfl, _⟩ := h
    rfl
  · obtain ⟨v, rfl, h⟩ := h
    walk_at "w0"
    rcases h with ⟨z, rfl, q1, q2⟩ | ⟨ns, q⟩
    · refine ⟨_, _, rfl, .inl ⟨_, rfl, ?_⟩⟩
      walk_at "w"
      refine w_iteN' (fun h => ?_) (fun h => ?_)
      · walk_at "w"
        exact q2 fun g => by rw [g.1] at h; cases h
      · walk_at "w"
        refine w_iteD (fun h1 => ?_) (fun h1 => ?_)
        · walk_at "w"
          exact q2 fun g => g.2 h1
        · walk_at "w"
          exact q1 ⟨h, h1⟩
    · refine ⟨_, _, rfl, .inr ⟨ns, ?_⟩⟩
      walk_at "w"
      exact q

end
section
variable {P : Program} {w : World} {K : PySem.W.Frag} {mg : Str → Option Value} {base : Heap}
/-- how many hands a dealing is told for -/
def manyOf (l : List Nat) : Nat := l.foldl (fun m c => max m (c - 64)) 2
def handsL (l : List Nat) : List Nat := ("ABCD" : Str).cps.toList.take (manyOf l)
def handsOf (z : Str) : Str := strOf (handsL z.cps.toList)
theorem many_snoc (l : List Nat) (c : Nat) : manyOf (l ++ [c]) = max (manyOf l) (c - 64) := by
  unfold manyOf
  rw [List.foldl_append]
  rfl
theorem abcd_mem {c : Nat} (h : decide (c ∈ ("ABCD" : Str).cps.toList) = true) : c = 65 ∨ c = 66 ∨ c = 67 ∨ c = 68 := by
  have h2 := of_decide_eq_true h
  have e : ("ABCD" : Str).cps.toList = [65, 66, 67, 68] := by decide +kernel
  rw [e] at h2
  simpa using h2
theorem many_bounds : ∀ (l m : List Nat), (∀ c ∈ m, 65 ≤ c ∧ c ≤ 68) → ∀ n, 2 ≤ n → n ≤ 4 → 2 ≤ m.foldl (fun m c => max m (c - 64)) n ∧ m.foldl (fun m c => max m (c - 64)) n ≤ 4
  | _, [], _, n, h1, h2 => ⟨h1, h2⟩
  | l, c :: t, h, n, h1, h2 => by
    have hc := h c (List.mem_cons_self ..)
    exact many_bounds l t (fun d hd => h d (List.mem_cons_of_mem _ hd)) (max n (c - 64)) (by omega) (by omega)
theorem allIn_mem {z s : Str} (h : allIn z s = true) {c : Nat} (hc : c ∈ z.cps.toList) : decide (c ∈ s.cps.toList) = true := List.all_eq_true.mp h c hc
theorem many_le {z : Str} (h : allIn z "ABCD" = true) : 2 ≤ manyOf z.cps.toList ∧ manyOf z.cps.toList ≤ 4 :=
  many_bounds [] _ (fun c hc => by
    have := abcd_mem (allIn_mem h hc)
    omega) 2 (by omega) (by omega)
theorem occ_abcd {c : Nat} (h : c = 65 ∨ c = 66 ∨ c = 67 ∨ c = 68) : Builtin.Str.occurrences ("ABCD" : Str) ⟨#[c]⟩ 0 ("ABCD" : Str).length 1 = [c - 65] := by
  rcases h with rfl | rfl | rfl | rfl <;> decide +kernel
theorem find_abcd {c : Nat} (h : c = 65 ∨ c = 66 ∨ c = 67 ∨ c = 68) : Txt.find ("ABCD" : Str) ⟨#[c]⟩ = ((c - 65 : Nat) : Int) := by
  rcases h with rfl | rfl | rfl | rfl <;> decide +kernel
theorem max_int {a b : Nat} {x : Int} (h : x = (b : Int)) : (if x > (a : Int) then x else (a : Int)) = ((max a b : Nat) : Int) := by
  split <;> omega
def sp_hands_of : Sp := fun vs H Q _ => ∃ z : Str, vs = [.str z] ∧ allIn z "ABCD" = true ∧ Q (.str (handsOf z)) H
theorem abcd_cut (n : Nat) : cutS ("ABCD" : Str) none (some (n : Int)) = strOf (("ABCD" : Str).cps.toList.take n) := by
  refine str_ext ?_
  rw [cutG_S, cutG_to, strOf_list]
theorem ok_hands_of (C : Ctx K mg) : Ok P w K mg base 1 "hands_of" ["dealing"] sp_hands_of := by
  obtain ⟨fd, F⟩ := C.f_hands_of
  refine ⟨fd, okX F sc_hands_of (fun vs H Q E h => ?_) (fun cdv A outer s H vs Q E hr h => ⟨_, (pss_cons (ps_set (i := 1) sc_hands_of.nd rfl (by first | exact Or.inl rfl | exact Or.inr rfl) pe_int)
      (pss_cons (ps_for (passes_of rfl) rfl (pi_str (pv 0)) (pg_nameU 2 sc_hands_of.nd rfl (by first | exact Or.inl rfl | exact Or.inr rfl) (by first | exact Or.inl rfl | exact Or.inr rfl | assumption)) (pss_one (ps_set (i := 1) sc_hands_of.nd rfl (by first | exact Or.inl rfl | exact Or.inr rfl) (pe_callB (call_max2U rfl) rfl (C.free_max) (by decide +kernel) (pa_cons (pv 1) (pa_cons (pe_op op_addU (pe_indexU (pe_gstr rfl C.c_HANDS) (pv 2) rfl rfl rfl) pe_int) pa_nil))))))
      (pss_one (ps_ret (pe_slice sl_U (pe_gstr rfl C.c_HANDS) po_none (po_some (pv 1))))))), ?_⟩), b_hands_of F, F.kp, C.g_hands_of⟩
  · obtain ⟨z, rfl, _⟩ := h
    rfl
  · obtain ⟨z, rfl, al, q⟩ := h
    walk_at "w0"
    refine for_pre wp_str (fun d σ' H' => H' = H ∧ ∃ o, σ' = [some (.str z), some (.int (manyOf d : Nat)), o]) ⟨rfl, _, rfl⟩ (fun _ _ _ _ _ _ => True.intro) ?_ ?_
    · rintro d c r x σ' H1 H2 e ⟨rfl, o, rfl⟩ ⟨rfl, rfl⟩
      have hc := abcd_mem (allIn_mem al (c := c) (by rw [e]; simp))
      walk_at "w"
      refine w_index (occ_abcd hc) ?_
      walk_at "w"
      refine ⟨rfl, some (.str ⟨#[c]⟩), ?_⟩
      rw [many_snoc, max_int (b := c - 64)]
      omega
    · rintro σ' H' ⟨rfl, o, rfl⟩
      walk_at "w"
      refine w_slS (by decide) ?_
      rw [abcd_cut]
      exact q

end
section
variable {P : Program} {w : World} {K : PySem.W.Frag} {mg : Str → Option Value} {base : Heap}
def sp__law_hands : Sp := fun vs H Q _ => ∃ z : Str, vs = [.str z] ∧ allIn z "ABCD" = true ∧ Q (.str (handsOf z)) H
theorem ok__law_hands (C : Ctx K mg) : Ok P w K mg base 1 "_law_hands" ["_law_dealing_here"] sp__law_hands := by
  obtain ⟨fd, F⟩ := C.f__law_hands
  refine ⟨fd, okX F sc__law_hands (fun vs H Q E h => ?_) (fun cdv A outer s H vs Q E hr h => ⟨_, (pss_cons (ps_set (i := 1) sc__law_hands.nd rfl (by first | exact Or.inl rfl | exact Or.inr rfl) pe_int)
      (pss_cons (ps_for (passes_of rfl) rfl (pi_str (pv 0)) (pg_nameU 2 sc__law_hands.nd rfl (by first | exact Or.inl rfl | exact Or.inr rfl) (by first | exact Or.inl rfl | exact Or.inr rfl | assumption)) (pss_one (ps_set (i := 1) sc__law_hands.nd rfl (by first | exact Or.inl rfl | exact Or.inr rfl) (pe_callB (call_max2U rfl) rfl (C.free_max) (by decide +kernel) (pa_cons (pv 1) (pa_cons (pe_op op_addU pe_int (pe_findU pe_str (pv 2) rfl rfl rfl)) pa_nil))))))
      (pss_one (ps_ret (pe_slice sl_U pe_str po_none (po_some (pv 1))))))), ?_⟩), b__law_hands F, F.kp, C.g__law_hands⟩
  · obtain ⟨z, rfl, _⟩ := h
    rfl
  · obtain ⟨z, rfl, al, q⟩ := h
    walk_at "w0"
    refine for_pre wp_str (fun d σ' H' => H' = H ∧ ∃ o, σ' = [some (.str z), some (.int (manyOf d : Nat)), o]) ⟨rfl, _, rfl⟩ (fun _ _ _ _ _ _ => True.intro) ?_ ?_
    · rintro d c r x σ' H1 H2 e ⟨rfl, o, rfl⟩ ⟨rfl, rfl⟩
      have hc := abcd_mem (allIn_mem al (c := c) (by rw [e]; simp))
      walk_at "w"
      refine w_find (find_abcd hc) ?_
      walk_at "w"
      refine ⟨rfl, some (.str ⟨#[c]⟩), ?_⟩
      rw [many_snoc, max_int (b := c - 64)]
      omega
    · rintro σ' H' ⟨rfl, o, rfl⟩
      walk_at "w"
      refine w_slS (by decide) ?_
      rw [abcd_cut]
      exact q

end
section
variable {P : Program} {w : World} {K : PySem.W.Frag} {mg : Str → Option Value} {base : Heap}
def sp_is_row : Sp := fun vs H Q _ => ∃ d z s : Str, vs = [.str d, .str z, .str s] ∧ d.length ≤ 100000 ∧ z.length ≤ 100000 ∧ allIn z s = true ∧ Q (.bl (decide (z.length = d.length))) H
theorem ok_is_row (C : Ctx K mg) : Ok P w K mg base 2 "is_row" ["dealing", "thing", "signs"] sp_is_row := by
  obtain ⟨fd, F⟩ := C.f_is_row
  refine ⟨fd, okX F sc_is_row (fun vs H Q E h => ?_) (fun cdv A outer s H vs Q E hr h => ⟨_, (pss_one (ps_ret (pe_and (pe_callD (ok_is_string_of C) (hr.mono (by decide)) rfl (takes_of rfl rfl rfl rfl) (pa_cons (pv 1) (pa_cons (pv 2) pa_nil))) (pe_one (pe_cmpR (op_eqU hr.units) (pe_callB call_lenU rfl (C.free_len) (by decide +kernel) (pa_cons (pv 1) pa_nil)) (pe_callB call_lenU rfl (C.free_len) (by decide +kernel) (pa_cons (pv 0) pa_nil)) (nomark _)))))), ?_⟩), b_is_row F, F.kp, C.g_is_row⟩
  · obtain ⟨d, z, s, rfl, _⟩ := h
    rfl
  · obtain ⟨d, z, s, rfl, h1, h2, al, q⟩ := h
    walk_at "w0"
    refine ⟨_, _, rfl, .inl ⟨z, rfl, ?_⟩⟩
    rw [al]
    walk_at "w"
    have e : decide ((z.length : Int) = (d.length : Int)) = decide (z.length = d.length) := decide_eq_decide.mpr ⟨fun h => by omega, fun h => by omega⟩
    rw [e]
    exact q
def sp_check_row : Sp := fun vs H Q _ => ∃ d z s : Str, vs = [.str d, .str z, .str s] ∧ d.length ≤ 100000 ∧ z.length = d.length ∧ allIn z s = true ∧ Q .non H
theorem ok_check_row (C : Ctx K mg) : Ok P w K mg base 3 "check_row" ["dealing", "thing", "signs"] sp_check_row := by
  obtain ⟨fd, F⟩ := C.f_check_row
  refine ⟨fd, okX F sc_check_row (fun vs H Q E h => ?_) (fun cdv A outer s H vs Q E hr h => ⟨_, (pss_one (ps_if (pt_not (pt_val (pe_callD (ok_is_row C) (hr.mono (by decide)) rfl (takes_of rfl rfl rfl rfl) (pa_cons (pv 0) (pa_cons (pv 1) (pa_cons (pv 2) pa_nil)))))) (pss_one (ps_raiseU rfl (takes_of rfl rfl rfl rfl) (pmk_own0 PySem.F.excBase_ValueError C.x_NoRow C.g_NoRow C.k_NoRow C.r_NoRow rfl))) pss_nil)), ?_⟩), b_check_row F, F.kp, C.g_check_row⟩
  · obtain ⟨d, z, s, rfl, _⟩ := h
    rfl
  · obtain ⟨d, z, s, rfl, h1, h2, al, q⟩ := h
    walk_at "w0"
    refine ⟨_, _, _, rfl, h1, by omega, al, ?_⟩
    rw [decide_eq_true h2]
    walk_at "w"
    exact q

end
section
variable {P : Program} {w : World} {K : PySem.W.Frag} {mg : Str → Option Value} {base : Heap}
/-- what the hand h sees of the row r -/
def sightP (h : Nat) (l : List (Nat × Nat)) : List Nat := (l.filter fun p => decide (p.1 = h)).map (·.2)
def sightL (h : Nat) (d r : List Nat) : List Nat := sightP h (d.zip r)
theorem sightP_snoc (h : Nat) (l : List (Nat × Nat)) (a b : Nat) : sightP h (l ++ [(a, b)]) = if a = h then sightP h l ++ [b] else sightP h l := by
  unfold sightP
  rw [List.filter_append, List.map_append]
  by_cases e : a = h
  · rw [if_pos e, List.filter_cons, if_pos (decide_eq_true e)]
    rfl
  · rw [if_neg e, List.filter_cons, decide_eq_false e]
    show _ ++ [] = _
    rw [List.append_nil]
theorem sightP_le (h : Nat) (l : List (Nat × Nat)) : (sightP h l).length ≤ l.length := by
  unfold sightP
  rw [List.length_map]
  exact List.length_filter_le _ _
def sp_sight : Sp := fun vs H Q _ => ∃ (d r : Str) (h : Nat), vs = [.str d, .str r, .str ⟨#[h]⟩] ∧ d.length = r.length ∧ d.length ≤ 1000 ∧ ∀ H', Same H H' → Q (.str (strOf (sightL h d.cps.toList r.cps.toList))) H'
theorem one_eq {a b : Nat} : decide ((⟨#[a]⟩ : Str) = ⟨#[b]⟩) = decide (a = b) := decide_eq_decide.mpr ⟨fun h => by
  have := congrArg (fun z : Str => z.cps.toList) h
  exact (List.cons.inj this).1, fun h => by rw [h]⟩
theorem ok_sight (C : Ctx K mg) : Ok P w K mg base 1 "sight" ["dealing", "row", "hand"] sp_sight := by
  obtain ⟨fd, F⟩ := C.f_sight
  refine ⟨fd, okX F sc_sight (fun vs H Q E h => ?_) (fun cdv A outer s H vs Q E hr h => ⟨_, (pss_one (ps_ret (pe_joinU (K := K) rfl pe_str (pe_lc (own := [("owner", 3), ("sign", 4)]) rfl sc_sight.nd (pi_zipS rfl (C.free_zip) (pa_cons (pv 0) (pa_cons (pv 1) pa_nil))) (blkOk_by (own := [("owner", 3), ("sign", 4)]) (N := N_sight) (sc := defScope s_sight) (by decide +kernel)) (fun _ _ _ _ _ => (pg_tupK (n := 2) K rfl rfl rfl rfl (pgs_consU rfl (pg_nameU 3 sc_sight.nd rfl (by first | exact Or.inl rfl | exact Or.inr rfl) (by first | exact Or.inl rfl | exact Or.inr rfl | assumption)) (pgs_consU rfl (pg_nameU 4 sc_sight.nd rfl (by first | exact Or.inl rfl | exact Or.inr rfl) (by first | exact Or.inl rfl | exact Or.inr rfl | assumption)) pgs_nil)))) (fun _ _ _ _ _ => (pts_one (pt_cmpR (opK (K := K) rEqU rfl (op_eqU hr.units)) (pv 3) (pv 2) (nomark _)))) (fun _ _ _ _ _ => (pv 4))) rfl rfl rfl))), ?_⟩), b_sight F, F.kp, C.g_sight⟩
  · obtain ⟨d, r, h, rfl, _⟩ := h
    rfl
  · obtain ⟨d, r, hd, rfl, hl, hm, q⟩ := h
    walk_at "w0"
    refine ⟨d, r, rfl, ?_⟩
    have hz : (d.cps.toList.zip r.cps.toList).length ≤ 1000 := by
      rw [List.length_zip, ← len_list, ← len_list]; omega
    refine lc_pre (wp_zipS hl) (fun D p H' => ∃ acc : List Nat, H' D = some (.lst (acc.map chv)) ∧ acc = sightP hd p ∧ Same H (del H' D)) (fun D hD => ⟨[], upd_same, rfl, ?_⟩) (fun _ _ _ _ _ _ => True.intro) (fun D p z t x H0 H' hD e pv y => ?_) (fun D H1 hD pv => ?_)
    · rw [del_upd]
      exact Same.to_del (fun _ _ e => e) hD
    · obtain ⟨acc, h0, ea, s0⟩ := pv
      obtain ⟨T, rfl, hT, rfl⟩ := y
      obtain ⟨a, b⟩ := z
      have hne : T ≠ D := fun e => by rw [e, h0] at hT; cases hT
      have hD1 : upd H0 T (.tup [.str ⟨#[a]⟩, .str ⟨#[b]⟩]) D = some (.lst (acc.map chv)) := by rw [upd_ne (Ne.symm hne)]; exact h0
      have s1 : Same H (del (upd H0 T (.tup [.str ⟨#[a]⟩, .str ⟨#[b]⟩])) D) := s0.trans (Same.dels (Same.upd hT))
      have hs : (sightP hd p).length ≤ 1000 := by
        have := sightP_le hd p
        have h2 := congrArg List.length e
        rw [List.length_append] at h2
        omega
      walk_at "w"
      rw [one_eq]
      refine w_iteD (fun h => ?_) (fun h => ?_)
      · walk_at "w"
        refine ⟨_, hD1, ?_, acc ++ [b], ?_, ?_, ?_⟩
        · rw [List.length_map, ea]
          exact Nat.lt_of_le_of_lt hs (by decide)
        · rw [List.map_append]; exact upd_same
        · rw [sightP_snoc, if_pos h, ea]
        · rw [del_upd]; exact s1
      · exact ⟨acc, hD1, by rw [sightP_snoc, if_neg h, ea], s1⟩
    · obtain ⟨acc, h0, ea, s0⟩ := pv
      have hs : acc.length ≤ 1000 := by
        rw [ea]
        have := sightP_le hd (d.cps.toList.zip r.cps.toList)
        omega
      refine w_joinC (SqL.of h0) (by omega) ?_
      rw [ea]
      exact q H1 (Same.into s0)

end
section
variable {P : Program} {w : World} {K : PySem.W.Frag} {mg : Str → Option Value} {base : Heap}
def SIG : Str := "abcdefghijklmnopqrstuvwxyz."
def sp_seen : Sp := fun vs H Q _ => ∃ (d r : Str) (h : Nat), vs = [.str d, .str r, .str ⟨#[h]⟩] ∧ GoodDealing d ∧ r.length = d.length ∧ d.length ≤ 1000 ∧ allIn r SIG = true ∧ h ∈ handsL d.cps.toList ∧
  ∀ H', Same H H' → Q (.str (strOf (sightL h d.cps.toList r.cps.toList))) H'
theorem ok_seen (C : Ctx K mg) : Ok P w K mg base 4 "seen" ["dealing", "row", "hand"] sp_seen := by
  obtain ⟨fd, F⟩ := C.f_seen
  refine ⟨fd, okX F sc_seen (fun vs H Q E h => ?_) (fun cdv A outer s H vs Q E hr h => ⟨_, (pss_cons (ps_expr (pe_callD (ok_check_dealing C) (hr.mono (by decide)) rfl (takes_of rfl rfl rfl rfl) (pa_cons (pv 0) pa_nil)))
      (pss_cons (ps_expr (pe_callD (ok_check_row C) (hr.mono (by decide)) rfl (takes_of rfl rfl rfl rfl) (pa_cons (pv 0) (pa_cons (pv 1) (pa_cons (pe_gstr rfl C.c_SIGNS) pa_nil)))))
      (pss_cons (ps_if (PW.pt (pw_or (pt_not (pt_val (pe_callB call_isi rfl (C.free_isinstance) (by decide +kernel) (pa_cons (pv 2) (pa_cons (pe_bltn (v := .ty "str") rfl (C.free_str) (by decide +kernel) rfl) pa_nil))))) (pw_or (pt_cmpR (op_neU hr.units) (pe_callB call_lenU rfl (C.free_len) (by decide +kernel) (pa_cons (pv 2) pa_nil)) pe_int (nomark _)) (pw_or1 (pt_cmpR op_notInU (pv 2) (pe_callD (ok_hands_of C) (hr.mono (by decide)) rfl (takes_of rfl rfl rfl rfl) (pa_cons (pv 0) pa_nil)) (by rfl)))))) (pss_one (ps_raiseU rfl (takes_of rfl rfl rfl rfl) (pmk_own0 PySem.F.excBase_ValueError C.x_NoHand C.g_NoHand C.k_NoHand C.r_NoHand rfl))) pss_nil)
      (pss_one (ps_ret (pe_callD (ok_sight C) (hr.mono (by decide)) rfl (takes_of rfl rfl rfl rfl) (pa_cons (pv 0) (pa_cons (pv 1) (pa_cons (pv 2) pa_nil))))))))), ?_⟩), b_seen F, F.kp, C.g_seen⟩
  · obtain ⟨d, r, h, rfl, _⟩ := h
    rfl
  · obtain ⟨d, r, h, rfl, g, hl, hm, al, hh, q⟩ := h
    walk_at "w0"
    refine ⟨_, rfl, .inl ⟨d, rfl, fun _ => ?_, fun n => absurd g n⟩⟩
    walk_at "w"
    refine ⟨d, r, SIG, rfl, by omega, hl, al, ?_⟩
    walk_at "w"
    refine w_iteN (fun h => absurd rfl h) (fun _ => ?_)
    walk_at "w"
    refine ⟨d, rfl, g.1, ?_⟩
    walk_at "w"
    have e : decide (h ∈ (handsOf d).cps.toList) = true := decide_eq_true hh
    rw [e]
    walk_at "w"
    refine ⟨d, r, h, rfl, hl.symm, hm, fun H' s' => ?_⟩
    exact q H' s'

end
section
variable {P : Program} {w : World} {K : PySem.W.Frag} {mg : Str → Option Value} {base : Heap}
theorem ok0__law_hand (C : Ctx K mg) : ∃ fd, FnOk P w K mg base (L2.CX P w) 1 (He.ga K "_law_hand") fd ["_law_script"] (spHand0 K) ∧ Binds K fd ["_law_script"] [] ∧ PySem.W.keepIn K (.ref (He.ga K "_law_hand")) = true ∧ mg "_law_hand" = some (.ref (He.ga K "_law_hand")) := by
  obtain ⟨fd, F⟩ := C.f__law_hand
  refine ⟨fd, okX F sc__law_hand (fun vs H Q E h => ?_) (fun cdv A outer s H vs Q E hr h => ⟨_, (pss_cons (ps_setLc (i := 1) (own := [("_law_cell", 2)]) rfl sc__law_hand.nd rfl rfl (sw_true rfl rfl rfl (by decide +kernel)) (pi_list (pe_slice sl_U (pv 0) po_none (po_some pe_int))) (blkOk_by (own := [("_law_cell", 2)]) (N := N__law_hand) (sc := defScope s__law_hand) (by decide +kernel)) (fun _ _ _ _ _ => (pg_nameU 2 sc__law_hand.nd rfl (by first | exact Or.inl rfl | exact Or.inr rfl) (by first | exact Or.inl rfl | exact Or.inr rfl | assumption))) (fun _ _ _ _ _ => pts_nil) (fun _ _ _ _ _ => (pe_callB call_absU rfl (C.free_abs) (by decide +kernel) (pa_cons (pe_callTy call_intU rfl (C.free_int) (by decide +kernel) (pa_cons (pv 2) pa_nil)) pa_nil))))
      (pss_one (ps_ret (pe_lst (pa_cons (pv 1) (pa_cons pe_int (pa_cons pe_int (pa_cons (pe_op op_addU pe_int (pe_callB call_lenU rfl (C.free_len) (by decide +kernel) (pa_cons (pv 1) pa_nil))) (pa_cons pe_int pa_nil))))))))), ?_⟩), b__law_hand F, F.kp, C.g__law_hand⟩
  · obtain ⟨a, ns, rfl, _⟩ := h
    rfl
  · obtain ⟨a, ns, rfl, hS, hlen, q⟩ := h
    walk_at "w0"
    refine w_slL hS fun p hp => ?_
    walk_at "w"
    have ecut : cutV (ns.map V.int) none (some 63) = (cutG ns none (some 63)).map V.int := by
      rw [cutG_V, cutG_map]
    have elen : (cutG ns none (some 63)).length ≤ 63 := by
      have e := cutG_to ns 63
      rw [show ((63 : Nat) : Int) = 63 from rfl] at e
      rw [e, List.length_take]
      omega
    rw [ecut]
    generalize cutG ns none (some 63) = ms at elen ⊢
    have S1 : Same H (upd H p (.lst (ms.map V.int))) := Same.upd hp
    have hp1 : upd H p (.lst (ms.map V.int)) p = some (.lst (ms.map V.int)) := upd_same
    generalize upd H p (.lst (ms.map V.int)) = H1 at S1 hp1 ⊢
    walk_at "w"
    refine lc_pre (wp_list (K := K) (as := ms) (f := V.int)) (fun D d H' => ∃ ks : List Int, ks.length = d.length ∧ H' D = some (.lst (ks.map V.int)) ∧ Same H1 (del H' D)) ?_ ?_ ?_ ?_
    · exact fun D hD => ⟨[], rfl, upd_same, by rw [del_upd]; exact Same.to_del (Same.refl _) hD⟩
    · rintro D d r H' _ ⟨ks, _, _, s1⟩
      exact SqL.of (Same.del _ _ (s1 _ _ hp1))
    · rintro D d z r x H2 H3 hD e ⟨ks, hk, hD2, s1⟩ ⟨rfl, rfl⟩
      have hl := congrArg List.length e
      rw [List.length_append, List.length_cons] at hl
      walk_at "w"
      refine ⟨_, hD2, small1000 (by rw [List.length_map]; omega), ks ++ [if z < 0 then -z else z], ?_, ?_, ?_⟩
      · rw [List.length_append, List.length_append, hk]
        rfl
      · rw [upd_same, List.map_append]
        rfl
      · rw [del_upd]
        exact s1
    · rintro D H2 hD ⟨ks, hk, hD2, s1⟩
      walk_at "w"
      rw [List.length_map]
      refine w_newL (by walk_at "sz") fun l H3 hl s3 h3 => ?_
      walk_at "w"
      have hp' : H1 l = none := by
        cases e : H1 l with
        | none => rfl
        | some o =>
          have z := Same.del _ _ (s1 _ _ e)
          rw [hl] at z
          cases z
      exact q l D ks 0 0 _ 0 H3 (Same.free S1 hp') (S1.trans ((Same.into s1).trans s3)) h3 (s3 _ _ hD2) (by decide)
theorem ok__law_hand (C : Ctx K mg) : Ok P w K mg base 1 "_law_hand" ["_law_script"] (spHand K) := by
  obtain ⟨fd, F, b, kp, g⟩ := ok0__law_hand (P := P) (w := w) (base := base) C
  exact ⟨fd, hand_conv rfl F, b, kp, g⟩
theorem w_hand {H : Hp} {Q : VK} {E : XK} {a : Addr} {ns : List Int} (h : SqL K H a (ns.map V.int)) (hm : ns.length ≤ 63) (k : ∀ (p : Addr) (H' : Hp), H p = none → Same H H' → Hand H' p → Q (.ref p) H') : spHand K [.ref a] H Q E := ⟨a, ns, rfl, h, hm, k⟩

end
section
variable {P : Program} {w : World} {K : PySem.W.Frag} {mg : Str → Option Value} {base : Heap}
theorem ok0__law_draw (C : Ctx K mg) : ∃ fd, FnOk P w K mg base (L2.CX P w) 1 (He.ga K "_law_draw") fd ["_law_hand_here", "_law_many"] (spDraw0 CDraw) ∧ Binds K fd ["_law_hand_here", "_law_many"] [] ∧ PySem.W.keepIn K (.ref (He.ga K "_law_draw")) = true ∧ mg "_law_draw" = some (.ref (He.ga K "_law_draw")) := by
  obtain ⟨fd, F⟩ := C.f__law_draw
  refine ⟨fd, okX F sc__law_draw (fun vs H Q E h => ?_) (fun cdv A outer s H vs Q E hr h => ⟨_, (pss_cut (ps_if (PW.pt (pw_and (pt_cmpR (op_eqU hr.units) (pe_ix ix_seq (pv 0) pe_int (fun _ _ => rfl)) pe_int (nomark _)) (pw_and1 (pt_cmpR op_ltU (pe_ix ix_seq (pv 0) pe_int (fun _ _ => rfl)) (pe_callB call_lenU rfl (C.free_len) (by decide +kernel) (pa_cons (pe_ix ix_seq (pv 0) pe_int (fun _ _ => rfl)) pa_nil)) (nomark _))))) (pss_cons (ps_set (i := 2) sc__law_draw.nd rfl (by first | exact Or.inl rfl | exact Or.inr rfl) (pe_ix ix_seq (pe_ix ix_seq (pv 0) pe_int (fun _ _ => rfl)) (pe_ix ix_seq (pv 0) pe_int (fun _ _ => rfl)) (fun _ _ => rfl)))
      (pss_cons (ps_asg (pe_op op_addU (pe_ix ix_seq (pv 0) pe_int (fun _ _ => rfl)) pe_int) (pg_sub (pv 0) pe_int set_list))
      (pss_cons (ps_asg (pe_op op_mod (pe_callTy call_intU rfl (C.free_int) (by decide +kernel) (pa_cons (pe_op op_addU (pe_op op_addU (pe_op op_mulU (pe_ix ix_seq (pv 0) pe_int (fun _ _ => rfl)) pe_int) (pv 2)) pe_int) pa_nil)) pe_int) (pg_sub (pv 0) pe_int set_list))
      (pss_one (ps_if (pt_cmpR op_geU (pv 2) (pe_op op_pow pe_int pe_int) (nomark _)) (pss_one (ps_asg (pv 2) (pg_sub (pv 0) pe_int set_list))) pss_nil))))) pss_nil)
      (pss_cons (ps_if (pt_cmpR op_gtU (pe_ix ix_seq (pv 0) pe_int (fun _ _ => rfl)) pe_int (nomark _)) (pss_cons (ps_set (i := 3) sc__law_draw.nd rfl (by first | exact Or.inl rfl | exact Or.inr rfl) (pe_op op_mod (pe_callTy call_intU rfl (C.free_int) (by decide +kernel) (pa_cons (pe_ix ix_seq (pv 0) pe_int (fun _ _ => rfl)) pa_nil)) (pv 1)))
      (pss_cons (ps_asg (pe_op op_fdiv (pe_ix ix_seq (pv 0) pe_int (fun _ _ => rfl)) (pv 1)) (pg_sub (pv 0) pe_int set_list))
      (pss_one (ps_ret (pv 3))))) pss_nil)
      (pss_cons (ps_asg (pe_op op_addU (pe_ix ix_seq (pv 0) pe_int (fun _ _ => rfl)) pe_int) (pg_sub (pv 0) pe_int set_list))
      (pss_cons (ps_set (i := 4) sc__law_draw.nd rfl (by first | exact Or.inl rfl | exact Or.inr rfl) (pe_op op_mod (pe_callTy call_intU rfl (C.free_int) (by decide +kernel) (pa_cons (pe_op op_mulU (pe_callTy call_intU rfl (C.free_int) (by decide +kernel) (pa_cons (pe_op op_addU (pe_ix ix_seq (pv 0) pe_int (fun _ _ => rfl)) (pe_op op_mulU pe_int (pe_ix ix_seq (pv 0) pe_int (fun _ _ => rfl)))) pa_nil)) pe_int) pa_nil)) pe_int))
      (pss_cons (ps_set (i := 4) sc__law_draw.nd rfl (by first | exact Or.inl rfl | exact Or.inr rfl) (pe_op op_mod (pe_callTy call_intU rfl (C.free_int) (by decide +kernel) (pa_cons (pe_op op_mulU (pv 4) (pe_op op_addU (pe_op op_fdiv (pv 4) pe_int) pe_int)) pa_nil)) pe_int))
      (pss_cons (ps_set (i := 4) sc__law_draw.nd rfl (by first | exact Or.inl rfl | exact Or.inr rfl) (pe_op op_mod (pe_callTy call_intU rfl (C.free_int) (by decide +kernel) (pa_cons (pe_op op_mulU (pv 4) (pe_op op_addU (pe_op op_fdiv (pv 4) pe_int) pe_int)) pa_nil)) pe_int))
      (pss_one (ps_ret (pe_op op_mod (pe_callTy call_intU rfl (C.free_int) (by decide +kernel) (pa_cons (pe_op op_fdiv (pv 4) pe_int) pa_nil)) (pv 1)))))))))), ?_⟩), b__law_draw F, F.kp, C.g__law_draw⟩
  · obtain ⟨a, c, ns, i, s, t, k, m, rfl, _⟩ := h
    rfl
  · obtain ⟨a, c, ns, i, s0, t, k, m, rfl, ha, hc, hac, hi, ⟨hm0, hm1⟩, q⟩ := h
    walk_at "w0"
    refine w_cutJ (fun σ' H' => ∃ (i s1 t k : Int) (o2 : Option V), σ' = [some (.ref a), some (.int m), o2, none, none] ∧ H' = upd H a (.lst [.ref c, .int i, .int s1, .int t, .int k]) ∧ 0 ≤ i) ?_ ?_
    · walk_at "w"
      refine w_iteD (fun h0 => ?_) (fun h0 => ?_)
      · walk_at "w"
        refine w_iteD (fun h1 => ?_) (fun h1 => ?_)
        · obtain ⟨j, rfl⟩ : ∃ j : Nat, i = (j : Int) := ⟨i.toNat, by omega⟩
          have hj : j < ns.length := by
            rw [List.length_map] at h1
            omega
          have e1 : (ns.map V.int)[j]? = some (V.int ns[j]) := by
            rw [List.getElem?_map, List.getElem?_eq_getElem hj]
            rfl
          have e2 := atI_nat e1
          walk_at "w"
          refine w_iteD (fun h2 => ?_) (fun h2 => ?_)
          · walk_at "w"
            refine ⟨_, _, _, _, _, rfl, by rw [upd_upd, upd_upd], ?_⟩
            omega
          · walk_at "w"
            refine ⟨_, _, _, _, _, rfl, by rw [upd_upd], ?_⟩
            omega
        · walk_at "w"
          refine ⟨i, s0, t, k, _, rfl, ?_, hi⟩
          funext b
          by_cases hb : b = a
          · rw [hb, upd_same, ha]
          · rw [upd_ne hb]
      · walk_at "w"
        refine ⟨i, s0, t, k, _, rfl, ?_, hi⟩
        funext b
        by_cases hb : b = a
        · rw [hb, upd_same, ha]
        · rw [upd_ne hb]
    · rintro σ' H' ⟨i, s1, t, k, o2, rfl, rfl, hi⟩
      walk_at "w"
      refine w_iteD (fun h0 => ?_) (fun h0 => ?_)
      · walk_at "w"
        rw [upd_upd]
        exact q _ _ _ _ _ (Int.emod_nonneg _ (by omega)) (Int.emod_lt_of_pos _ hm0) hi
      · walk_at "w"
        rw [upd_upd]
        exact q _ _ _ _ _ (Int.emod_nonneg _ (by omega)) (Int.emod_lt_of_pos _ hm0) hi
theorem ok__law_draw (C : Ctx K mg) : Ok P w K mg base 1 "_law_draw" ["_law_hand_here", "_law_many"] (spDraw CDraw) := by
  obtain ⟨fd, F, b, kp, g⟩ := ok0__law_draw (P := P) (w := w) (base := base) C
  exact ⟨fd, draw_conv rfl F, b, kp, g⟩
theorem w_draw {H : Hp} {Q : VK} {E : XK} {a : Addr} {m : Int} (h : Hand H a) (hm : CDraw m) (k : ∀ d : Int, 0 ≤ d → d < m → Q (.int d) H) : spDraw CDraw [.ref a, .int m] H Q E := ⟨a, m, rfl, h, hm, k⟩

end
section
variable {P : Program} {w : World} {K : PySem.W.Frag} {mg : Str → Option Value} {base : Heap}
def sp__law_dealing : Sp := fun vs H Q _ => ∃ (a : Addr) (n : Nat) (m : Int), vs = [.ref a, .int (n : Int), .int m] ∧ Hand H a ∧ n ≤ 1000 ∧ 0 < m ∧ m ≤ 4 ∧ ∀ z : Str, z.length = n → allIn z "ABCD" = true → Q (.str z) H
theorem abcd (o : Int) (h0 : 0 ≤ o) (h1 : o < 4) : ∃ c, atI ("ABCD" : Str).cps.toList o = some c ∧ decide (c ∈ ("ABCD" : Str).cps.toList) = true := by
  obtain rfl | rfl | rfl | rfl : o = 0 ∨ o = 1 ∨ o = 2 ∨ o = 3 := by omega
  · exact ⟨65, by decide +kernel, by decide +kernel⟩
  · exact ⟨66, by decide +kernel, by decide +kernel⟩
  · exact ⟨67, by decide +kernel, by decide +kernel⟩
  · exact ⟨68, by decide +kernel, by decide +kernel⟩
theorem allIn_snoc {z s : Str} {c : Nat} (h : allIn z s = true) (hc : decide (c ∈ s.cps.toList) = true) : allIn (z ++ ⟨#[c]⟩) s = true := by
  unfold allIn at h ⊢
  rw [app_list, List.all_append, h, Bool.true_and, List.all_cons, hc]
  rfl
theorem allIn_app {z y s : Str} (h : allIn z s = true) (hc : allIn y s = true) : allIn (z ++ y) s = true := by
  unfold allIn at h hc ⊢
  rw [app_list, List.all_append, h, hc]
  rfl
theorem app_length (a b : Str) : (a ++ b).length = a.length + b.length := by
  rw [len_list, app_list, List.length_append, ← len_list, ← len_list]
theorem w_dealing {H : Hp} {Q : VK} {E : XK} {a : Addr} {n : Nat} {i m : Int} (h : Hand H a) (e : i = (n : Int)) (hn : n ≤ 1000) (h0 : 0 < m) (h1 : m ≤ 4) (k : ∀ z : Str, z.length = n → allIn z "ABCD" = true → Q (.str z) H) : sp__law_dealing [.ref a, .int i, .int m] H Q E := ⟨a, n, m, by rw [e], h, hn, h0, h1, k⟩
theorem ok__law_dealing (C : Ctx K mg) : Ok P w K mg base 2 "_law_dealing" ["_law_hand_here", "_law_places", "_law_most"] sp__law_dealing := by
  obtain ⟨fd, F⟩ := C.f__law_dealing
  refine ⟨fd, okX F sc__law_dealing (fun vs H Q E h => ?_) (fun cdv A outer s H vs Q E hr h => ⟨_, (pss_cons (ps_set (i := 3) sc__law_dealing.nd rfl (by first | exact Or.inl rfl | exact Or.inr rfl) (pe_callD (ok__law_draw C) (hr.mono (by decide)) rfl (takes_of rfl rfl rfl rfl) (pa_cons (pv 0) (pa_cons pe_int pa_nil))))
      (pss_cons (ps_set (i := 4) sc__law_dealing.nd rfl (by first | exact Or.inl rfl | exact Or.inr rfl) (pe_op op_addU pe_int (pe_callD (ok__law_draw C) (hr.mono (by decide)) rfl (takes_of rfl rfl rfl rfl) (pa_cons (pv 0) (pa_cons (pv 2) pa_nil)))))
      (pss_cons (ps_set (i := 5) sc__law_dealing.nd rfl (by first | exact Or.inl rfl | exact Or.inr rfl) (pe_callD (ok__law_draw C) (hr.mono (by decide)) rfl (takes_of rfl rfl rfl rfl) (pa_cons (pv 0) (pa_cons (pv 4) pa_nil))))
      (pss_cons (ps_set (i := 6) sc__law_dealing.nd rfl (by first | exact Or.inl rfl | exact Or.inr rfl) pe_str)
      (pss_cons (ps_for (passes_of rfl) rfl (pi_range1 rfl (C.free_range) (pa_cons (pv 1) pa_nil)) (pg_nameU 7 sc__law_dealing.nd rfl (by first | exact Or.inl rfl | exact Or.inr rfl) (by first | exact Or.inl rfl | exact Or.inr rfl | assumption)) (pss_cut (ps_if (PW.pt (pw_or (pt_cmpR (op_eqU hr.units) (pv 3) pe_int (nomark _)) (pw_or1 (PW.pt (pw_and (pt_cmpR (op_eqU hr.units) (pv 3) pe_int (nomark _)) (pw_and1 (pt_cmpR (op_eqU hr.units) (pe_callD (ok__law_draw C) (hr.mono (by decide)) rfl (takes_of rfl rfl rfl rfl) (pa_cons (pv 0) (pa_cons pe_int pa_nil))) pe_int (nomark _)))))))) (pss_one (ps_set (i := 5) sc__law_dealing.nd rfl (by first | exact Or.inl rfl | exact Or.inr rfl) (pe_callD (ok__law_draw C) (hr.mono (by decide)) rfl (takes_of rfl rfl rfl rfl) (pa_cons (pv 0) (pa_cons (pv 4) pa_nil))))) pss_nil)
      (pss_cut (ps_if (pt_cmpR (op_eqU hr.units) (pv 3) pe_int (nomark _)) (pss_one (ps_set (i := 5) sc__law_dealing.nd rfl (by first | exact Or.inl rfl | exact Or.inr rfl) (pe_op op_mod (pv 7) (pv 4)))) pss_nil)
      (pss_one (ps_set (i := 6) sc__law_dealing.nd rfl (by first | exact Or.inl rfl | exact Or.inr rfl) (pe_op op_addU (pv 6) (pe_ix ix_seq pe_str (pv 5) (fun _ _ => rfl))))))))
      (pss_one (ps_ret (pv 6)))))))), ?_⟩), b__law_dealing F, F.kp, C.g__law_dealing⟩
  · obtain ⟨a, n, m, rfl, _⟩ := h
    rfl
  · obtain ⟨a, n, m, rfl, hh, hn, hm0, hm1, q⟩ := h
    walk_at "w0"
    refine w_draw hh ⟨by omega, by omega⟩ fun d1 d1a d1b => ?_
    walk_at "w"
    refine w_draw hh ⟨by omega, by omega⟩ fun d2 d2a d2b => ?_
    walk_at "w"
    refine w_draw hh ⟨by omega, by omega⟩ fun d3 d3a d3b => ?_
    walk_at "w"
    refine w_rng1 (by omega) (by omega) ?_
    refine for_rng (fun i σ' H' => H' = H ∧ ∃ (z : Str) (o : Int) (l : Option V), σ' = [some (.ref a), some (.int n), some (.int m), some (.int d1), some (.int (1 + d2)), some (.int o), some (.str z), l] ∧ 0 ≤ o ∧ o < 1 + d2 ∧ z.length = i ∧ allIn z "ABCD" = true) ?_ ?_ ?_
    · exact ⟨rfl, _, _, _, rfl, d3a, d3b, rfl, rfl⟩
    · rintro i σ' H' hi ⟨rfl, z, o, l, rfl, o0, o1, hz, al⟩
      walk_at "w"
      refine w_cutJ (fun σ' H2 => H2 = H' ∧ ∃ o : Int, σ' = [some (.ref a), some (.int n), some (.int m), some (.int d1), some (.int (1 + d2)), some (.int o), some (.str z), some (.int (0 + (i : Nat)))] ∧ 0 ≤ o ∧ o < 1 + d2) ?_ ?_
      · walk_at "w"
        refine w_iteD (fun h => ?_) (fun h => ?_)
        · walk_at "w"
          refine w_draw hh ⟨by omega, by omega⟩ fun d4 d4a d4b => ?_
          walk_at "w"
          exact ⟨rfl, _, rfl, d4a, d4b⟩
        · walk_at "w"
          refine w_iteD (fun h => ?_) (fun h => ?_)
          · walk_at "w"
            refine w_draw hh ⟨by omega, by omega⟩ fun d5 d5a d5b => ?_
            walk_at "w"
            refine w_iteD (fun h => ?_) (fun h => ?_)
            · walk_at "w"
              refine w_draw hh ⟨by omega, by omega⟩ fun d4 d4a d4b => ?_
              walk_at "w"
              exact ⟨rfl, _, rfl, d4a, d4b⟩
            · walk_at "w"
              exact ⟨rfl, _, rfl, o0, o1⟩
          · walk_at "w"
            exact ⟨rfl, _, rfl, o0, o1⟩
      · rintro σ2 H2 ⟨rfl, o, rfl, o0, o1⟩
        walk_at "w"
        refine w_cutJ (fun σ' H3 => H3 = H2 ∧ ∃ o : Int, σ' = [some (.ref a), some (.int n), some (.int m), some (.int d1), some (.int (1 + d2)), some (.int o), some (.str z), some (.int (0 + (i : Nat)))] ∧ 0 ≤ o ∧ o < 1 + d2) ?_ ?_
        · walk_at "w"
          refine w_iteD (fun h => ?_) (fun h => ?_)
          · walk_at "w"
            exact ⟨rfl, _, rfl, Int.emod_nonneg _ (by omega), Int.emod_lt_of_pos _ (by omega)⟩
          · walk_at "w"
            exact ⟨rfl, _, rfl, o0, o1⟩
        · rintro σ3 H3 ⟨rfl, o, rfl, o0, o1⟩
          obtain ⟨c, hc, hc2⟩ := abcd o o0 (by omega)
          walk_at "w"
          refine w_addS (Nat.le_trans (show z.length + 1 ≤ 2000 by omega) (by decide)) ?_
          walk_at "w"
          exact ⟨rfl, _, _, _, rfl, o0, o1, by rw [app_length, hz]; rfl, allIn_snoc al hc2⟩
    · rintro σ' H' ⟨rfl, z, o, l, rfl, o0, o1, hz, al⟩
      walk_at "w"
      exact q z (by omega) al

end
section
variable {P : Program} {w : World} {K : PySem.W.Frag} {mg : Str → Option Value} {base : Heap}
def sp__law_row : Sp := fun vs H Q _ => ∃ (a : Addr) (s : Str) (n : Nat), vs = [.ref a, .str s, .int (n : Int)] ∧ Hand H a ∧ 0 < s.length ∧ s.length ≤ 1000 ∧ n ≤ 1000 ∧ ∀ (z : Str) (H' : Hp), Same H H' → z.length = n → allIn z s = true → Q (.str z) H'
theorem w_lrow {H : Hp} {Q : VK} {E : XK} {a : Addr} {s : Str} {n : Nat} {i : Int} (h : Hand H a) (hs : 0 < s.length) (hs2 : s.length ≤ 1000) (e : i = (n : Int)) (hn : n ≤ 1000) (k : ∀ (z : Str) (H' : Hp), Same H H' → z.length = n → allIn z s = true → Q (.str z) H') : sp__law_row [.ref a, .str s, .int i] H Q E := ⟨a, s, n, by rw [e], h, hs, hs2, hn, k⟩
theorem strOf_all {l : List Nat} {s : Str} (h : ∀ c ∈ l, decide (c ∈ s.cps.toList) = true) : allIn (strOf l) s = true := List.all_eq_true.mpr h
theorem ok__law_row (C : Ctx K mg) : Ok P w K mg base 2 "_law_row" ["_law_hand_here", "_law_signs", "_law_places"] sp__law_row := by
  obtain ⟨fd, F⟩ := C.f__law_row
  refine ⟨fd, okX F sc__law_row (fun vs H Q E h => ?_) (fun cdv A outer s H vs Q E hr h => ⟨_, (pss_one (ps_ret (pe_joinU (K := K) rfl pe_str (pe_lc (own := [("_law_place", 3)]) rfl sc__law_row.nd (pi_range1 rfl (C.free_range) (pa_cons (pv 2) pa_nil)) (blkOk_by (own := [("_law_place", 3)]) (N := N__law_row) (sc := defScope s__law_row) (by decide +kernel)) (fun _ _ _ _ _ => (pg_nameU 3 sc__law_row.nd rfl (by first | exact Or.inl rfl | exact Or.inr rfl) (by first | exact Or.inl rfl | exact Or.inr rfl | assumption))) (fun _ _ _ _ _ => pts_nil) (fun _ _ _ _ _ => (pe_ix (ixK (K := K) rIx rfl ix_seq) (pv 1) (pe_callC (ok__law_draw C) (hr.mono (by decide)) rfl (pa_cons (pv 0) (pa_cons (pe_callB (callK (K := K) rLenU rfl call_lenU) rfl (C.free_len) (by decide +kernel) (pa_cons (pv 1) pa_nil)) pa_nil))) (fun _ _ => rfl)))) rfl rfl rfl))), ?_⟩), b__law_row F, F.kp, C.g__law_row⟩
  · obtain ⟨a, s, n, rfl, _⟩ := h
    rfl
  · obtain ⟨a, z, n, rfl, hh, hz, hz2, hn, q⟩ := h
    walk_at "w0"
    refine w_rng1 (by omega) (by omega) ?_
    refine lc_rng (fun D i H' => ∃ cs : List Nat, H' D = some (.lst (cs.map chv)) ∧ cs.length = i ∧ (∀ c ∈ cs, decide (c ∈ z.cps.toList) = true) ∧ Same H (del H' D)) (fun D hD => ⟨[], upd_same, rfl, (fun _ h => nomatch h), ?_⟩) (fun D i H0 hD hi pv => ?_) (fun D H1 hD pv => ?_)
    · rw [del_upd]
      exact Same.to_del (fun _ _ e => e) hD
    · obtain ⟨cs, h0, hl, hc, s0⟩ := pv
      have hh0 := Hand.same (Same.into s0) hh
      have hle : z.length ≤ sizeLine := szN (by omega)
      walk_at "w"
      refine w_draw hh0 ⟨by omega, by omega⟩ fun d d0 d1 => ?_
      have hd : d.toNat < z.cps.toList.length := by rw [← len_list]; omega
      have ec : atI z.cps.toList d = some z.cps.toList[d.toNat] := by
        have := atI_nat (List.getElem?_eq_getElem hd)
        rw [show ((d.toNat : Nat) : Int) = d by omega] at this
        exact this
      walk_at "w"
      refine ⟨_, h0, ?_, cs ++ [z.cps.toList[d.toNat]], ?_, ?_, ?_, ?_⟩
      · rw [List.length_map, hl]
        exact Nat.lt_of_lt_of_le hi (szN (by omega))
      · rw [List.map_append]; exact upd_same
      · rw [List.length_append, hl]; rfl
      · intro c hc2
        rcases List.mem_append.mp hc2 with h | h
        · exact hc c h
        · cases h with
          | head => exact decide_eq_true (List.getElem_mem hd)
          | tail _ h => cases h
      · rw [del_upd]; exact s0
    · obtain ⟨cs, h0, hl, hc, s0⟩ := pv
      refine w_joinC (SqL.of h0) (by omega) ?_
      exact q (strOf cs) H1 (Same.into s0) (by rw [strOf_length, hl]; omega) (strOf_all hc)

end
section
variable {P : Program} {w : World} {K : PySem.W.Frag} {mg : Str → Option Value} {base : Heap}
def sp__law_sight : Sp := fun vs H Q _ => ∃ (d r : Str) (h : Nat), vs = [.str d, .str r, .str ⟨#[h]⟩] ∧ d.length = r.length ∧ d.length ≤ 1000 ∧ ∀ H', Same H H' → Q (.str (strOf (sightL h d.cps.toList r.cps.toList))) H'
theorem zip_take {a b : List Nat} {i : Nat} {x y : Nat} (h1 : a[i]? = some x) (h2 : b[i]? = some y) : (a.zip b).take (i + 1) = (a.zip b).take i ++ [(x, y)] := by
  rw [List.take_add_one]
  have : (a.zip b)[i]? = some (x, y) := List.getElem?_zip_eq_some.mpr ⟨h1, h2⟩
  rw [this]
  rfl
theorem ok__law_sight (C : Ctx K mg) : Ok P w K mg base 1 "_law_sight" ["_law_dealing_here", "_law_row_here", "_law_owner"] sp__law_sight := by
  obtain ⟨fd, F⟩ := C.f__law_sight
  refine ⟨fd, okX F sc__law_sight (fun vs H Q E h => ?_) (fun cdv A outer s H vs Q E hr h => ⟨_, (pss_one (ps_ret (pe_joinU (K := K) rfl pe_str (pe_lc (own := [("_law_place", 3)]) rfl sc__law_sight.nd (pi_range1 rfl (C.free_range) (pa_cons (pe_callB call_lenU rfl (C.free_len) (by decide +kernel) (pa_cons (pv 1) pa_nil)) pa_nil)) (blkOk_by (own := [("_law_place", 3)]) (N := N__law_sight) (sc := defScope s__law_sight) (by decide +kernel)) (fun _ _ _ _ _ => (pg_nameU 3 sc__law_sight.nd rfl (by first | exact Or.inl rfl | exact Or.inr rfl) (by first | exact Or.inl rfl | exact Or.inr rfl | assumption))) (fun _ _ _ _ _ => (pts_one (pt_cmpR (opK (K := K) rEqU rfl (op_eqU hr.units)) (pe_ix (ixK (K := K) rIx rfl ix_seq) (pv 0) (pv 3) (fun _ _ => rfl)) (pv 2) (nomark _)))) (fun _ _ _ _ _ => (pe_ix (ixK (K := K) rIx rfl ix_seq) (pv 1) (pv 3) (fun _ _ => rfl)))) rfl rfl rfl))), ?_⟩), b__law_sight F, F.kp, C.g__law_sight⟩
  · obtain ⟨d, r, h, rfl, _⟩ := h
    rfl
  · obtain ⟨d, r, hd, rfl, hl, hm, q⟩ := h
    have ld : d.length ≤ sizeLine := szN (by omega)
    have lr : r.length ≤ sizeLine := szN (by omega)
    walk_at "w0"
    refine w_rng1 (by omega) (by omega) ?_
    have e0 : (r.length : Int).toNat = r.length := by omega
    rw [e0]
    refine lc_rng (fun D i H' => ∃ cs : List Nat, H' D = some (.lst (cs.map chv)) ∧ cs = sightP hd ((d.cps.toList.zip r.cps.toList).take i) ∧ Same H (del H' D)) (fun D hD => ⟨[], upd_same, rfl, ?_⟩) (fun D i H0 hD hi pv => ?_) (fun D H1 hD pv => ?_)
    · rw [del_upd]
      exact Same.to_del (fun _ _ e => e) hD
    · obtain ⟨cs, h0, hl0, s0⟩ := pv
      have i1 : i < d.cps.toList.length := by rw [← len_list]; omega
      have i2 : i < r.cps.toList.length := by rw [← len_list]; omega
      have g1 := List.getElem?_eq_getElem i1
      have g2 := List.getElem?_eq_getElem i2
      have ei : (0 : Int) + (i : Nat) = ((i : Nat) : Int) := by omega
      rw [ei]
      have e1 := atI_nat g1
      have e2 := atI_nat g2
      have hs : cs.length ≤ 1000 := by
        rw [hl0]
        have := sightP_le hd ((d.cps.toList.zip r.cps.toList).take i)
        rw [List.length_take] at this
        omega
      walk_at "w"
      rw [one_eq]
      refine w_iteD (fun h => ?_) (fun h => ?_)
      · walk_at "w"
        refine ⟨_, h0, ?_, cs ++ [r.cps.toList[i]], ?_, ?_, ?_⟩
        · rw [List.length_map]
          exact Nat.lt_of_le_of_lt hs (by decide)
        · rw [List.map_append]; exact upd_same
        · rw [zip_take g1 g2, sightP_snoc, if_pos h, hl0]
        · rw [del_upd]; exact s0
      · exact ⟨cs, h0, by rw [zip_take g1 g2, sightP_snoc, if_neg h, hl0], s0⟩
    · obtain ⟨cs, h0, hl0, s0⟩ := pv
      have ez : (d.cps.toList.zip r.cps.toList).length ≤ r.length := by
        rw [List.length_zip, ← len_list, ← len_list]; omega
      rw [List.take_of_length_le ez] at hl0
      have hs : cs.length ≤ 1000 := by
        rw [hl0]
        have := sightP_le hd (d.cps.toList.zip r.cps.toList)
        omega
      refine w_joinC (SqL.of h0) (by omega) ?_
      rw [hl0]
      exact q H1 (Same.into s0)

end
section
variable {P : Program} {w : World} {K : PySem.W.Frag} {mg : Str → Option Value} {base : Heap}
theorem hands_range {n : Nat} (h : 2 ≤ n ∧ n ≤ 4) : ("ABCD" : Str).cps.toList.take n = (List.range n).map (65 + ·) := by
  obtain rfl | rfl | rfl : n = 2 ∨ n = 3 ∨ n = 4 := by omega
  all_goals decide +kernel
theorem find_hands {n c : Nat} (h : 2 ≤ n ∧ n ≤ 4) (hc : c = 65 ∨ c = 66 ∨ c = 67 ∨ c = 68) (hn : c - 64 ≤ n) : Txt.find (strOf (("ABCD" : Str).cps.toList.take n)) ⟨#[c]⟩ = ((c - 65 : Nat) : Int) := by
  obtain rfl | rfl | rfl : n = 2 ∨ n = 3 ∨ n = 4 := by omega
  all_goals (rcases hc with rfl | rfl | rfl | rfl <;> first | (exfalso; omega) | decide +kernel)
theorem many_ge : ∀ (m : List Nat) (n : Nat), n ≤ m.foldl (fun m c => max m (c - 64)) n
  | [], n => Nat.le_refl _
  | c :: t, n => Nat.le_trans (Nat.le_max_left n (c - 64)) (many_ge t (max n (c - 64)))
theorem many_mem : ∀ (m : List Nat) (n c : Nat), c ∈ m → c - 64 ≤ m.foldl (fun m c => max m (c - 64)) n
  | d :: t, n, c, h => by
    cases h with
    | head => exact Nat.le_trans (Nat.le_max_right n (d - 64)) (many_ge t (max n (d - 64)))
    | tail _ h => exact many_mem t (max n (d - 64)) c h
theorem set_range {α : Type} {n k : Nat} {f g : Nat → α} {v : α} (h1 : g k = v) (h2 : ∀ j, j ≠ k → g j = f j) : ((List.range n).map f).set k v = (List.range n).map g := by
  refine List.ext_getElem? fun j => ?_
  rw [List.getElem?_set, List.length_map, List.length_range]
  by_cases e : k = j
  · subst e
    rw [if_pos rfl]
    by_cases hk : k < n
    · rw [if_pos hk, List.getElem?_map, List.getElem?_range hk, ← h1]; rfl
    · rw [if_neg hk, List.getElem?_map, List.getElem?_eq_none (by rw [List.length_range]; omega)]; rfl
  · rw [if_neg e]
    by_cases hk : j < n
    · rw [List.getElem?_map, List.getElem?_map, List.getElem?_range hk]
      show some (f j) = some (g j)
      rw [h2 j (fun z => e z.symm)]
    · rw [List.getElem?_map, List.getElem?_map, List.getElem?_eq_none (by rw [List.length_range]; omega)]; rfl
theorem get_range {α : Type} {n k : Nat} {f : Nat → α} (h : k < n) : ((List.range n).map f)[k]? = some (f k) := by
  rw [List.getElem?_map, List.getElem?_range h]; rfl
theorem ixN_nat {n k : Nat} (h : k < n) : ixN n (k : Int) = some k := by
  unfold ixN
  rw [if_pos (by omega), if_pos (by omega)]
  simp
theorem sight_split {l : List (Nat × Nat)} {i c b : Nat} (h : l[i]? = some (c, b)) : sightP c l = sightP c (l.take i) ++ b :: sightP c (l.drop (i + 1)) := by
  obtain ⟨h1, _⟩ := take_split h
  have e : sightP c l = sightP c (l.take i ++ (c, b) :: l.drop (i + 1)) := by rw [← h1]
  rw [e]
  unfold sightP
  rw [List.filter_append, List.map_append, List.filter_cons, if_pos (decide_eq_true rfl)]
  rfl
theorem w_rep {K : PySem.W.Frag} {H : Hp} {Q : VK} {l : Addr} {xs : List V} {k : Int} (h : H l = some (.lst xs)) (h1 : -(2 ^ 63) ≤ k) (h2 : k < 2 ^ 63) (hz : xs.length * k.toNat ≤ sizeLine) (q : ∀ p H', H p = none → Same H H' → H' p = some (.lst (List.replicate k.toNat xs).flatten) → Q (.ref p) H') : rMulU (.ref l) (.int k) H Q :=
  .inr (.inr ⟨l, k, xs, rfl, rfl, h, h1, h2, hz, fun p hp => q p _ hp (Same.upd hp) upd_same⟩)
theorem rep_range {n : Nat} {v : V} : (List.replicate n [v]).flatten = (List.range n).map fun _ => v := by
  induction n with
  | zero => rfl
  | succ n ih =>
    rw [List.range_succ, List.map_append, ← ih, List.replicate_succ', List.flatten_append]
    rfl

end
section
variable {P : Program} {w : World} {K : PySem.W.Frag} {mg : Str → Option Value} {base : Heap}
theorem one_inj {a b : Nat} (h : (⟨#[a]⟩ : Str) = ⟨#[b]⟩) : a = b := by
  have := congrArg (fun z : Str => z.cps.toList) h
  exact List.cons.inj this |>.1
def sp_law (K : PySem.W.Frag) : Sp := fun vs H Q _ => ∃ (a : Addr) (ns : List Int), vs = [.ref a] ∧ SqL K H a (ns.map V.int) ∧ ns.length ≤ 63 ∧ ∀ H', Q (.bl true) H'
theorem sp_law_of (K : PySem.W.Frag) (H : Hp) (a : Addr) (ns : List Int) (hn : ns.length ≤ 63) (hs : SqL K H a (ns.map V.int)) : sp_law K [.ref a] H (fun v _ => v = .bl true) E0 := ⟨a, ns, rfl, hs, hn, fun _ => rfl⟩
theorem good_of {z : Str} {n : Nat} (hz : z.length = n + 1) (h : allIn z "ABCD" = true) : GoodDealing z := ⟨h, fun e => by
  rw [e] at hz
  cases hz⟩
theorem allIn_sub {z s t : Str} (h : allIn z s = true) (hs : ∀ c ∈ s.cps.toList, decide (c ∈ t.cps.toList) = true) : allIn z t = true :=
  List.all_eq_true.mpr fun c hc => hs c (of_decide_eq_true (allIn_mem h hc))
theorem sig5 : ∀ c ∈ ("abcdefghijklmnopqrstuvwxyz....." : Str).cps.toList, decide (c ∈ SIG.cps.toList) = true := by decide +kernel
theorem sig1 : ∀ c ∈ ("abcdefghijklmnopqrstuvwxyz." : Str).cps.toList, decide (c ∈ SIG.cps.toList) = true := by decide +kernel
theorem sight_mid (h c b : Nat) (d1 r1 d2 r2 : List Nat) (hl : d1.length = r1.length) : sightL h (d1 ++ c :: d2) (r1 ++ b :: r2) = sightP h (d1.zip r1) ++ (if c = h then b :: sightP h (d2.zip r2) else sightP h (d2.zip r2)) := by
  unfold sightL
  rw [List.zip_append hl]
  show sightP h (d1.zip r1 ++ (c, b) :: d2.zip r2) = _
  unfold sightP
  rw [List.filter_append, List.map_append]
  by_cases e : c = h
  · rw [if_pos e, List.filter_cons, if_pos (decide_eq_true e)]; rfl
  · rw [if_neg e, List.filter_cons, decide_eq_false e]; rfl
theorem put_cut {r : Str} {i x : Nat} (hi : i < r.length) : cutS r none (some (i : Int)) ++ ⟨#[x]⟩ ++ cutS r (some ((i : Int) + 1)) none = strOf (r.cps.toList.take i ++ x :: r.cps.toList.drop (i + 1)) := by
  refine str_ext ?_
  rw [app_list, app_list, cutG_S, cutG_S, cutG_to, show (i : Int) + 1 = ((i + 1 : Nat) : Int) by omega, cutG_from, strOf_list, List.append_assoc]
  rfl
theorem letter27 (e : Int) (h0 : 0 ≤ e) (h1 : e < 27) : ∃ c, atI ("abcdefghijklmnopqrstuvwxyz." : Str).cps.toList e = some c ∧ decide (c ∈ SIG.cps.toList) = true := by
  have hl : ("abcdefghijklmnopqrstuvwxyz." : Str).cps.toList.length = 27 := by decide +kernel
  obtain ⟨j, rfl⟩ : ∃ j : Nat, e = (j : Int) := ⟨e.toNat, by omega⟩
  have hj : j < ("abcdefghijklmnopqrstuvwxyz." : Str).cps.toList.length := by omega
  exact ⟨_, atI_nat (List.getElem?_eq_getElem hj), decide_eq_true (List.getElem_mem hj)⟩

end
section
variable {P : Program} {w : World} {K : PySem.W.Frag} {mg : Str → Option Value} {base : Heap}
theorem occ_hands {n c : Nat} (h : 2 ≤ n ∧ n ≤ 4) (hc : c = 65 ∨ c = 66 ∨ c = 67 ∨ c = 68) (hn : c - 64 ≤ n) : Builtin.Str.occurrences (strOf (("ABCD" : Str).cps.toList.take n)) ⟨#[c]⟩ 0 (strOf (("ABCD" : Str).cps.toList.take n)).length 1 = [c - 65] := by
  obtain rfl | rfl | rfl : n = 2 ∨ n = 3 ∨ n = 4 := by omega
  all_goals (rcases hc with rfl | rfl | rfl | rfl <;> first | (exfalso; omega) | decide +kernel)
/-- the sign of the row of its hand -/
def crossF (rs : List Str) (q : Nat × Nat) : Nat := (rs.getD (q.1 - 65) "").cps.toList.getD q.2 0
def crossL (d : List Nat) (rs : List Str) : List Nat := d.zipIdx.map (crossF rs)
def RowsOk (d : Str) (rs : List Str) : Prop := rs.length = manyOf d.cps.toList ∧ ∀ r ∈ rs, r.length = d.length ∧ allIn r SIG = true
def sp_crossed (K : PySem.W.Frag) : Sp := fun vs H Q _ => ∃ (d : Str) (p : Addr) (rs : List Str), vs = [.str d, .ref p] ∧ GoodDealing d ∧ d.length ≤ 1000 ∧ SqL K H p (rs.map V.str) ∧ RowsOk d rs ∧ ∀ H', Same H H' → Q (.str (strOf (crossL d.cps.toList rs))) H'
theorem ok_crossed (C : Ctx K mg) : Ok P w K mg base 3 "crossed" ["dealing", "rows"] (sp_crossed K) := by
  obtain ⟨fd, F⟩ := C.f_crossed
  refine ⟨fd, okX F sc_crossed (fun vs H Q E h => ?_) (fun cdv A outer s H vs Q E hr h => ⟨_, (pss_cons (ps_expr (pe_callD (ok_check_dealing C) (hr.mono (by decide)) rfl (takes_of rfl rfl rfl rfl) (pa_cons (pv 0) pa_nil)))
      (pss_cons (ps_set (i := 2) sc_crossed.nd rfl (by first | exact Or.inl rfl | exact Or.inr rfl) (pe_callD (ok_hands_of C) (hr.mono (by decide)) rfl (takes_of rfl rfl rfl rfl) (pa_cons (pv 0) pa_nil)))
      (pss_cons (ps_if (PW.pt (pw_or (pt_not (pt_val (pe_callB call_isi rfl (C.free_isinstance) (by decide +kernel) (pa_cons (pv 1) (pa_cons (pe_bltn (v := .ty "list") rfl (C.free_list) (by decide +kernel) rfl) pa_nil))))) (pw_or1 (pt_cmpR (op_neU hr.units) (pe_callB call_lenU rfl (C.free_len) (by decide +kernel) (pa_cons (pv 1) pa_nil)) (pe_callB call_lenU rfl (C.free_len) (by decide +kernel) (pa_cons (pv 2) pa_nil)) (nomark _))))) (pss_one (ps_raiseU rfl (takes_of rfl rfl rfl rfl) (pmk_own0 PySem.F.excBase_ValueError C.x_NoRows C.g_NoRows C.k_NoRows C.r_NoRows rfl))) pss_nil)
      (pss_cons (ps_if (pt_not (pt_val (pe_callB (cr_all rfl) rfl (C.free_all) (by decide +kernel) (pa_cons (pe_lc (own := [("row", 3)]) rfl sc_crossed.nd (pi_list (pv 1)) (blkOk_by (own := [("row", 3)]) (N := N_crossed) (sc := defScope s_crossed) (by decide +kernel)) (fun _ _ _ _ _ => (pg_nameU 3 sc_crossed.nd rfl (by first | exact Or.inl rfl | exact Or.inr rfl) (by first | exact Or.inl rfl | exact Or.inr rfl | assumption))) (fun _ _ _ _ _ => pts_nil) (fun _ _ _ _ _ => (pe_callC (ok_is_row C) (hr.mono (by decide)) rfl (pa_cons (pv 0) (pa_cons (pv 3) (pa_cons (pe_gstr rfl C.c_SIGNS) pa_nil)))))) pa_nil)))) (pss_one (ps_raiseU rfl (takes_of rfl rfl rfl rfl) (pmk_own0 PySem.F.excBase_ValueError C.x_NoRows C.g_NoRows C.k_NoRows C.r_NoRows rfl))) pss_nil)
      (pss_one (ps_ret (pe_joinU (K := K) rfl pe_str (pe_lc (own := [("place", 4), ("owner", 5)]) rfl sc_crossed.nd (pi_enumS rfl (C.free_enumerate) (pa_cons (pv 0) pa_nil)) (blkOk_by (own := [("place", 4), ("owner", 5)]) (N := N_crossed) (sc := defScope s_crossed) (by decide +kernel)) (fun _ _ _ _ _ => (pg_tupK (n := 2) K rfl rfl rfl rfl (pgs_consU rfl (pg_nameU 4 sc_crossed.nd rfl (by first | exact Or.inl rfl | exact Or.inr rfl) (by first | exact Or.inl rfl | exact Or.inr rfl | assumption)) (pgs_consU rfl (pg_nameU 5 sc_crossed.nd rfl (by first | exact Or.inl rfl | exact Or.inr rfl) (by first | exact Or.inl rfl | exact Or.inr rfl | assumption)) pgs_nil)))) (fun _ _ _ _ _ => pts_nil) (fun _ _ _ _ _ => (pe_ix (ixK (K := K) rIx rfl ix_seq) (pe_ix (ixK (K := K) rIx rfl ix_seq) (pv 1) (pe_indexU (pv 2) (pv 5) rfl rfl rfl) (fun _ _ => rfl)) (pv 4) (fun _ _ => rfl)))) rfl rfl rfl))))))), ?_⟩), b_crossed F, F.kp, C.g_crossed⟩
  · obtain ⟨d, r, h, rfl, _⟩ := h
    rfl
  · obtain ⟨d, p, rs, rfl, g, hm, hp, ⟨hn, hr2⟩, q⟩ := h
    have mb := many_le g.1
    have lh : (handsOf d).length = manyOf d.cps.toList := by
      unfold handsOf handsL
      rw [strOf_length, hands_range mb, List.length_map, List.length_range]
    have lhz : (handsOf d).length ≤ sizeLine := szN (by omega)
    walk_at "w0"
    refine ⟨_, rfl, .inl ⟨d, rfl, fun _ => ?_, fun n => absurd g n⟩⟩
    walk_at "w"
    refine ⟨d, rfl, g.1, ?_⟩
    walk_at "w"
    refine w_iteN (fun h => absurd (by rw [List.length_map]; omega) h) (fun _ => ?_)
    walk_at "w"
    refine lc_pre wp_listV (fun D l H' => H' D = some (.lst ((l.map fun _ => true).map V.bl)) ∧ Same H (del H' D)) (fun D hD => ⟨upd_same, ?_⟩) (fun D l r H' e pv => Same.seq (Same.into pv.2) hp) (fun D l z t x H0 H' hD e pv y => ?_) (fun D H1 hD pv => ?_)
    · rw [del_upd]
      exact Same.to_del (fun _ _ e => e) hD
    · obtain ⟨h0, s0⟩ := pv
      obtain ⟨rfl, rfl⟩ := y
      obtain ⟨r, hrm, rfl⟩ : ∃ r ∈ rs, V.str r = x := List.mem_map.mp (by rw [e]; simp)
      obtain ⟨r1, r2⟩ := hr2 r hrm
      have ll : l.length ≤ 4 := by
        have h1 := congrArg List.length e
        rw [List.length_map, List.length_append] at h1
        omega
      walk_at "w"
      refine ⟨d, r, SIG, rfl, by omega, by omega, r2, ?_⟩
      rw [decide_eq_true r1]
      refine ⟨_, h0, ?_, ?_, ?_⟩
      · rw [List.length_map, List.length_map]; exact Nat.lt_of_le_of_lt ll (by decide)
      · rw [List.map_append, List.map_append]; exact upd_same
      · rw [del_upd]; exact s0
    · obtain ⟨h0, s0⟩ := pv
      walk_at "w"
      refine w_all (SqL.of h0) ?_
      have ea : ((rs.map V.str).map fun _ => true).all id = true := List.all_eq_true.mpr fun b hb => by
        obtain ⟨_, _, rfl⟩ := List.mem_map.mp hb
        rfl
      rw [ea]
      walk_at "w"
      refine ⟨d, rfl, ?_⟩
      have s01 := Same.into s0
      refine lc_pre wp_enumS (fun D l H' => H' D = some (.lst ((l.map (crossF rs)).map chv)) ∧ Same H1 (del H' D)) (fun D hD => ⟨upd_same, ?_⟩) (fun _ _ _ _ _ _ => True.intro) (fun D l z t x H0 H' hD e pv y => ?_) (fun D H2 hD pv => ?_)
      · rw [del_upd]
        exact Same.to_del (fun _ _ e => e) hD
      · obtain ⟨h0, s0⟩ := pv
        obtain ⟨T, rfl, hT, rfl⟩ := y
        obtain ⟨c, i⟩ := z
        have hz : (d.cps.toList.zipIdx)[l.length]? = some (c, i) := by rw [e, List.getElem?_append_right (Nat.le_refl _), Nat.sub_self]; rfl
        have hdc : d.cps.toList[i]? = some c := by
          rw [List.getElem?_zipIdx] at hz
          cases h : d.cps.toList[l.length]? with
          | none => rw [h] at hz; cases hz
          | some v =>
            rw [h] at hz
            have h2 := Option.some.inj hz
            obtain ⟨e1, e2⟩ := Prod.mk.inj h2
            have e3 : l.length = i := by omega
            rw [← e3, h, e1]
        have hcm := List.mem_of_getElem? hdc
        have hc := abcd_mem (allIn_mem g.1 hcm)
        have hcn : c - 64 ≤ manyOf d.cps.toList := many_mem _ 2 c hcm
        have hk : c - 65 < rs.length := by omega
        have hi : i < d.cps.toList.length := (List.getElem?_eq_some_iff.mp hdc).1
        obtain ⟨r1, _⟩ := hr2 rs[c - 65] (List.getElem_mem hk)
        have hir : i < (rs[c - 65]).cps.toList.length := by rw [← len_list, r1, len_list]; exact hi
        have a1 : atI (rs.map V.str) ((c - 65 : Nat) : Int) = some (.str rs[c - 65]) := atI_nat (by rw [List.getElem?_map, List.getElem?_eq_getElem hk]; rfl)
        have a2 : atI (rs[c - 65]).cps.toList (i : Int) = some (rs[c - 65]).cps.toList[i] := atI_nat (List.getElem?_eq_getElem hir)
        have hne : T ≠ D := fun e => by rw [e, h0] at hT; cases hT
        have hD1 : upd H0 T (.tup [.int (i : Nat), .str ⟨#[c]⟩]) D = some (.lst ((l.map (crossF rs)).map chv)) := by rw [upd_ne (Ne.symm hne)]; exact h0
        have s1 : Same H1 (del (upd H0 T (.tup [.int (i : Nat), .str ⟨#[c]⟩])) D) := s0.trans (Same.dels (Same.upd hT))
        have hp1 : SqL K (upd H0 T (.tup [.int (i : Nat), .str ⟨#[c]⟩])) p (rs.map V.str) := Same.seq (s01.trans (Same.into s1)) hp
        have lr : (rs[c - 65]).length ≤ sizeLine := szN (by omega)
        walk_at "w"
        refine w_index (occ_hands mb hc hcn) ?_
        walk_at "w"
        refine ⟨_, hD1, ?_, ?_, ?_⟩
        · rw [List.length_map, List.length_map]
          have h1 := congrArg List.length e
          rw [List.length_zipIdx, List.length_append, ← len_list] at h1
          exact Nat.lt_of_le_of_lt (by omega : l.length ≤ 1000) (by decide)
        · rw [List.map_append, List.map_append]
          have e5 : crossF rs (c, i) = (rs[c - 65]).cps.toList[i] := by
            unfold crossF
            rw [List.getD_eq_getElem?_getD, List.getD_eq_getElem?_getD, List.getElem?_eq_getElem hk]
            show (rs[c - 65]).cps.toList[i]?.getD 0 = _
            rw [List.getElem?_eq_getElem hir]
            rfl
          show upd _ D (.lst (_ ++ [V.str ⟨#[(rs[c - 65]).cps.toList[i]]⟩])) D = some (.lst (_ ++ [V.str ⟨#[crossF rs (c, i)]⟩]))
          rw [e5]
          exact upd_same
        · rw [del_upd]; exact s1
      · obtain ⟨h0, s0⟩ := pv
        refine w_joinC (SqL.of h0) ?_ ?_
        · rw [List.length_map, List.length_zipIdx, ← len_list]; omega
        · exact q H2 (s01.trans (Same.into s0))

end
section
variable {P : Program} {w : World} {K : PySem.W.Frag} {mg : Str → Option Value} {base : Heap}
def RowG (n : Nat) (r : Str) : Prop := r.length = n ∧ allIn r SIG = true
theorem put_good {r : Str} {n i x : Nat} (h : RowG n r) (hi : i < n) (hx : decide (x ∈ SIG.cps.toList) = true) : RowG n (strOf (r.cps.toList.take i ++ x :: r.cps.toList.drop (i + 1))) := by
  obtain ⟨lr, al⟩ := h
  refine ⟨?_, ?_⟩
  · rw [strOf_length, List.length_append, List.length_take, List.length_cons, List.length_drop, ← len_list]
    omega
  · refine strOf_all fun c hc => ?_
    rcases List.mem_append.mp hc with h | h
    · exact allIn_mem al (List.mem_of_mem_take h)
    · cases h with
      | head => exact hx
      | tail _ h => exact allIn_mem al (List.mem_of_mem_drop h)
theorem cut_lens {r : Str} {n i : Nat} (h : r.length = n) (hi : i < n) : (cutS r none (some (i : Int))).length = i ∧ (cutS r (some ((i : Int) + 1)) none).length = n - (i + 1) := by
  constructor
  · rw [len_list, cutG_S, cutG_to, List.length_take, ← len_list]; omega
  · rw [len_list, cutG_S, show (i : Int) + 1 = ((i + 1 : Nat) : Int) by omega, cutG_from, List.length_drop, ← len_list]; omega
def sp__law_rows_for (K : PySem.W.Frag) : Sp := fun vs H Q _ => ∃ (a : Addr) (z : Str) (n : Nat), vs = [.ref a, .str z, .int (n : Nat)] ∧ Hand H a ∧ 1 ≤ z.length ∧ z.length ≤ 4 ∧ 0 < n ∧ n ≤ 1000 ∧
  ∀ (p : Addr) (rs : List Str) (H' : Hp), H p = none → Same H (del H' p) → H' p = some (.lst (rs.map V.str)) → rs.length = z.length → (∀ r ∈ rs, RowG n r) → Q (.ref p) H'
theorem ok__law_rows_for (C : Ctx K mg) : Ok P w K mg base 3 "_law_rows_for" ["_law_hand_here", "_law_hands_here", "_law_places"] (sp__law_rows_for K) := by
  obtain ⟨fd, F⟩ := C.f__law_rows_for
  refine ⟨fd, okX F sc__law_rows_for (fun vs H Q E h => ?_) (fun cdv A outer s H vs Q E hr h => ⟨_, (pss_cons (ps_set (i := 3) sc__law_rows_for.nd rfl (by first | exact Or.inl rfl | exact Or.inr rfl) (pe_callD (ok__law_draw C) (hr.mono (by decide)) rfl (takes_of rfl rfl rfl rfl) (pa_cons (pv 0) (pa_cons pe_int pa_nil))))
      (pss_cons (ps_set (i := 4) sc__law_rows_for.nd rfl (by first | exact Or.inl rfl | exact Or.inr rfl) (pe_callD (ok__law_row C) (hr.mono (by decide)) rfl (takes_of rfl rfl rfl rfl) (pa_cons (pv 0) (pa_cons pe_str (pa_cons (pv 2) pa_nil)))))
      (pss_cons (ps_set (i := 5) sc__law_rows_for.nd rfl (by first | exact Or.inl rfl | exact Or.inr rfl) (pe_lst (pa_cons (pv 4) pa_nil)))
      (pss_cons (ps_for (passes_of rfl) rfl (pi_str (pe_slice sl_U (pv 1) (po_some pe_int) po_none)) (pg_nameU 6 sc__law_rows_for.nd rfl (by first | exact Or.inl rfl | exact Or.inr rfl) (by first | exact Or.inl rfl | exact Or.inr rfl | assumption)) (pss_cons (ps_set (i := 7) sc__law_rows_for.nd rfl (by first | exact Or.inl rfl | exact Or.inr rfl) (pv 4))
      (pss_cut (ps_if (pt_cmpR op_ltU (pv 3) pe_int (nomark _)) (pss_one (ps_set (i := 7) sc__law_rows_for.nd rfl (by first | exact Or.inl rfl | exact Or.inr rfl) (pe_callD (ok__law_row C) (hr.mono (by decide)) rfl (takes_of rfl rfl rfl rfl) (pa_cons (pv 0) (pa_cons pe_str (pa_cons (pv 2) pa_nil)))))) pss_nil)
      (pss_cut (ps_if (pt_cmpR (op_eqU hr.units) (pv 3) pe_int (nomark _)) (pss_one (ps_for (passes_of rfl) rfl (pi_range1 rfl (C.free_range) (pa_cons (pe_op op_addU pe_int (pe_callD (ok__law_draw C) (hr.mono (by decide)) rfl (takes_of rfl rfl rfl rfl) (pa_cons (pv 0) (pa_cons pe_int pa_nil)))) pa_nil)) (pg_nameU 8 sc__law_rows_for.nd rfl (by first | exact Or.inl rfl | exact Or.inr rfl) (by first | exact Or.inl rfl | exact Or.inr rfl | assumption)) (pss_cons (ps_set (i := 9) sc__law_rows_for.nd rfl (by first | exact Or.inl rfl | exact Or.inr rfl) (pe_callD (ok__law_draw C) (hr.mono (by decide)) rfl (takes_of rfl rfl rfl rfl) (pa_cons (pv 0) (pa_cons (pv 2) pa_nil))))
      (pss_one (ps_set (i := 7) sc__law_rows_for.nd rfl (by first | exact Or.inl rfl | exact Or.inr rfl) (pe_op op_addU (pe_op op_addU (pe_slice sl_U (pv 7) po_none (po_some (pv 9))) (pe_ix ix_seq pe_str (pe_callD (ok__law_draw C) (hr.mono (by decide)) rfl (takes_of rfl rfl rfl rfl) (pa_cons (pv 0) (pa_cons pe_int pa_nil))) (fun _ _ => rfl))) (pe_slice sl_U (pv 7) (po_some (pe_op op_addU (pv 9) pe_int)) po_none))))))) pss_nil)
      (pss_one (ps_expr (pe_bm PySem.F.plainAttrs_list PySem.F.slot_list_append PySem.F.type_list_append mt_append (pv 5) (pa_cons (pv 7) pa_nil))))))))
      (pss_one (ps_ret (pv 5))))))), ?_⟩), b__law_rows_for F, F.kp, C.g__law_rows_for⟩
  · obtain ⟨d, r, h, rfl, _⟩ := h
    rfl
  · obtain ⟨a, z, n, rfl, hh, hz1, hz4, hn0, hn, q⟩ := h
    walk_at "w0"
    refine w_draw hh ⟨by decide, by decide⟩ fun sh sh0 sh1 => ?_
    walk_at "w"
    refine w_lrow (n := n) hh (by decide) (by decide) rfl hn fun first H1 S1 lf af => ?_
    have hh1 := Hand.same S1 hh
    have gf : RowG n first := ⟨lf, allIn_sub af sig5⟩
    walk_at "w"
    refine w_newL (by walk_at "sz") fun R H2 hR s2 e2 => ?_
    walk_at "w"
    refine w_slS (szN (by omega)) ?_
    refine ⟨_, rfl, ?_⟩
    refine for_pre wp_str (fun pre σ' H' => ∃ (o6 o7 o8 o9 : Option V) (rs : List Str), σ' = [some (.ref a), some (.str z), some (.int (n : Nat)), some (.int sh), some (.str first), some (.ref R), o6, o7, o8, o9] ∧
      H' R = some (.lst (rs.map V.str)) ∧ rs.length = pre.length + 1 ∧ (∀ r ∈ rs, RowG n r) ∧ Same H1 (del H' R)) ⟨_, _, _, _, [first], rfl, e2, rfl, fun r hr => by rw [List.mem_singleton.mp hr]; exact gf, Same.to_del s2 hR⟩ (fun _ _ _ _ _ _ => True.intro) ?_ ?_
    · rintro pre c rest x σ' H3 H4 ec ⟨o6, o7, o8, o9, rs, rfl, hR4, lrs, grs, s4⟩ ⟨rfl, rfl⟩
      have hpre : pre.length ≤ 4 := by
        have h1 := congrArg List.length ec
        rw [cutG_S, show (some (1 : Int)) = some ((1 : Nat) : Int) from rfl, cutG_from, List.length_drop, ← len_list, List.length_append, List.length_cons] at h1
        omega
      walk_at "w"
      refine w_cutJ (fun σ' H' => ∃ (row : Str) (o8 o9 : Option V), σ' = [some (.ref a), some (.str z), some (.int (n : Nat)), some (.int sh), some (.str first), some (.ref R), some (.str ⟨#[c]⟩), some (.str row), o8, o9] ∧ RowG n row ∧ H' R = some (.lst (rs.map V.str)) ∧ Same H1 (del H' R)) ?_ ?_
      · walk_at "w"
        refine w_iteD (fun h => ?_) (fun h => ?_)
        · walk_at "w"
          refine w_lrow (n := n) (Hand.same (Same.into s4) hh1) (by decide) (by decide) rfl hn fun row H5 S5 l5 a5 => ?_
          walk_at "w"
          exact ⟨row, _, _, rfl, ⟨l5, allIn_sub a5 sig5⟩, S5 _ _ hR4, s4.trans (Same.dels S5)⟩
        · walk_at "w"
          exact ⟨first, _, _, rfl, gf, hR4, s4⟩
      · rintro σ5 H5 ⟨row, o8, o9, rfl, gr, hR5, s5⟩
        walk_at "w"
        refine w_cutJ (fun σ' H' => ∃ (row : Str) (o8 o9 : Option V), σ' = [some (.ref a), some (.str z), some (.int (n : Nat)), some (.int sh), some (.str first), some (.ref R), some (.str ⟨#[c]⟩), some (.str row), o8, o9] ∧ RowG n row ∧ H' R = some (.lst (rs.map V.str)) ∧ Same H1 (del H' R)) ?_ ?_
        · walk_at "w"
          refine w_iteD (fun h => ?_) (fun h => ?_)
          · walk_at "w"
            have hh5 := Hand.same (Same.into s5) hh1
            refine w_draw hh5 ⟨by decide, by decide⟩ fun t t0 t1 => ?_
            walk_at "w"
            refine w_rng1 (by omega) (by omega) ?_
            refine for_rng (fun j σ' H' => H' = H5 ∧ ∃ (row : Str) (o8 o9 : Option V), σ' = [some (.ref a), some (.str z), some (.int (n : Nat)), some (.int sh), some (.str first), some (.ref R), some (.str ⟨#[c]⟩), some (.str row), o8, o9] ∧ RowG n row) ⟨rfl, row, _, _, rfl, gr⟩ ?_ ?_
            · rintro j σ' H6 hj ⟨rfl, row, o8, o9, rfl, gr⟩
              walk_at "w"
              refine w_draw hh5 ⟨by omega, by omega⟩ fun at_ ta tb => ?_
              obtain ⟨i, rfl⟩ : ∃ i : Nat, at_ = (i : Int) := ⟨at_.toNat, by omega⟩
              have hi : i < n := by omega
              obtain ⟨l1, l2⟩ := cut_lens gr.1 hi
              have lr0 : row.length ≤ sizeLine := by rw [gr.1]; exact szN (by omega)
              walk_at "w"
              refine w_slS lr0 ?_
              walk_at "w"
              refine w_draw hh5 ⟨by decide, by decide⟩ fun e e0 e1 => ?_
              obtain ⟨x, hx, hxs⟩ := letter27 e e0 e1
              walk_at "w"
              refine w_addS (szN (show _ + 1 ≤ 100000 by omega)) ?_
              walk_at "w"
              refine w_slS lr0 ?_
              refine w_addS (szN (by rw [app_length, l1, l2]; show i + 1 + _ ≤ _; omega)) ?_
              rw [put_cut (by rw [gr.1]; exact hi)]
              walk_at "w"
              exact ⟨rfl, _, _, _, rfl, put_good gr hi hxs⟩
            · rintro σ' H6 ⟨rfl, row, o8, o9, rfl, gr⟩
              exact ⟨row, _, _, rfl, gr, hR5, s5⟩
          · walk_at "w"
            exact ⟨row, _, _, rfl, gr, hR5, s5⟩
        · rintro σ6 H6 ⟨row, o8, o9, rfl, gr, hR6, s6⟩
          walk_at "w"
          refine w_append hR6 (by rw [List.length_map, lrs]; exact Nat.lt_of_le_of_lt (by omega : pre.length + 1 ≤ 5) (by decide)) ?_
          walk_at "w"
          refine ⟨_, _, _, _, rs ++ [row], rfl, ?_, ?_, ?_, ?_⟩
          · rw [List.map_append]; exact upd_same
          · rw [List.length_append, List.length_append, lrs]; rfl
          · intro r hr
            rcases List.mem_append.mp hr with h | h
            · exact grs r h
            · rw [List.mem_singleton.mp h]; exact gr
          · rw [del_upd]; exact s6
    · rintro σ' H4 ⟨o6, o7, o8, o9, rs, rfl, hR4, lrs, grs, s4⟩
      walk_at "w"
      refine q R rs H4 (Same.free S1 hR) (S1.trans s4) hR4 ?_ grs
      rw [lrs, cutG_S, show (some (1 : Int)) = some ((1 : Nat) : Int) from rfl, cutG_from, List.length_drop, ← len_list]
      omega

end
section
variable {P : Program} {w : World} {K : PySem.W.Frag} {mg : Str → Option Value} {base : Heap}
theorem cross_get {d : List Nat} {rs : List Str} {i c : Nat} (h : d[i]? = some c) : (crossL d rs)[i]? = some (crossF rs (c, i)) := by
  unfold crossL
  rw [List.getElem?_map, List.getElem?_zipIdx, h]
  simp
theorem crossF_eq {rs : List Str} {r : Str} {i c x : Nat} (hk : rs[c - 65]? = some r) (hi : r.cps.toList[i]? = some x) : crossF rs (c, i) = x := by
  unfold crossF
  rw [List.getD_eq_getElem?_getD, List.getD_eq_getElem?_getD]
  show (rs[c - 65]?.getD "").cps.toList[i]?.getD 0 = x
  rw [hk]
  show r.cps.toList[i]?.getD 0 = x
  rw [hi]
  rfl
theorem cross_length (d : List Nat) (rs : List Str) : (crossL d rs).length = d.length := by
  unfold crossL
  rw [List.length_map, List.length_zipIdx]
theorem cross_ext {d t : List Nat} {rs : List Str} (hl : t.length = d.length) (h : ∀ (i c : Nat), d[i]? = some c → ∃ (r : Str) (x : Nat), rs[c - 65]? = some r ∧ r.cps.toList[i]? = some x ∧ t[i]? = some x) : crossL d rs = t := by
  refine List.ext_getElem? fun i => ?_
  cases e : d[i]? with
  | none =>
    have h1 := List.getElem?_eq_none_iff.mp e
    rw [List.getElem?_eq_none (by rw [cross_length]; exact h1), List.getElem?_eq_none (by omega)]
  | some c =>
    obtain ⟨r, x, h1, h2, h3⟩ := h i c e
    rw [cross_get e, h3, crossF_eq h1 h2]
theorem sight_congr (h : Nat) : ∀ (d r r' : List Nat), r.length = d.length → r'.length = d.length → (∀ i : Nat, d[i]? = some h → r[i]? = r'[i]?) → sightL h d r = sightL h d r'
  | [], [], [], _, _, _ => rfl
  | [], x :: r, _, h1, _, _ => by simp at h1
  | [], [], y :: r', _, h2, _ => by simp at h2
  | c :: d, [], _, h1, _, _ => by simp at h1
  | c :: d, x :: r, [], _, h2, _ => by simp at h2
  | c :: d, x :: r, y :: r', h1, h2, hh => by
    have ih := sight_congr h d r r' (by simpa using h1) (by simpa using h2) fun i hi => by
      have := hh (i + 1) (by simpa using hi)
      simpa using this
    have e1 := sight_mid h c x [] [] d r rfl
    have e2 := sight_mid h c y [] [] d r' rfl
    rw [List.nil_append, List.nil_append] at e1 e2
    rw [e1, e2]
    have ih' : sightP h (d.zip r) = sightP h (d.zip r') := ih
    rw [ih']
    by_cases hc : c = h
    · have h0 := hh 0 (by rw [hc]; rfl)
      have h0' : some x = some y := h0
      rw [Option.some.inj h0']
    · rw [if_neg hc, if_neg hc]
theorem get_put {l : List Str} {x : Str} {k j : Nat} (hk : k < l.length) : (l.take k ++ x :: l.drop (k + 1))[j]? = if j = k then some x else l[j]? := by
  have ht : (l.take k).length = k := by rw [List.length_take]; omega
  by_cases e : j = k
  · rw [if_pos e, List.getElem?_append_right (by omega), ht, e, Nat.sub_self]; rfl
  · rw [if_neg e]
    by_cases h : j < k
    · rw [List.getElem?_append_left (by omega), List.getElem?_take_of_lt h]
    · rw [List.getElem?_append_right (by omega), ht]
      obtain ⟨m, rfl⟩ : ∃ m, j = k + 1 + m := ⟨j - k - 1, by omega⟩
      rw [show k + 1 + m - k = m + 1 by omega, List.getElem?_cons_succ, List.getElem?_drop]
theorem rows_at {d : Str} {rs : List Str} (hd : allIn d "ABCD" = true) (ok : RowsOk d rs) {i c : Nat} (h : d.cps.toList[i]? = some c) : ∃ (r : Str) (x : Nat), rs[c - 65]? = some r ∧ r.cps.toList[i]? = some x ∧ r ∈ rs ∧ (c = 65 ∨ c = 66 ∨ c = 67 ∨ c = 68) ∧ c - 64 ≤ manyOf d.cps.toList := by
  obtain ⟨hn, hr⟩ := ok
  have hcm := List.mem_of_getElem? h
  have hc := abcd_mem (allIn_mem hd hcm)
  have hcn : c - 64 ≤ manyOf d.cps.toList := many_mem _ 2 c hcm
  have hk : c - 65 < rs.length := by omega
  have hi : i < d.cps.toList.length := (List.getElem?_eq_some_iff.mp h).1
  obtain ⟨r1, _⟩ := hr rs[c - 65] (List.getElem_mem hk)
  have hir : i < (rs[c - 65]).cps.toList.length := by rw [← len_list, r1, len_list]; exact hi
  exact ⟨_, _, List.getElem?_eq_getElem hk, List.getElem?_eq_getElem hir, List.getElem_mem hk, hc, hcn⟩
theorem cross_good {d : Str} {rs : List Str} (hd : allIn d "ABCD" = true) (ok : RowsOk d rs) : RowG d.length (strOf (crossL d.cps.toList rs)) := by
  refine ⟨by rw [strOf_length, cross_length, ← len_list], strOf_all fun x hx => ?_⟩
  obtain ⟨i, hi⟩ := List.getElem?_of_mem hx
  have hi2 : i < d.cps.toList.length := by
    have := (List.getElem?_eq_some_iff.mp hi).1
    rw [cross_length] at this
    exact this
  have e := List.getElem?_eq_getElem hi2
  obtain ⟨r, y, h1, h2, h3, _⟩ := rows_at hd ok e
  rw [cross_get e, crossF_eq h1 h2] at hi
  cases hi
  exact allIn_mem (ok.2 r h3).2 (List.mem_of_getElem? h2)
theorem sight_cross {d : Str} {rs : List Str} (hd : allIn d "ABCD" = true) (ok : RowsOk d rs) {k : Nat} {r : Str} (hk : rs[k]? = some r) : sightL (65 + k) d.cps.toList (crossL d.cps.toList rs) = sightL (65 + k) d.cps.toList r.cps.toList := by
  refine sight_congr _ _ _ _ (cross_length _ _) (by rw [← len_list, ← len_list]; exact (ok.2 r (List.mem_of_getElem? hk)).1) fun i hi => ?_
  obtain ⟨r2, x, h1, h2, _⟩ := rows_at hd ok hi
  rw [show 65 + k - 65 = k by omega, hk] at h1
  cases h1
  rw [cross_get hi, h2, crossF_eq (r := r) (by rw [show 65 + k - 65 = k by omega]; exact hk) h2]
theorem cross_rep {d : Str} {rs : List Str} (hd : allIn d "ABCD" = true) (ok : RowsOk d rs) {r : Str} (hr : r ∈ rs) : crossL d.cps.toList (List.replicate (manyOf d.cps.toList) r) = r.cps.toList := by
  refine cross_ext (by rw [← len_list, ← len_list]; exact (ok.2 r hr).1) fun i c h => ?_
  obtain ⟨r2, x, h1, h2, h3, h4, h5⟩ := rows_at hd ok h
  have hi : i < d.cps.toList.length := (List.getElem?_eq_some_iff.mp h).1
  have hir : i < r.cps.toList.length := by rw [← len_list, (ok.2 r hr).1, len_list]; exact hi
  exact ⟨r, _, by rw [List.getElem?_replicate, if_pos (by omega)], List.getElem?_eq_getElem hir, List.getElem?_eq_getElem hir⟩
theorem cross_put {d : Str} {rs : List Str} (hd : allIn d "ABCD" = true) (ok : RowsOk d rs) {k : Nat} (hk : k < rs.length) : crossL d.cps.toList (rs.take k ++ strOf (crossL d.cps.toList rs) :: rs.drop (k + 1)) = crossL d.cps.toList rs := by
  refine cross_ext (cross_length _ _) fun i c h => ?_
  obtain ⟨r2, x, h1, h2, h3, h4, h5⟩ := rows_at hd ok h
  have hx : (crossL d.cps.toList rs)[i]? = some x := by rw [cross_get h, crossF_eq h1 h2]
  rw [get_put hk]
  by_cases e : c - 65 = k
  · rw [if_pos e]
    exact ⟨_, x, rfl, hx, hx⟩
  · rw [if_neg e]
    exact ⟨r2, x, h1, h2, hx⟩
theorem hands_one {n k : Nat} (h : 2 ≤ n ∧ n ≤ 4) (hk : k < n) : (strOf (("ABCD" : Str).cps.toList.take n)).cps.toList[k]? = some (65 + k) := by
  rw [strOf_list, hands_range h, get_range hk]
theorem fn_law (C : Ctx K mg) {fd : FuncData} (F : FunD K "law" "law" (defArgs s_law) (defBody s_law) (defScope s_law) [] [] (He.ga K "law") fd) : FnOk P w K mg base (L2.CX P w) 5 (He.ga K "law") fd ["_law_script"] (sp_law K) := by
  refine okX F sc_law (fun vs H Q E h => ?_) (fun cdv A outer s H vs Q E hr h => ⟨_, (pss_cons (ps_set (i := 1) sc_law.nd rfl (by first | exact Or.inl rfl | exact Or.inr rfl) (pe_callD (ok__law_hand C) (hr.mono (by decide)) rfl (takes_of rfl rfl rfl rfl) (pa_cons (pv 0) pa_nil)))
      (pss_cons (ps_set (i := 2) sc_law.nd rfl (by first | exact Or.inl rfl | exact Or.inr rfl) (pe_op op_addU pe_int (pe_callD (ok__law_draw C) (hr.mono (by decide)) rfl (takes_of rfl rfl rfl rfl) (pa_cons (pv 1) (pa_cons pe_int pa_nil)))))
      (pss_cut (ps_if (pt_cmpR (op_eqU hr.units) (pe_callD (ok__law_draw C) (hr.mono (by decide)) rfl (takes_of rfl rfl rfl rfl) (pa_cons (pv 1) (pa_cons pe_int pa_nil))) pe_int (nomark _)) (pss_one (ps_set (i := 2) sc_law.nd rfl (by first | exact Or.inl rfl | exact Or.inr rfl) (pe_op op_addU (pv 2) pe_int))) pss_nil)
      (pss_cons (ps_set (i := 3) sc_law.nd rfl (by first | exact Or.inl rfl | exact Or.inr rfl) (pe_callD (ok__law_dealing C) (hr.mono (by decide)) rfl (takes_of rfl rfl rfl rfl) (pa_cons (pv 1) (pa_cons (pv 2) (pa_cons pe_int pa_nil)))))
      (pss_cons (ps_set (i := 4) sc_law.nd rfl (by first | exact Or.inl rfl | exact Or.inr rfl) (pe_callD (ok__law_hands C) (hr.mono (by decide)) rfl (takes_of rfl rfl rfl rfl) (pa_cons (pv 3) pa_nil)))
      (pss_cons (ps_set (i := 5) sc_law.nd rfl (by first | exact Or.inl rfl | exact Or.inr rfl) (pe_callD (ok__law_rows_for C) (hr.mono (by decide)) rfl (takes_of rfl rfl rfl rfl) (pa_cons (pv 1) (pa_cons (pv 4) (pa_cons (pv 2) pa_nil)))))
      (pss_cons (ps_set (i := 6) sc_law.nd rfl (by first | exact Or.inl rfl | exact Or.inr rfl) (pe_joinU (K := K) rfl pe_str (pe_lc (own := [("_law_place", 12)]) rfl sc_law.nd (pi_range1 rfl (C.free_range) (pa_cons (pv 2) pa_nil)) (blkOk_by (own := [("_law_place", 12)]) (N := N_law) (sc := defScope s_law) (by decide +kernel)) (fun _ _ _ _ _ => (pg_nameU 12 sc_law.nd rfl (by first | exact Or.inl rfl | exact Or.inr rfl) (by first | exact Or.inl rfl | exact Or.inr rfl | assumption))) (fun _ _ _ _ _ => pts_nil) (fun _ _ _ _ _ => (pe_ix (ixK (K := K) rIx rfl ix_seq) (pe_ix (ixK (K := K) rIx rfl ix_seq) (pv 5) (pe_findU (pv 4) (pe_ix (ixK (K := K) rIx rfl ix_seq) (pv 3) (pv 12) (fun _ _ => rfl)) rfl rfl rfl) (fun _ _ => rfl)) (pv 12) (fun _ _ => rfl)))) rfl rfl rfl))
      (pss_cons (ps_set (i := 7) sc_law.nd rfl (by first | exact Or.inl rfl | exact Or.inr rfl) (pe_callTy call_listU rfl (C.free_list) (by decide +kernel) (pa_cons (pv 5) pa_nil)))
      (pss_cons (ps_for (passes_of rfl) rfl (pi_range1 rfl (C.free_range) (pa_cons pe_int pa_nil)) (pg_nameU 8 sc_law.nd rfl (by first | exact Or.inl rfl | exact Or.inr rfl) (by first | exact Or.inl rfl | exact Or.inr rfl | assumption)) (pss_cons (ps_set (i := 9) sc_law.nd rfl (by first | exact Or.inl rfl | exact Or.inr rfl) (pe_callD (ok_crossed C) (hr.mono (by decide)) rfl (takes_of rfl rfl rfl rfl) (pa_cons (pv 3) (pa_cons (pv 7) pa_nil))))
      (pss_one (ps_if (PW.pt (pw_or (pt_not (pt_val (pe_callB call_isi rfl (C.free_isinstance) (by decide +kernel) (pa_cons (pv 9) (pa_cons (pe_bltn (v := .ty "str") rfl (C.free_str) (by decide +kernel) rfl) pa_nil))))) (pw_or (pt_cmpR (op_neU hr.units) (pv 9) (pv 6) (nomark _)) (pw_or1 (pt_cmpR (op_neU hr.units) (pv 7) (pv 5) (nomark _)))))) (pss_one (ps_ret pe_bl)) pss_nil))))
      (pss_cons (ps_for (passes_of rfl) rfl (pi_range1 rfl (C.free_range) (pa_cons (pe_callB call_lenU rfl (C.free_len) (by decide +kernel) (pa_cons (pv 4) pa_nil)) pa_nil)) (pg_nameU 10 sc_law.nd rfl (by first | exact Or.inl rfl | exact Or.inr rfl) (by first | exact Or.inl rfl | exact Or.inr rfl | assumption)) (pss_cons (ps_set (i := 11) sc_law.nd rfl (by first | exact Or.inl rfl | exact Or.inr rfl) (pe_callD (ok_seen C) (hr.mono (by decide)) rfl (takes_of rfl rfl rfl rfl) (pa_cons (pv 3) (pa_cons (pe_ix ix_seq (pv 5) (pv 10) (fun _ _ => rfl)) (pa_cons (pe_ix ix_seq (pv 4) (pv 10) (fun _ _ => rfl)) pa_nil)))))
      (pss_cons (ps_if (PW.pt (pw_or (pt_cmpR (op_neU hr.units) (pe_callD (ok_seen C) (hr.mono (by decide)) rfl (takes_of rfl rfl rfl rfl) (pa_cons (pv 3) (pa_cons (pv 9) (pa_cons (pe_ix ix_seq (pv 4) (pv 10) (fun _ _ => rfl)) pa_nil)))) (pv 11) (nomark _)) (pw_or1 (pt_cmpR (op_neU hr.units) (pe_callD (ok__law_sight C) (hr.mono (by decide)) rfl (takes_of rfl rfl rfl rfl) (pa_cons (pv 3) (pa_cons (pe_ix ix_seq (pv 5) (pv 10) (fun _ _ => rfl)) (pa_cons (pe_ix ix_seq (pv 4) (pv 10) (fun _ _ => rfl)) pa_nil)))) (pv 11) (nomark _))))) (pss_one (ps_ret pe_bl)) pss_nil)
      (pss_cons (ps_if (pt_cmpR (op_neU hr.units) (pe_callD (ok_crossed C) (hr.mono (by decide)) rfl (takes_of rfl rfl rfl rfl) (pa_cons (pv 3) (pa_cons (pe_op op_mulU (pe_lst (pa_cons (pe_ix ix_seq (pv 5) (pv 10) (fun _ _ => rfl)) pa_nil)) (pe_callB call_lenU rfl (C.free_len) (by decide +kernel) (pa_cons (pv 4) pa_nil))) pa_nil))) (pe_ix ix_seq (pv 5) (pv 10) (fun _ _ => rfl)) (nomark _)) (pss_one (ps_ret pe_bl)) pss_nil)
      (pss_one (ps_if (pt_cmpR (op_neU hr.units) (pe_callD (ok_crossed C) (hr.mono (by decide)) rfl (takes_of rfl rfl rfl rfl) (pa_cons (pv 3) (pa_cons (pe_op op_addU (pe_op op_addU (pe_slice sl_U (pv 5) po_none (po_some (pv 10))) (pe_lst (pa_cons (pv 9) pa_nil))) (pe_slice sl_U (pv 5) (po_some (pe_op op_addU (pv 10) pe_int)) po_none)) pa_nil))) (pv 9) (nomark _)) (pss_one (ps_ret pe_bl)) pss_nil))))))
      (pss_one (ps_ret pe_bl)))))))))))), ?_⟩)
  · obtain ⟨a, ns, rfl, _⟩ := h
    rfl
  · obtain ⟨a, ns, rfl, ha, hn, q⟩ := h
    walk_at "w0"
    refine w_hand ha hn fun hh H1 _ S1 hd => ?_
    walk_at "w"
    refine w_draw hd ⟨by decide, by decide⟩ fun d1 d1a d1b => ?_
    walk_at "w"
    refine w_cutJ (fun σ' H' => H' = H1 ∧ ∃ pl : Nat, 0 < pl ∧ pl ≤ 400 ∧ σ' = [some (.ref a), some (.ref hh), some (.int (pl : Nat)), none, none, none, none, none, none, none, none, none, none]) ?_ ?_
    · walk_at "w"
      refine w_draw hd ⟨by decide, by decide⟩ fun d3 d3a d3b => ?_
      walk_at "w"
      refine w_iteD (fun h => ?_) (fun h => ?_)
      · walk_at "w"
        refine ⟨rfl, (1 + d1 + 340).toNat, by omega, by omega, ?_⟩
        rw [show (((1 + d1 + 340).toNat : Nat) : Int) = 1 + d1 + 340 by omega]
      · walk_at "w"
        refine ⟨rfl, (1 + d1).toNat, by omega, by omega, ?_⟩
        rw [show (((1 + d1).toNat : Nat) : Int) = 1 + d1 by omega]
    · rintro σ' H' ⟨rfl, pl, p0, p1, rfl⟩
      walk_at "w"
      refine w_dealing (n := pl) hd rfl (by omega) (by decide) (by decide) fun d ld al => ?_
      have gd : GoodDealing d := good_of (n := pl - 1) (by omega) al
      have mb := many_le al
      have lh : (handsOf d).length = manyOf d.cps.toList := by
        unfold handsOf handsL
        rw [strOf_length, hands_range mb, List.length_map, List.length_range]
      have lhz : (handsOf d).length ≤ sizeLine := szN (by omega)
      have ldz : d.length ≤ sizeLine := szN (by omega)
      walk_at "w"
      refine ⟨d, rfl, al, ?_⟩
      walk_at "w"
      refine ⟨hh, handsOf d, pl, rfl, hd, by omega, by omega, by omega, by omega, fun p rs H2 hp S2 e2 lrs grs => ?_⟩
      have ok : RowsOk d rs := ⟨by omega, fun r hr => ⟨by rw [(grs r hr).1, ld], (grs r hr).2⟩⟩
      walk_at "w"
      refine w_rng1 (by omega) (by omega) ?_
      refine lc_rng (fun D i H' => H' D = some (.lst (((crossL d.cps.toList rs).take i).map chv)) ∧ Same H2 (del H' D)) (fun D hD => ⟨upd_same, ?_⟩) (fun D i H0 hD hi pv => ?_) (fun D H3 hD pv => ?_)
      · rw [del_upd]
        exact Same.to_del (fun _ _ e => e) hD
      · obtain ⟨h0, s0⟩ := pv
        have hid : i < d.cps.toList.length := by rw [← len_list]; omega
        have hdc := List.getElem?_eq_getElem hid
        obtain ⟨r, x, h1, h2, h3, hc, hcn⟩ := rows_at al ok hdc
        have ei : (0 : Int) + (i : Nat) = ((i : Nat) : Int) := by omega
        rw [ei]
        have a0 := atI_nat hdc
        have a1 : atI (rs.map V.str) ((d.cps.toList[i] - 65 : Nat) : Int) = some (.str r) := atI_nat (by rw [List.getElem?_map, h1]; rfl)
        have a2 := atI_nat h2
        have hp0 : SqL K H0 p (rs.map V.str) := SqL.of (Same.into s0 _ _ e2)
        have lr : r.length ≤ sizeLine := by rw [(grs r h3).1]; exact szN (by omega)
        walk_at "w"
        refine w_find (find_hands mb hc hcn) ?_
        walk_at "w"
        refine ⟨_, h0, ?_, ?_, ?_⟩
        · rw [List.length_map]
          refine Nat.lt_of_le_of_lt (List.length_take_le _ _) ?_
          exact Nat.lt_of_lt_of_le hi (szN (by omega))
        · rw [List.take_add_one, cross_get hdc, crossF_eq h1 h2, List.map_append]
          exact upd_same
        · rw [del_upd]; exact s0
      · obtain ⟨h0, s0⟩ := pv
        have lc : (crossL d.cps.toList rs).length = pl := by rw [cross_length, ← len_list, ld]
        have htk : (crossL d.cps.toList rs).take ((pl : Nat) : Int).toNat = crossL d.cps.toList rs := List.take_of_length_le (by rw [lc]; omega)
        rw [htk] at h0
        refine w_joinC (SqL.of h0) (by omega) ?_
        have gt := cross_good al ok
        have s23 := Same.into s0
        have e3 := s23 _ _ e2
        walk_at "w"
        refine w_listL (SqL.of e3) fun G H4 hG s4 e4 => ?_
        have e4p := s4 _ _ e3
        have shr : ∀ r ∈ rs, ∀ c ∈ r.cps.toList, c < 128 := fun r hr c hc => by
          have h3 : ∀ c ∈ SIG.cps.toList, c < 128 := by decide +kernel
          exact h3 c (of_decide_eq_true (allIn_mem (grs r hr).2 hc))
        have shl : Sh 1 (.list (rs.map PyData.str)) := Sh.list fun e he => by
          obtain ⟨r, hr, rfl⟩ := List.mem_map.mp he
          exact Sh.str (shr r hr)
        have tz : (strOf (crossL d.cps.toList rs)).length = d.length := gt.1
        walk_at "w"
        refine w_rng1 (by decide) (by decide) ?_
        refine for_rng (fun j σ' H' => ∃ o8 o9 : Option V, σ' = [some (.ref a), some (.ref hh), some (.int (pl : Nat)), some (.str d), some (.str (handsOf d)), some (.ref p), some (.str (strOf (crossL d.cps.toList rs))), some (.ref G), o8, o9, none, none, none] ∧
          (0 < j → o9 = some (.str (strOf (crossL d.cps.toList rs)))) ∧ Same H4 H') ⟨_, _, rfl, fun z => absurd z (by decide), fun _ _ e => e⟩ ?_ ?_
        · rintro j σ' H5 hj ⟨o8, o9, rfl, _, s5⟩
          walk_at "w"
          refine ⟨d, G, rs, rfl, gd, by omega, SqL.of (s5 _ _ e4), ok, fun H6 s6 => ?_⟩
          have s46 := s5.trans s6
          walk_at "w"
          refine w_iteN (fun h => absurd rfl h) (fun _ => ?_)
          walk_at "w"
          have dG : Dp K H6 (.ref G) (.list (rs.map PyData.str)) := .lst (SqL.of (s46 _ _ e4)) DpAll.of_strs
          have dp : Dp K H6 (.ref p) (.list (rs.map PyData.str)) := .lst (SqL.of (s46 _ _ e4p)) DpAll.of_strs
          refine w_neD dG dp (shl.shaped (by decide)) (shl.shaped (by decide)) ?_
          rw [eqv_same shl]
          walk_at "w"
          exact ⟨_, _, rfl, fun _ => rfl, s46⟩
        · rintro σ' H5 ⟨o8, o9, rfl, h9, s5⟩
          obtain rfl := h9 (by decide)
          walk_at "w"
          refine w_rng1 (by omega) (by omega) ?_
          refine for_rng (fun j σ' H' => ∃ o8 o10 o11 : Option V, σ' = [some (.ref a), some (.ref hh), some (.int (pl : Nat)), some (.str d), some (.str (handsOf d)), some (.ref p), some (.str (strOf (crossL d.cps.toList rs))), some (.ref G), o8, some (.str (strOf (crossL d.cps.toList rs))), o10, o11, none] ∧ Same H4 H') ⟨_, _, _, rfl, s5⟩ ?_ ?_
          · rintro k σ' H6 hk ⟨o8, o10, o11, rfl, s6⟩
            have hkm : k < manyOf d.cps.toList := by omega
            have hkr : k < rs.length := by omega
            have hrk := List.getElem?_eq_getElem hkr
            have hmr := List.getElem_mem hkr
            obtain ⟨lrk, alk⟩ := grs _ hmr
            have ei : (0 : Int) + (k : Nat) = ((k : Nat) : Int) := by omega
            rw [ei]
            have a1 : atI (rs.map V.str) ((k : Nat) : Int) = some (.str rs[k]) := atI_nat (by rw [List.getElem?_map, hrk]; rfl)
            have ho : (handsOf d).cps.toList[k]? = some (65 + k) := hands_one mb hkm
            have a2 := atI_nat ho
            have hmem : 65 + k ∈ handsL d.cps.toList := List.mem_of_getElem? ho
            have p6 := s6 _ _ e4p
            walk_at "w"
            refine ⟨d, rs[k], 65 + k, rfl, gd, by omega, by omega, alk, hmem, fun H7 s7 => ?_⟩
            have p7 := s7 _ _ p6
            walk_at "w"
            refine ⟨d, strOf (crossL d.cps.toList rs), 65 + k, rfl, gd, by omega, by omega, gt.2, hmem, fun H8 s8 => ?_⟩
            have p8 := s8 _ _ p7
            walk_at "w"
            refine w_iteN (fun h => absurd (by rw [strOf_list, sight_cross al ok hrk]) h) (fun _ => ?_)
            walk_at "w"
            refine ⟨d, rs[k], 65 + k, rfl, by omega, by omega, fun H9 s9 => ?_⟩
            have p9 := s9 _ _ p8
            walk_at "w"
            refine w_iteN (fun h => absurd rfl h) (fun _ => ?_)
            walk_at "w"
            refine w_newL (by walk_at "sz") fun l1 H10 hl1 s10 e10 => ?_
            have p10 := s10 _ _ p9
            walk_at "w"
            refine w_rep (K := K) e10 (by omega) (by omega) (szN (by show 1 * _ ≤ _; omega)) fun l2 H11 hl2 s11 e11 => ?_
            have p11 := s11 _ _ p10
            have erep : (List.replicate (((handsOf d).length : Nat) : Int).toNat [V.str rs[k]]).flatten = (List.replicate (manyOf d.cps.toList) rs[k]).map V.str := by
              rw [show (((handsOf d).length : Nat) : Int).toNat = manyOf d.cps.toList by omega, rep_range, List.map_replicate, List.map_const', List.length_range]
            rw [erep] at e11
            refine ⟨d, l2, List.replicate (manyOf d.cps.toList) rs[k], rfl, gd, by omega, SqL.of e11, ⟨by rw [List.length_replicate], fun r hr => ?_⟩, fun H12 s12 => ?_⟩
            · obtain ⟨_, rfl⟩ := List.mem_replicate.mp hr
              exact ok.2 _ hmr
            · have p12 := s12 _ _ p11
              walk_at "w"
              refine w_iteN (fun h => absurd (by rw [cross_rep al ok hmr, strOf_self]) h) (fun _ => ?_)
              walk_at "w"
              refine w_slLs (SqL.of p12) fun l3 H13 hl3 s13 e13 => ?_
              rw [cutG_V, cutG_map, cutG_to] at e13
              have p13 := s13 _ _ p12
              walk_at "w"
              refine w_newL (by walk_at "sz") fun l4 H14 hl4 s14 e14 => ?_
              have p14 := s14 _ _ p13
              refine w_addLs (s14 _ _ e13) e14 (szN (by rw [List.length_map, List.length_take, List.length_singleton]; omega)) fun l5 H15 hl5 s15 e15 => ?_
              have p15 := s15 _ _ p14
              walk_at "w"
              refine w_slLs (SqL.of p15) fun l6 H16 hl6 s16 e16 => ?_
              rw [cutG_V, cutG_map, show (k : Int) + 1 = ((k + 1 : Nat) : Int) by omega, cutG_from] at e16
              refine w_addLs (s16 _ _ e15) e16 (szN (by rw [List.length_append, List.length_map, List.length_map, List.length_take, List.length_drop, List.length_singleton]; omega)) fun l7 H17 hl7 s17 e17 => ?_
              have eput : (rs.take k).map V.str ++ [V.str (strOf (crossL d.cps.toList rs))] ++ (rs.drop (k + 1)).map V.str = (rs.take k ++ strOf (crossL d.cps.toList rs) :: rs.drop (k + 1)).map V.str := by
                simp
              rw [eput] at e17
              refine ⟨d, l7, rs.take k ++ strOf (crossL d.cps.toList rs) :: rs.drop (k + 1), rfl, gd, by omega, SqL.of e17, ⟨?_, fun r hr => ?_⟩, fun H18 s18 => ?_⟩
              · rw [List.length_append, List.length_take, List.length_cons, List.length_drop]
                omega
              · rcases List.mem_append.mp hr with h | h
                · exact ok.2 r (List.mem_of_mem_take h)
                · cases h with
                  | head => exact ⟨gt.1, gt.2⟩
                  | tail _ h => exact ok.2 r (List.mem_of_mem_drop h)
              · walk_at "w"
                refine w_iteN (fun h => absurd (by rw [cross_put al ok hkr]) h) (fun _ => ?_)
                walk_at "w"
                exact ⟨_, _, _, rfl, s6.trans (s7.trans (s8.trans (s9.trans (s10.trans (s11.trans (s12.trans (s13.trans (s14.trans (s15.trans (s16.trans (s17.trans s18)))))))))))⟩
          · rintro σ' H6 ⟨o8, o10, o11, rfl, s6⟩
            walk_at "w"
            exact q _

end
end S
set_option maxHeartbeats 0

namespace S
open PySem PySem.Spec PyProof.Rows L2
theorem dummy_loose : True := True.intro
def loose0 : List Str := ["SaidError", "NoDealing", "NoRow", "NoHand", "NoRows", "SMALL", "is_string_of", "HANDS", "SIGNS", "check_dealing", "hands_of", "is_row", "check_row", "sight", "seen", "crossed", "_law_hand", "_law_draw", "_law_dealing", "_law_hands", "_law_row", "_law_sight", "_law_rows_for"]
def loose : List Str := loose0
abbrev Rw : PySem.W.OpenRow := PySem.W.OpenLaw.row PySem.Challenge.rw_saidacross_k50_whole_crossed_rows
abbrev hk : PySem.W.Hook := He.hookD 4 fas fns
def ob (s : PySem.W.SharedT) : He.AlD := He.obsDG 4 fas fns (HandSHeadRun.getT s)
theorem ob_eq (s : PySem.W.SharedT) : ob s = hk.obs s.abs := He.obsDG_eq (HandSHeadRun.getT_eq s)
theorem run (w : World) : HandSHeadRun.RunEq Rw (PySem.W.view Rw.prog [27]) hk ob 2080 loose w := by
  intro os
  kernel_rfl
end S


open PySem PySem.W PySem.Calls PyProof.Rows
set_option maxRecDepth 100000 in
set_option maxHeartbeats 0 in
theorem PySem.Challenge.cw_saidacross_k50_whole_crossed_rows_holds : PySem.Challenge.rw_saidacross_k50_whole_crossed_rows.Holds := by
  w_on; o_law
  refine HandSHeadRun.head_any (r := OpenLaw.row PySem.Challenge.rw_saidacross_k50_whole_crossed_rows) (q := view (OpenLaw.row PySem.Challenge.rw_saidacross_k50_whole_crossed_rows).prog [27]) (H := S.hk) (ob := S.ob) (loose := S.loose) (d := HandSHeadRun.topDef (OpenLaw.row PySem.Challenge.rw_saidacross_k50_whole_crossed_rows).prog 27) (kwd := []) S.ob_eq
    (by kernel_rfl) (fun s => by kernel_rfl) S.run (by kernel_rfl) (by kernel_rfl) (by kernel_rfl) (by rfl) (by first | assumption | decide +kernel) (by decide +kernel) ⟨rfl, rfl, rfl, rfl, rfl, by decide +kernel⟩ ?hw ?hc
  case hw => w_witness2
  case hc =>
    refine L2.walk_ofE (l := PySem.Challenge.rw_saidacross_k50_whole_crossed_rows) (n := 63) (k := 5) (x := "_law_script") (CX := L2.CX0) rfl (by decide) (by kernel_rfl) ⟨rfl, by decide, by decide⟩ ?F (fun H s e s' z => z)
    intro w mg fa h Y G hmg0
    obtain ⟨K, KX, c⟩ := Y
    have C : S.Ctx K mg := ⟨c, h, KX, G⟩
    have hmg : mg ("law" : PySem.Str) = some (.ref fa) := by
      have e : (HandSHeadRun.topDef (OpenLaw.row PySem.Challenge.rw_saidacross_k50_whole_crossed_rows).prog 27).name = ("law" : PySem.Str) := by kernel_rfl
      rw [← e]
      exact hmg0
    obtain rfl : fa = He.ga K "law" := by
      have e := C.g_law
      rw [hmg] at e
      exact PySem.Value.ref.inj (Option.some.inj e)
    obtain ⟨fd, F⟩ := C.f_law
    refine ⟨K, fd, fun vs H Q _ => S.sp_law K vs H Q L2.E0, KX, fun s u => ?_, ?_, fun base X N => ?_⟩
    · exact F.bindsA (ps := ["_law_script"]) (fun _ _ _ _ _ _ us hl => match us, hl with | [_], _ => rfl) s [u] rfl
    · intro H a ns hn _ hs
      exact S.sp_law_of K H a ns hn hs
    · exact S.FnOk.to0 (S.fn_law (P := (PySem.Challenge.rw_saidacross_k50_whole_crossed_rows).prog) (w := w) (base := base) C F)
