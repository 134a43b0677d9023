import PyProof.Rows.All
import Wide.All
import OpenK.AllK
import Wide.FinOn
import HandS.ForMost
import HandS.ForExc
import HandS.Walk
import HandS.Codes
import HandS.Conv
import HandS.SortInts
import HandS.Defaults
import HandS.Style
import HandS.Steps
import HandS.Evl
import HandS.ExcCtx
import KE.GoesMore
import KE.GoesEnum
import HandS.Hot
import HandS.HotCalls
import KE.GoesComp
import HandS.ExcIs
import KE.KTryMore
import HandS.Lambda
import HandS.IsInst
import HandS.EndTab
import HandS.MakeKwOnly
import PySem.Challenge.RW_mingleway_k41_shares_dealt
set_option Elab.async false
set_option linter.all false
set_option maxRecDepth 100000
set_option maxHeartbeats 4000000
set_option Elab.async false
set_option linter.all false
set_option maxRecDepth 100000
set_option maxHeartbeats 4000000
/-! # U: own layer over the hand layer: readings by introduction, heaps as they grow -/
namespace U
open PySem L2
/-! ### named readings -/
def rMul : R2 := rI CMul fun i j => .int (i * j)
def rMod : R2 := rI (fun _ j => 0 < j) fun i j => .int (i % j)
def rFdiv : R2 := rI CDiv fun i j => .int (i / j)
def rPow : R2 := rI CPow fun i j => .int (i ^ j.toNat)
def rIAdd : R2 := rI0 fun i j => .int (i + j)
def rISub : R2 := rI0 fun i j => .int (i - j)
def rLt : R2 := rI0 fun i j => .bl (decide (i < j))
def rLe : R2 := rI0 fun i j => .bl (decide (i ≤ j))
def rAbs : List V → Hp → VK → Prop := fun xs H Q => ∃ i, xs = [.int i] ∧ Q (.int (if i < 0 then -i else i)) H
def rListOf (K : PySem.W.Frag) : List V → Hp → VK → Prop := fun xs H Q => ∃ p ys, xs = [.ref p] ∧ (SqL K H p ys ∨ SqT K H p ys) ∧ ∀ q, H q = none → Q (.ref q) (upd H q (.lst ys))
def rIntB : List V → Hp → VK → Prop := fun xs H Q => ∃ b, xs = [.bl b] ∧ Q (.int (if b then 1 else 0)) H
def rDivmod : List V → Hp → VK → Prop := fun xs H Q => ∃ i j, xs = [.int i, .int j] ∧ CDiv i j ∧ ∀ p, H p = none → Q (.ref p) (upd H p (.tup [.int (i / j), .int (i % j)]))
section
variable {X : Cx}
theorem u_mul : OpR X (binaryOp .Mult) rMul := op_mul
theorem u_mod : OpR X (binaryOp .Mod) rMod := op_mod
theorem u_fdiv : OpR X (binaryOp .FloorDiv) rFdiv := op_fdiv
theorem u_pow : OpR X (binaryOp .Pow) rPow := op_pow
theorem u_add : OpR X (binaryOp .Add) rIAdd := op_add
theorem u_sub : OpR X (binaryOp .Sub) rISub := op_sub
theorem u_lt : OpR X (compareOp .Lt) rLt := op_lt
theorem u_le : OpR X (compareOp .LtE) rLe := op_le
theorem u_gt : OpR X (compareOp .Gt) rGt := op_gt
theorem u_ge : OpR X (compareOp .GtE) rGe := op_ge
theorem u_abs : CallR X (.builtin "abs") rAbs := call_abs
theorem u_len : CallR X (.builtin "len") (Evl.rLenS X.K) := call_len_seq
theorem u_divmod : CallR X (.builtin "divmod") rDivmod := call_divmod
end
/-! ### introduction: one lemma a reading -/
section
variable {σ : St} {H : Hp} {Q : VK} {ta tb tc : TE} {v x y : V} {K : PySem.W.Frag} {D : Ends} {t u : TS}
theorem i_var {i : Nat} (h : σ[i]? = some (some v)) (q : Q v H) : tVar i σ H Q := ⟨v, h, q⟩
theorem i_c (q : Q v H) : tC v σ H Q := q
theorem i_op {r : R2} (q : ta σ H fun x H1 => tb σ H1 fun y H2 => r x y H2 Q) : tOp r ta tb σ H Q := q
theorem i_un {r : V → Hp → VK → Prop} (q : ta σ H fun x H1 => r x H1 Q) : tUn r ta σ H Q := q
theorem i_rU {g : Int → V} {i : Int} (q : Q (g i) H) : rU g (.int i) H Q := ⟨i, rfl, q⟩
theorem i_mul {i j : Int} (c : CMul i j) (q : Q (.int (i * j)) H) : rMul (.int i) (.int j) H Q := ⟨i, j, rfl, rfl, c, q⟩
theorem i_mod {i j : Int} (c : 0 < j) (q : Q (.int (i % j)) H) : rMod (.int i) (.int j) H Q := ⟨i, j, rfl, rfl, c, q⟩
theorem i_fdiv {i j : Int} (c : CDiv i j) (q : Q (.int (i / j)) H) : rFdiv (.int i) (.int j) H Q := ⟨i, j, rfl, rfl, c, q⟩
theorem i_pow {i j : Int} (c : CPow i j) (q : Q (.int (i ^ j.toNat)) H) : rPow (.int i) (.int j) H Q := ⟨i, j, rfl, rfl, c, q⟩
theorem i_add {i j : Int} (q : Q (.int (i + j)) H) : rIAdd (.int i) (.int j) H Q := ⟨i, j, rfl, rfl, q⟩
theorem i_sub {i j : Int} (q : Q (.int (i - j)) H) : rISub (.int i) (.int j) H Q := ⟨i, j, rfl, rfl, q⟩
theorem i_lt {i j : Int} (q : Q (.bl (decide (i < j))) H) : rLt (.int i) (.int j) H Q := ⟨i, j, rfl, rfl, q⟩
theorem i_le {i j : Int} (q : Q (.bl (decide (i ≤ j))) H) : rLe (.int i) (.int j) H Q := ⟨i, j, rfl, rfl, q⟩
theorem i_gt {i j : Int} (q : Q (.bl (decide (j < i))) H) : rGt (.int i) (.int j) H Q := ⟨i, j, rfl, rfl, q⟩
theorem i_ge {i j : Int} (q : Q (.bl (decide (j ≤ i))) H) : rGe (.int i) (.int j) H Q := ⟨i, j, rfl, rfl, q⟩
theorem dInt {i j : Int} : decide (V.int i = V.int j) = decide (i = j) := by
  by_cases h : i = j
  · rw [decide_eq_true h, decide_eq_true (by rw [h])]
  · rw [decide_eq_false h, decide_eq_false (fun q => h (V.int.inj q))]
theorem i_eqI {i j : Int} (q : Q (.bl (decide (i = j))) H) : rEq (.int i) (.int j) H Q := ⟨rfl, by rw [dInt]; exact q⟩
theorem i_neI {i j : Int} (q : Q (.bl (!decide (i = j))) H) : rNe (.int i) (.int j) H Q := ⟨rfl, by rw [dInt]; exact q⟩
theorem i_test (q : ta σ H fun x H' => ∃ k, x = .bl k ∧ R k H') : tTest ta σ H R := q
theorem i_tB (q : ta σ H fun x H' => ∃ k, x = .bl k ∧ R k H') : tB ta σ H R := q
theorem i_bl {k : Bool} {R : Bool → Prop} (q : R k) : ∃ k', V.bl k = .bl k' ∧ R k' := ⟨k, rfl, q⟩
theorem i_not {a : TT} {R : Bool → Hp → Prop} (q : a σ H fun c H1 => R (!c) H1) : tNot a σ H R := q
theorem i_nil {R : List V → Hp → Prop} (q : R [] H) : tNil σ H R := q
theorem i_cons {ts : TA} {R : List V → Hp → Prop} (q : ta σ H fun x H1 => ts σ H1 fun xs H2 => R (x :: xs) H2) : tCons ta ts σ H R := q
theorem i_cb {r : List V → Hp → VK → Prop} {ts : TA} (q : ts σ H fun vs H1 => r vs H1 Q) : tCB r ts σ H Q := q
theorem i_call {sp : Sp} {dvs : List V} {E : XK} {ts : TA} (q : ts σ H fun vs H1 => sp (vs ++ dvs) H1 Q E) : tCall sp dvs E ts σ H Q := q
theorem i_abs {i : Int} (q : Q (.int (if i < 0 then -i else i)) H) : rAbs [.int i] H Q := ⟨i, rfl, q⟩
theorem i_lenL {p : Addr} {ys : List V} (h : SqL K H p ys) (q : Q (.int ys.length) H) : Evl.rLenS K [.ref p] H Q := ⟨p, ys, rfl, .inl h, q⟩
theorem i_lenT {p : Addr} {ys : List V} (h : SqT K H p ys) (q : Q (.int ys.length) H) : Evl.rLenS K [.ref p] H Q := ⟨p, ys, rfl, .inr h, q⟩
theorem i_ixL {p : Addr} {xs : List V} {i : Int} (h : SqL K H p xs) (e : atI xs i = some v) (q : Q v H) : rIxL K (.ref p) (.int i) H Q := ⟨p, xs, i, v, rfl, rfl, h, e, q⟩
theorem i_ixT {p : Addr} {xs : List V} {i : Int} (h : SqT K H p xs) (e : atI xs i = some v) (q : Q v H) : rIxT K (.ref p) (.int i) H Q := ⟨p, xs, i, v, rfl, rfl, h, e, q⟩
theorem i_setL {p : Addr} {xs : List V} {i : Int} {j : Nat} {R : Hp → Prop} (h : H p = some (.lst xs)) (e : ixN xs.length i = some j) (q : R (upd H p (.lst (xs.set j v)))) : rSetL (.ref p) (.int i) v H R := ⟨p, xs, i, j, rfl, rfl, h, e, q⟩
theorem i_divmod {i j : Int} (c : CDiv i j) (q : ∀ p, H p = none → Q (.ref p) (upd H p (.tup [.int (i / j), .int (i % j)]))) : rDivmod [.int i, .int j] H Q := ⟨i, j, rfl, c, q⟩
theorem i_ifE {c : TT} (q : c σ H fun b H1 => if b = true then ta σ H1 Q else tb σ H1 Q) : tIf c ta tb σ H Q := q
/-- one way behind a fork: what follows is shown once, for all values that come -/
theorem i_cut {te : TE} (P : V → Prop) (rest : ∀ x, P x → Q x H) (q : (∀ x, P x → Q x H) → te σ H Q) : te σ H Q := q rest
/-! statements -/
theorem i_seq (q : t { D with nx := u D } σ H) : tSeq t u D σ H := q
theorem i_next (q : D.nx σ H) : tNext D σ H := q
theorem i_ret (q : ta σ H D.rt) : tRet ta D σ H := q
theorem i_drop (q : ta σ H fun _ H1 => D.nx σ H1) : tDrop ta D σ H := q
theorem i_asg {g : TG} (q : ta σ H fun x H1 => g x σ H1 D.nx) : tAsg ta g D σ H := q
theorem i_name {i : Nat} {R : St → Hp → Prop} (q : R (σ.set i (some v)) H) : gName i v σ H R := q
theorem i_gsub {r : TSet} {R : St → Hp → Prop} (q : ta σ H fun o H1 => tb σ H1 fun i H2 => r o i v H2 fun H3 => R σ H3) : gSub ta tb r v σ H R := q
theorem i_ifS {c : TT} (q : c σ H fun b H1 => if b = true then t D σ H1 else u D σ H1) : tIfS c t u D σ H := q
theorem ited {p A B : Prop} {_ : Decidable p} (h1 : p → A) (h2 : ¬ p → B) : if decide p = true then A else B := by
  by_cases h : p
  · rw [if_pos (decide_eq_true h)]; exact h1 h
  · rw [if_neg (by rw [decide_eq_false h]; exact Bool.false_ne_true)]; exact h2 h
theorem itedn {p A B : Prop} {_ : Decidable p} (h1 : ¬ p → A) (h2 : p → B) : if (!decide p) = true then A else B := by
  by_cases h : p
  · rw [if_neg (by rw [decide_eq_true h]; exact Bool.false_ne_true)]; exact h2 h
  · rw [if_pos (by rw [decide_eq_false h]; rfl)]; exact h1 h
theorem iteTd {p A B : Prop} {_ : Decidable p} (h : p) (q : A) : if decide p = true then A else B := by rw [if_pos (decide_eq_true h)]; exact q
theorem iteFd {p A B : Prop} {_ : Decidable p} (h : ¬ p) (q : B) : if decide p = true then A else B := by
  rw [if_neg (by rw [decide_eq_false h]; exact Bool.false_ne_true)]; exact q
end
theorem upd_same' {H : Hp} {p : Addr} {o : HO} : upd H p o p = some o := upd_same
theorem upd_ne'' {H : Hp} {a p : Addr} {o u : HO} (n : a ≠ p) (h : H a = some u) : upd H p o a = some u := (upd_ne n).trans h
/-- all but what stands at a is as it was -/
def But (a : Addr) (H H' : Hp) : Prop := ∀ b o, H b = some o → b ≠ a → H' b = some o
theorem But.of {a : Addr} {H : Hp} {o : HO} : But a H (upd H a o) := fun b u e n => (upd_ne n).trans e
theorem But.up {a : Addr} {H H' : Hp} {o : HO} (k : But a H H') : But a H (upd H' a o) := fun b u e n => (upd_ne n).trans (k b u e n)
theorem atI_of {xs : List V} {i : Int} {j : Nat} {v : V} (e : i = (j : Int)) (h : xs[j]? = some v) : atI xs i = some v := by rw [e]; exact atI_nat h
theorem atI_ints {ns : List Int} {i : Int} (h0 : 0 ≤ i) (h1 : i < (ns.length : Int)) : ∃ z, atI (ns.map V.int) i = some (V.int z) ∧ ns[i.toNat]? = some z := by
  have hl : i.toNat < ns.length := by omega
  refine ⟨ns[i.toNat], ?_, by simp [hl]⟩
  refine atI_of (j := i.toNat) (by omega) ?_
  rw [List.getElem?_map]
  simp [hl]
/-! ### heaps that grow: new things laid, what stood stands -/
section
variable {H H' : Hp} {p : Addr} {o : HO}
theorem same_new (h : H p = none) : Same H (upd H p o) := fun b u e => by rw [upd_ne (ne_of_none e h)]; exact e
/-- something new is laid: go on with a heap that is only known to hold it -/
theorem lay {A' : Addr → Hp → Prop} (q : ∀ p H', H p = none → Same H H' → H' p = some o → A' p H') : ∀ p, H p = none → A' p (upd H p o) := fun p h => q p _ h (same_new h) upd_same
end
end U

set_option Elab.async false
set_option linter.all false
set_option maxRecDepth 100000
set_option maxHeartbeats 4000000
/-! # U, second part: defs, methods and makers as one thing each; more readings -/
namespace U
open PySem L2
/-- how a def binds what it is given, any number of its defaults left out -/
def BD (K : PySem.W.Frag) (fd : FuncData) (ps : List Str) (dv : List V) : Prop := ∀ j, j ≤ dv.length → ∃ ds, Vals (dv.drop j) ds ∧ Binds K fd ps ds
abbrev FunA (K : PySem.W.Frag) (x q : Str) (st : Stmt) (dv : List V) (kws : List (Str × V)) (f : Addr) (fd : FuncData) : Prop := FunD K x q (defArgs st) (defBody st) (defScope st) dv kws f fd
structure DA (K : PySem.W.Frag) (mg : Str → Option Value) (x : Str) (st : Stmt) (ps : List Str) (dv : List V) : Prop where
  ex : ∃ (f : Addr) (fd : FuncData), FunA K x x st dv [] f fd ∧ mg x = some (.ref f) ∧ BD K fd ps dv
structure MA (K : PySem.W.Frag) (C : Addr) (m q : Str) (st : Stmt) (ps : List Str) (dv : List V) : Prop where
  ex : ∃ (f : Addr) (fd : FuncData), FunA K m q st dv [] f fd ∧ Cls K C ∧ Meth K C m f ∧ BD K fd ps dv
structure NA (K : PySem.W.Frag) (mg : Str → Option Value) (x : Str) (C : Addr) (q : Str) (st : Stmt) (ps : List Str) (dv : List V) : Prop where
  ex : ∃ (f : Addr) (fd : FuncData), FunA K "__init__" q st dv [] f fd ∧ Mk K C f ∧ mg x = some (.ref C) ∧ BD K fd ps dv
section
variable (P : Program) (w : World) (K : PySem.W.Frag) (mg : Str → Option Value) (base : Heap)
structure Cl (k : Nat) (x : Str) (sp : Sp) (dv : List V) : Prop where
  ex : ∃ (f : Addr) (fd : FuncData) (ps : List Str), FnOk P w K mg base (L2N.CX P w) k f fd ps sp ∧ mg x = some (.ref f) ∧ PySem.W.keepIn K (.ref f) = true ∧ BD K fd ps dv
structure Mt (k : Nat) (C : Addr) (m : Str) (sp : Sp) (dv : List V) : Prop where
  ex : ∃ (f : Addr) (fd : FuncData) (ps : List Str), FnOk P w K mg base (L2N.CX P w) k f fd ps sp ∧ Cls K C ∧ Meth K C m f ∧ BD K fd ps dv
structure Nw (k : Nat) (x : Str) (C : Addr) (sp : Sp) (dv : List V) : Prop where
  ex : ∃ (f : Addr) (fd : FuncData) (ps : List Str), FnOk P w K mg base (L2N.CX P w) k f fd ps sp ∧ Mk K C f ∧ mg x = some (.ref C) ∧ BD K fd ps dv
end
section
variable {P : Program} {w : World} {K : PySem.W.Frag} {mg : Str → Option Value} {base : Heap}
theorem DA.ok {x : Str} {st : Stmt} {ps N : List Str} {dv : List V} {k : Nat} {sp : Sp} (F : DA K mg x st ps dv) (S : FnScope N ps (defScope st)) (len : ∀ vs H Q E, sp vs H Q E → vs.length = ps.length)
    (hbody : ∀ (f : Addr) (cdv : Value) (A : Around) (outer : List Env) (s : Shared) (H : Hp) (vs : List V) (Q : VK) (E : XK), Room k (A.deeper (PyProof.Rows.envOfC x (defScope st) s.heap.objs.size f cdv)) → sp vs H Q E →
      ∃ t, PSs (cxOf (L2N.CX P w) P w K mg base N x (defScope st) f cdv A outer s H E) (defBody st) t ∧ t { nx := fun _ H' => Q .non H', rt := Q } (start N vs) H) : Cl P w K mg base (k + 1) x sp dv := by
  obtain ⟨f, fd, F, hm, b⟩ := F.ex
  exact ⟨f, fd, ps, F.ok S len fun cdv A outer s H vs Q E => hbody f cdv A outer s H vs Q E, hm, F.kp, b⟩
theorem MA.ok {C : Addr} {m q : Str} {st : Stmt} {ps N : List Str} {dv : List V} {k : Nat} {sp : Sp} (F : MA K C m q st ps dv) (S : FnScope N ps (defScope st)) (len : ∀ vs H Q E, sp vs H Q E → vs.length = ps.length)
    (hbody : ∀ (f : Addr) (cdv : Value) (A : Around) (outer : List Env) (s : Shared) (H : Hp) (vs : List V) (Q : VK) (E : XK), Room k (A.deeper (PyProof.Rows.envOfC q (defScope st) s.heap.objs.size f cdv)) → sp vs H Q E →
      ∃ t, PSs (cxOf (L2N.CX P w) P w K mg base N q (defScope st) f cdv A outer s H E) (defBody st) t ∧ t { nx := fun _ H' => Q .non H', rt := Q } (start N vs) H) : Mt P w K mg base (k + 1) C m sp dv := by
  obtain ⟨f, fd, F, c, hm, b⟩ := F.ex
  exact ⟨f, fd, ps, F.ok S len fun cdv A outer s H vs Q E => hbody f cdv A outer s H vs Q E, c, hm, b⟩
theorem NA.ok {x : Str} {C : Addr} {q : Str} {st : Stmt} {ps N : List Str} {dv : List V} {k : Nat} {sp : Sp} (F : NA K mg x C q st ps dv) (S : FnScope N ps (defScope st)) (len : ∀ vs H Q E, sp vs H Q E → vs.length = ps.length)
    (hbody : ∀ (f : Addr) (cdv : Value) (A : Around) (outer : List Env) (s : Shared) (H : Hp) (vs : List V) (Q : VK) (E : XK), Room k (A.deeper (PyProof.Rows.envOfC q (defScope st) s.heap.objs.size f cdv)) → sp vs H Q E →
      ∃ t, PSs (cxOf (L2N.CX P w) P w K mg base N q (defScope st) f cdv A outer s H E) (defBody st) t ∧ t { nx := fun _ H' => Q .non H', rt := Q } (start N vs) H) : Nw P w K mg base (k + 1) x C sp dv := by
  obtain ⟨f, fd, F, M, hm, b⟩ := F.ex
  exact ⟨f, fd, ps, F.ok S len fun cdv A outer s H vs Q E => hbody f cdv A outer s H vs Q E, M, hm, b⟩
/-! making them from what the top has left -/
theorem bd0 {x q : Str} {params : Arguments} {body : List Stmt} {scope : Scope} {f : Addr} {fd : FuncData} {ps : List Str} (F : FunD K x q params body scope [] [] f fd)
    (h : ∀ (a b c : Value) (d : Option Addr) (e g : Value) (us : List Value), us.length = ps.length → bindArgs (PySem.W.fnOf x q params body scope .none a b c d e g) ⟨us, []⟩ = pure (ps.zip us)) : BD K fd ps [] :=
  fun j _ => ⟨[], (List.drop_nil (i := j)).symm ▸ .nil, F.bindsN h⟩
theorem bd1 {x q : Str} {params : Arguments} {body : List Stmt} {scope : Scope} {f : Addr} {fd : FuncData} {ps : List Str} {v : V} (F : FunD K x q params body scope [v] [] f fd) (hp : 0 < ps.length)
    (h0 : ∀ (T : Addr) (kV doc pm : Value) (an : Option Addr) (cdv ct : Value) (us its : List Value), us.length = ps.length - 1 → its.length = [v].length →
      ∃ k, bindArgs (PySem.W.fnOf x q params body scope (.ref T) kV doc pm an cdv ct) ⟨us, []⟩ = seqItems? (.ref T) >>= k ∧ k (some its.toArray) = pure (ps.zip (us ++ its.drop 0)))
    (h1 : ∀ (T : Addr) (kV doc pm : Value) (an : Option Addr) (cdv ct : Value) (us its : List Value), us.length = ps.length → its.length = [v].length →
      ∃ k, bindArgs (PySem.W.fnOf x q params body scope (.ref T) kV doc pm an cdv ct) ⟨us, []⟩ = seqItems? (.ref T) >>= k ∧ k (some its.toArray) = pure (ps.zip (us ++ its.drop 1))) : BD K fd ps [v] := by
  intro j hj
  match j with
  | 0 => exact F.binds1 (ps.length - 1) 0 (by simp) (by show ps.length - 1 + (1 - 0) = _; omega) h0
  | 1 => exact F.binds1 ps.length 1 (by simp) (by show ps.length + (1 - 1) = _; omega) h1
  | j + 2 => exact absurd hj (by show ¬ j + 2 ≤ 1; omega)
end
section
variable {X : Cx} {E : XK}
/-- nothing is raised there -/
theorem passN {X : Cx} : Passes (L2N.CX X.prog X.w) X (fun _ _ _ => False) := fun _ _ _ _ _ _ _ h => by
  rcases h with ⟨_, _, _, _, _, _, _, _, _, _, _, _, no⟩
  exact no.elim
/-- what a callee raises leaves this def, too -/
theorem passE (tk : L2N.Takes X (fun cls d _ H => E cls d H)) : Passes (L2N.CX X.prog X.w) X E := L2N.passes_call tk fun _ _ _ _ h => h
end
/-! ### a written dict with int keys, read -/
structure WD (P : Program) (w : World) (K : PySem.W.Frag) (d : Addr) (kvs : List (Key × V)) : Prop where
  ex : ∃ (o : Obj) (es : Array DictEntry) (ep : Nat) (vs : List (Key × Value)), K.lookup d = some o ∧ o.ExactDict ∧ o.data = .dict es ep ∧ KeysOf (mixKind P w) es ∧ Pairs (mixKind P w) es.toList vs ∧ (vs.map (·.1)).Nodup ∧ KV kvs vs
def tWGet (P : Program) (w : World) (K : PySem.W.Frag) (td ty : TE) : TE := fun σ H Q => td σ H fun x H1 => ty σ H1 fun y H2 => ∃ d kvs k v, x = .ref d ∧ y = kV k ∧ WD P w K d kvs ∧ valV kvs k = some v ∧ Q v H2
/-- the value that a written dict holds at a key -/
theorem wd_get {X : Cx} {pins : List (Addr × Obj)} {σ : L2.St} {H : Hp} {s : Shared} {d : Addr} {kvs : List (Key × V)} {k : Key} {v : V} {iv : Value} {A : Around} {E Q : Value → Shared → Prop} (I : Inv X pins σ H s) (W : WD X.prog X.w X.K d kvs) (rk : RelV (kV k) iv) (at_ : valV kvs k = some v)
    (go : ∀ u s', RelV v u → Inv X pins σ H s' → Q u s') : s.TypeIs (.ref d) "dict" ∧ wpAny (model X.prog X.w) A (getItem (.ref d) iv) Q E s := by
  rcases W.ex with ⟨ob, es, ep, vs, here, exact_, data_, keys, pairs, once, rel⟩
  have is : s.heap.DictOf (mixKind X.prog X.w) d vs := ⟨ob, es, ep, I.kIn d ob here, exact_, data_, keys, pairs, once⟩
  have both := rel.val k
  rw [at_] at both
  rcases both.some_of with ⟨u, eu, ru⟩
  exact ⟨is.typeIs, wpAny_getItem_of (kV_is rk) is.mapOf eu (go u _ ru (I.tok _))⟩
theorem pe_wget {X : Cx} {o i : Expr} {pos : Pos} {td ty : TE} (po : PE X o td) (pi : PE X i ty) (pl : NoSl i) : PE X (.Subscript o i pos) (tWGet X.prog X.w X.K td ty) where
  run pins s σ H Q I h := subD_of PySem.F.slot_dict_getitem.lookup pl (thn (po.run pins s σ H _ I h) (by
    rintro u s1 ⟨x, H1, I1, rx, h1⟩
    refine thn (pi.run pins s1 σ H1 _ I1 h1) ?_
    rintro iv s2 ⟨y, H2, I2, ry, d, kvs, k, v, rfl, rfl, W, at_, q⟩
    cases rx
    exact wd_get I2 W ry at_ fun w' s' rw' I' => ⟨v, H2, I', rw', q⟩))
/-! ### things of the top, read off their objects -/
def DfT (o : Obj) (dv : List V) : Prop := dv ≠ [] ∧ ∃ (its : List Value) (n : Nat), o.data = .seq its.toArray n ∧ Vals dv its
theorem dfT {o : Obj} {dv : List V} {its : List Value} {n : Nat} (h : o.data = .seq its.toArray n) (v : Vals dv its) (ne : dv ≠ []) : DfT o dv := ⟨ne, its, n, h, v⟩
theorem dfl_of {K : PySem.W.Frag} {t : Addr} {o : Obj} {dv : List V} (l : K.lookup t = some o) (d : DfT o dv) : DflV K (.ref t) dv := by
  obtain ⟨ne, its, n, h, v⟩ := d
  exact .inr ⟨ne, t, o, its, n, rfl, l, h, v⟩
def TupO (o : Obj) (xs : List V) : Prop := ∃ (its : List Value) (n : Nat), o.cls = .type "tuple" ∧ o.data = .seq its.toArray n ∧ its.length ≤ sizeLine ∧ Vals xs its
theorem tupO {o : Obj} {xs : List V} {its : List Value} {n : Nat} (c : o.cls = .type "tuple") (h : o.data = .seq its.toArray n) (l : its.length ≤ sizeLine) (v : Vals xs its) : TupO o xs := ⟨its, n, c, h, l, v⟩
theorem sqT_of {K : PySem.W.Frag} {H : Hp} {a : Addr} {o : Obj} {xs : List V} (l : K.lookup a = some o) (d : TupO o xs) : SqT K H a xs := by
  obtain ⟨its, n, c, h, z, v⟩ := d
  exact .inr ⟨o, its.toArray, n, l, c, h, by simpa using z, by simpa using v⟩
def entI (x : Int × Tok × Value) : DictEntry := ⟨hashInt x.1, .int x.1 x.2.1, x.2.2⟩
def WDO (o : Obj) (kvs : List (Key × V)) : Prop := ∃ (l : List (Int × Tok × Value)) (ep : Nat), o.ExactDict ∧ o.data = .dict (l.map entI).toArray ep ∧ (l.map (·.1)).Nodup ∧ KV kvs (l.map fun x => ((Sum.inl x.1 : Key), x.2.2))
theorem wd_of {P : Program} {w : World} {K : PySem.W.Frag} {a : Addr} {o : Obj} {kvs : List (Key × V)} (h : K.lookup a = some o) (d : WDO o kvs) : WD P w K a kvs := by
  obtain ⟨l, ep, x, e, nd, kv⟩ := d
  refine ⟨o, _, ep, l.map fun x => ((Sum.inl x.1 : Key), x.2.2), h, x, e, ?_, ?_, ?_, kv⟩
  · intro y hy
    have hy' : y ∈ l.map entI := by simpa using hy
    obtain ⟨z, hz, rfl⟩ := List.mem_map.mp hy'
    exact ⟨Sum.inl z.1, mixKind_int P w z.1 z.2.1, rfl⟩
  · have : ∀ l : List (Int × Tok × Value), Pairs (mixKind P w) (l.map entI) (l.map fun x => ((Sum.inl x.1 : Key), x.2.2)) := by
      intro l
      induction l with
      | nil => exact .nil
      | cons z r ih => exact .cons (mixKind_int P w z.1 z.2.1) rfl ih
    simpa using this l
  · have e2 : (l.map fun x => ((Sum.inl x.1 : Key), x.2.2)).map (·.1) = (l.map (·.1)).map Sum.inl := by simp [List.map_map, Function.comp_def]
    rw [e2]
    exact List.Pairwise.map _ (fun a b h z => h (Sum.inl.inj z)) nd
section
open PySem PySem.Spec PyProof.Rows L2
/-! ### raise X() of an own class without own __init__ -/
/-- an own exception made with no argument, by its class -/
theorem own_made0 {X : Cx} {C : Addr} {bmB : List Value} {B newId initId : String} {pins : List (Addr × Obj)} {σ : L2.St} {H : Hp} {Q : XK} {E : Value → Shared → Prop} {s : Shared} (F : ExcBaseFacts B newId initId bmB) (is : PySem.W.excIn X.K C bmB newId = true) (r : Raises X (.ref C))
    (I : Inv X pins σ H s) (q : Q (.ref C) none H) : wpAny (model X.prog X.w) X.A (call (.ref C) []) (L2N.MkP X pins σ Q) E s :=
  match exc_obj I.kIn is with
  | ⟨_, _, _, _, _, _, _, _, _, _, _, _, _, _, _, _, _, here, names, plain, tail⟩ => wpAny_call_exc_subT F tail here names plain fun _ _ new => L2N.mk_of I new r q (I.hok.gone new.new)
theorem pmk_own0 {X : Cx} {C : Addr} {bmB : List Value} {B newId initId : String} {x : Str} {p pos : Pos} (F : ExcBaseFacts B newId initId bmB) (is : PySem.W.excIn X.K C bmB newId = true) (gC : X.mg x = some (.ref C)) (kept : PySem.W.keepIn X.K (.ref C) = true) (r : Raises X (.ref C)) (gl : Gl X x)
    (nd : (x == ("__debug__" : Str)) = false := by decide) : L2N.PMk X (.Call (.Name x p) [] [] pos) (fun _ H Q => Q (.ref C) none H) := fun _ _ _ _ _ I q => wpAny_Call_Name_kw (ld_glob I gl gC (PySem.W.callWith_K0 I.kIn kept (own_made0 F is r I q)) nd)
structure EA (K : PySem.W.Frag) (mg : Str → Option Value) (x : Str) (C : Addr) : Prop where
  g : mg x = some (.ref C)
  k : PySem.W.keepIn K (.ref C) = true
  q : ∃ (bmB : List Value) (B newId initId : String), ExcBaseFacts B newId initId bmB ∧ PySem.W.excIn K C bmB newId = true
  b : PySem.W.subIn K (.ref C) (.type "BaseException") = some true
  t : PySem.W.typeIn K (.ref C) = some (.type "type")
theorem ps_raise0 {X : Cx} {W : WX} {x : Str} {C : Addr} {p pos pos2 : Pos} (hc : X.calm = true) (tk : L2N.Takes X W) (T : EA X.K X.mg x C) (hg : Gl X x := by rfl) (hdb : (x == ("__debug__" : Str)) = false := by decide) :
    PS X (.Raise (some (.Call (.Name x p) [] [] pos)) none pos2) (fun _ σ H => W (.ref C) none σ H) := by
  obtain ⟨bmB, B, newId, initId, F, q⟩ := T.q
  exact L2N.ps_raise hc tk (pmk_own0 F q T.g T.k (raises_own T.b T.t) hg hdb)
end
/-! ### xs[i] op= e -/
def rGetL (K : PySem.W.Frag) : V → V → Hp → VK → Prop := fun o i H Q => ∃ p xs k v, o = .ref p ∧ i = .int k ∧ 0 ≤ k ∧ k < 2 ^ 63 ∧ SqL K H p xs ∧ xs[k.toNat]? = some v ∧ Q v H
theorem get_list {X : Cx} : PGet X (rGetL X.K) := fun pins s σ H o i ov iv Q I ro ri ⟨p, xs, k, v, eo, ei, k0, k1, sq, at_, q⟩ => by
  cases eo
  cases ei
  cases ro
  rcases ri with ⟨tk, rfl⟩
  rcases I.list sq with ⟨us, vs, plain, _⟩
  rcases vs.get at_ with ⟨u, eu, ru⟩
  refine wpAny_getItem_list plain.isList k0 k1 ?_ ⟨v, H, I, ru, q⟩
  rw [List.getElem?_toArray]
  exact eu
def ipMul : TIp := fun x y H Q => ∃ i j, x = .int i ∧ y = .int j ∧ CMul i j ∧ Q (.int (i * j)) H
theorem ip_mul {X : Cx} : PIp X .Mult ipMul := fun _ s _ H _ _ _ _ _ I rx ry ⟨i, j, ex, ey, small, q⟩ => by
  cases ex
  cases ey
  rcases rx with ⟨ti, rfl⟩
  rcases ry with ⟨tj, rfl⟩
  exact PyProof.Rows.imul_int ⟨.int (i * j), H, I.tok _, ⟨_, rfl⟩, q⟩ small.ok
section
variable {X : Cx}
theorem u_listOf : CallR X (.type "list") (rListOf X.K) := call_list_of
theorem u_intB : CallR X (.type "int") rIntB := fun pins s σ H xs us Q I r ⟨b, e, q⟩ => call_int1 pins s σ H xs us Q I r (.inr ⟨b, e, q⟩)
end
section
variable {X : Cx} {x : Str} {pos : Pos}
theorem pe_gref {a : Addr} (hg : Gl X x) (hm : X.mg x = some (.ref a)) (hd : (x == ("__debug__" : Str)) = false := by decide) : PE X (.Name x pos) (tC (.ref a)) := pe_glob hg hm rfl hd
theorem pe_gval {v : V} (hg : Gl X x) (h : ∃ u, X.mg x = some u ∧ RelV v u) (hd : (x == ("__debug__" : Str)) = false := by decide) : PE X (.Name x pos) (tC v) := by
  obtain ⟨u, hm, r⟩ := h
  exact pe_glob hg hm r hd
end
/-! ### rules with the written part named (within comprehensions) -/
section
variable {X : Cx} {e o : Expr} {te : TE} {f : Str} {pos : Pos}
theorem ixL (K : PySem.W.Frag) (h : X.K = K) : IxR X (rIxL K) := h ▸ ix_list
theorem ixT (K : PySem.W.Frag) (h : X.K = K) : IxR X (rIxT K) := h ▸ ix_tup
theorem ixS (K : PySem.W.Frag) (h : X.K = K) : IxR X (rIx K) := h ▸ ix_seq
theorem lenK (K : PySem.W.Frag) (h : X.K = K) : CallR X (.builtin "len") (Evl.rLenS K) := h ▸ u_len
theorem pe_fldK (K : PySem.W.Frag) (h : X.K = K) (he : PE X o te) (hb : attributeBase o f X.env (eval o X.env) = eval o X.env) : PE X (.Attribute o f pos) (tFld K te f) := h ▸ pe_fld he hb
theorem inK (K : PySem.W.Frag) (h : X.K = K) : OpR X (compareOp .In) (rIn K false) := h ▸ op_in_seq
theorem notInK (K : PySem.W.Frag) (h : X.K = K) : OpR X (compareOp .NotIn) (rIn K true) := h ▸ op_notIn_seq
end
/-! ### more introductions -/
section
variable {σ : St} {H : Hp} {Q : VK} {ta tb tc : TE} {v x y : V} {K : PySem.W.Frag} {D : Ends} {t u : TS}
theorem i_getL {p : Addr} {xs : List V} {k : Int} (h0 : 0 ≤ k) (h1 : k < 2 ^ 63) (h : SqL K H p xs) (e : xs[k.toNat]? = some v) (q : Q v H) : rGetL K (.ref p) (.int k) H Q := ⟨p, xs, k, v, rfl, rfl, h0, h1, h, e, q⟩
theorem i_augS {to ti te : TE} {tget : V → V → Hp → VK → Prop} {tip : TIp} {tset : TSet} (q : to σ H fun o H1 => ti σ H1 fun i H2 => tget o i H2 fun x H3 => te σ H3 fun y H4 => tip x y H4 fun z H5 => tset o i z H5 fun H6 => D.nx σ H6) : tAugS to ti te tget tip tset D σ H := q
theorem i_aug {i : Nat} {ti : TIp} (h : σ[i]? = some (some x)) (q : ta σ H fun y H1 => ti x y H1 fun z H2 => D.nx (σ.set i (some z)) H2) : tAug i ta ti D σ H := ⟨x, h, q⟩
theorem i_ipI {f : Int → Int → Int} {i j : Int} (q : Q (.int (f i j)) H) : ipI f (.int i) (.int j) H Q := ⟨i, j, rfl, rfl, q⟩
theorem i_ipMul {i j : Int} (c : CMul i j) (q : Q (.int (i * j)) H) : ipMul (.int i) (.int j) H Q := ⟨i, j, rfl, rfl, c, q⟩
theorem i_fld {f : Str} (q : ta σ H fun x H1 => ∃ a C dx fs v, x = .ref a ∧ H1 a = some (.ins C dx fs) ∧ Cls K C ∧ NoAttr K C f ∧ fs.lookup f = some v ∧ Q v H1) : tFld K ta f σ H Q := q
theorem i_fld' {a C dx : Addr} {fs : List (Str × V)} {f : Str} {R : Addr → Addr → Addr → List (Str × V) → V → Prop} (h : H a = some (.ins C dx fs)) (c : Cls K C) (n : NoAttr K C f) (l : fs.lookup f = some v) (q : R a C dx fs v) :
    ∃ a' C dx fs v, V.ref a = .ref a' ∧ H a' = some (.ins C dx fs) ∧ Cls K C ∧ NoAttr K C f ∧ fs.lookup f = some v ∧ R a' C dx fs v := ⟨a, C, dx, fs, v, rfl, h, c, n, l, q⟩
theorem i_sfld {f : Str} (q : tb σ H fun y H1 => ta σ H1 fun x H2 => ∃ a C dx fs, x = .ref a ∧ H2 a = some (.ins C dx fs) ∧ Cls K C ∧ NoAttr K C f ∧ fs.length < 1000 ∧ D.nx σ (upd H2 a (.ins C dx (putF f y fs)))) : sFld K ta tb f D σ H := q
theorem i_sfld' {a C dx : Addr} {fs : List (Str × V)} {f : Str} {R : Addr → Addr → Addr → List (Str × V) → Prop} (h : H a = some (.ins C dx fs)) (c : Cls K C) (n : NoAttr K C f) (l : fs.length < 1000) (q : R a C dx fs) :
    ∃ a' C dx fs, V.ref a = .ref a' ∧ H a' = some (.ins C dx fs) ∧ Cls K C ∧ NoAttr K C f ∧ fs.length < 1000 ∧ R a' C dx fs := ⟨a, C, dx, fs, rfl, h, c, n, l, q⟩
theorem i_meth {C : Addr} {m : Str} {sp : Sp} {dvs : List V} {E : XK} {ts : TA} (q : ta σ H fun x H1 => ∃ a dx fs, x = .ref a ∧ H1 a = some (.ins C dx fs) ∧ fs.lookup m = none ∧ ts σ H1 fun vs H2 => sp (x :: (vs ++ dvs)) H2 Q E) : tMeth C m sp dvs E ta ts σ H Q := q
theorem i_meth' {a C dx : Addr} {fs : List (Str × V)} {m : Str} {R : Prop} (h : H a = some (.ins C dx fs)) (l : fs.lookup m = none) (q : R) : ∃ a' dx fs, V.ref a = .ref a' ∧ H a' = some (.ins C dx fs) ∧ fs.lookup m = none ∧ R := ⟨a, dx, fs, rfl, h, l, q⟩
theorem i_make {C : Addr} {sp : Sp} {dvs : List V} {E : XK} {ts : TA} (q : ts σ H fun vs H1 => ∀ x dx, H1 x = none → H1 dx = none → dx ≠ x → sp (.ref x :: (vs ++ dvs)) (upd (upd H1 dx (.own x)) x (.ins C dx [])) (fun v H2 => v = .non ∧ Q (.ref x) H2) E) : tMake C sp dvs E ts σ H Q := q
theorem i_tup {ts : TA} (q : ts σ H fun xs H1 => xs.length ≤ sizeLine ∧ ∀ p, H1 p = none → Q (.ref p) (upd H1 p (.tup xs))) : tTup ts σ H Q := q
theorem i_lst {ts : TA} (q : ts σ H fun xs H1 => xs.length ≤ sizeLine ∧ ∀ p, H1 p = none → Q (.ref p) (upd H1 p (.lst xs))) : tLst ts σ H Q := q
theorem i_wget {P : Program} {w : World} (q : ta σ H fun x H1 => tb σ H1 fun y H2 => ∃ d kvs k v, x = .ref d ∧ y = kV k ∧ WD P w K d kvs ∧ valV kvs k = some v ∧ Q v H2) : tWGet P w K ta tb σ H Q := q
theorem i_sl {r : V → Option Int → Option Int → Hp → VK → Prop} {tl th : TO} (q : ta σ H fun x H1 => tl σ H1 fun l H2 => th σ H2 fun u H3 => r x l u H3 Q) : tSl r ta tl th σ H Q := q
theorem i_part {R : Option Int → Hp → Prop} (q : ta σ H fun x H1 => ∃ i, x = .int i ∧ R (some i) H1) : tPart ta σ H R := q
theorem i_part' {i : Int} {R : Int → Prop} (q : R i) : ∃ i', V.int i = .int i' ∧ R i' := ⟨i, rfl, q⟩
theorem i_nopart {R : Option Int → Hp → Prop} (q : R none H) : tNoPart σ H R := q
theorem i_slL {a : Addr} {xs : List V} {lo hi : Option Int} (h : SqL K H a xs) (q : ∀ p, H p = none → Q (.ref p) (upd H p (.lst (cutV xs lo hi)))) : rSlL K (.ref a) lo hi H Q := ⟨a, xs, rfl, h, q⟩
theorem i_bm {T : String} {r : V → List V → Hp → VK → Prop} {ts : TA} (q : ta σ H fun x H1 => tyV K T x H1 ∧ ts σ H1 fun xs H2 => r x xs H2 Q) : tBM K T r ta ts σ H Q := q
theorem i_append {l : Addr} {xs : List V} (h : H l = some (.lst xs)) (hl : xs.length < sizeLine) (q : Q .non (upd H l (.lst (xs ++ [y])))) : rAppend (.ref l) [y] H Q := ⟨l, xs, y, rfl, rfl, h, hl, q⟩
theorem tyL {l : Addr} {xs : List V} (h : H l = some (.lst xs)) : tyV K "list" (.ref l) H := Or.inl ⟨rfl, _, SqL.of h⟩
theorem i_chain {r r' : R2} (q : ta σ H fun x H1 => tb σ H1 fun y H2 => r x y H2 fun z H3 => ∃ k, z = .bl k ∧ (if k = true then tc σ H3 fun w' H4 => r' y w' H4 Q else Q (.bl false) H3)) : tChain r r' ta tb tc σ H Q := q
theorem i_pt {a : TT} {b : TT} {R : Bool → Hp → Prop} (q : a σ H fun c H1 => if c = true then b σ H1 R else R false H1) : tAnd a b σ H R := q
theorem i_or {a : TT} {b : TT} {R : Bool → Hp → Prop} (q : a σ H fun c H1 => if c = true then R true H1 else b σ H1 R) : tOr a b σ H R := q
theorem i_for {wi : TI} {g : TG} {tb : TS} (q : wi σ H fun J H1 => ∃ W : Nat → Nat → St → Hp → Prop, (∃ m, W 0 m σ H1) ∧ ∀ i m σ H, W i m σ H →
      (J.stop i H ∧ D.nx σ H) ∨ (J.go i H ∧ ∃ N : St → Hp → Prop, (∀ σ' H', N σ' H' → ∃ m', m' < m ∧ W (i + 1) m' σ' H') ∧ ∀ x H', J.yld i H x H' → g x σ H' fun σ2 H2 => tb { D with nx := N, ct := N, bk := D.nx } σ2 H2)) : tFor wi g tb D σ H := q
theorem i_lc {wi : TI} {g : TG} {tt : TT} {te : TE} {vs : List Nat} (q : wi σ H fun J H1 => ∀ D, H1 D = none → ∃ W : Nat → Nat → Hp → Prop, (∃ m, W 0 m (upd H1 D (.lst []))) ∧ ∀ i m H, W i m H →
      (J.stop i H ∧ Q (.ref D) H) ∨ (J.go i H ∧ ∃ N : Hp → Prop, (∀ H', N H' → ∃ m', m' < m ∧ W (i + 1) m' H') ∧ ∀ x H', J.yld i H x H' → g x (wipe σ vs) H' fun σ2 H2 => wipe σ2 vs = wipe σ vs ∧ tt σ2 H2 fun b H3 =>
        if b = true then te σ2 H3 fun y H4 => ∃ acc, H4 D = some (.lst acc) ∧ acc.length < sizeLine ∧ N (upd H4 D (.lst (acc ++ [y]))) else N H3)) : tLc wi g tt te vs σ H Q := q
theorem i_yes {R : Bool → Hp → Prop} (q : R true H) : tYes σ H R := q
theorem i_rep {l : Addr} {k : Int} {xs : List V} (h : H l = some (.lst xs)) (h0 : -(2 ^ 63) ≤ k) (h1 : k < 2 ^ 63) (hz : xs.length * k.toNat ≤ sizeLine) (q : ∀ p, H p = none → Q (.ref p) (upd H p (.lst (List.replicate k.toNat xs).flatten))) : rRep (.ref l) (.int k) H Q := ⟨l, k, xs, rfl, rfl, h, h0, h1, hz, q⟩
theorem i_pl (q : ta σ H fun x H1 => ∃ a C dx fs v, x = .ref a ∧ H1 a = some (.ins C dx fs) ∧ Cls K C ∧ NoAttr K C f ∧ fs.lookup f = some v ∧
    tb σ H1 fun y H2 => r v y H2 fun z H3 => ∃ dx' fs', H3 a = some (.ins C dx' fs') ∧ fs'.length < 1000 ∧ D.nx σ (upd H3 a (.ins C dx' (putF f z fs')))) : sFldAug K ta tb r f D σ H := q
theorem i_pl' {a C dx : Addr} {fs : List (Str × V)} {R : Addr → List (Str × V) → Prop} (h : H a = some (.ins C dx fs)) (hl : fs.length < 1000) (q : R dx fs) : ∃ dx' fs', H a = some (.ins C dx' fs') ∧ fs'.length < 1000 ∧ R dx' fs' := ⟨dx, fs, h, hl, q⟩
theorem i_rAdd {i j : Int} (q : Q (.int (i + j)) H) : rAdd (.int i) (.int j) H Q := ⟨i, j, rfl, rfl, q⟩
theorem i_listOf {p : Addr} {ys : List V} (h : SqL K H p ys) (q : ∀ l, H l = none → Q (.ref l) (upd H l (.lst ys))) : rListOf K [.ref p] H Q := ⟨p, ys, rfl, .inl h, q⟩
theorem i_intB {b : Bool} (q : Q (.int (if b then 1 else 0)) H) : rIntB [.bl b] H Q := ⟨b, rfl, q⟩
theorem i_in {p : Addr} {xs : List V} {neg : Bool} (h : SqL K H p xs ∨ SqT K H p xs) (hf : flatV x = true) (ha : xs.all flatV = true) (q : Q (.bl (if neg then !inV x xs else inV x xs)) H) : rIn K neg x (.ref p) H Q := ⟨p, xs, rfl, h, hf, ha, q⟩
theorem i_cutH {te : TE} (P : V → Hp → Prop) (rest : ∀ x H', P x H' → Q x H') (q : (∀ x H', P x H' → Q x H') → te σ H Q) : te σ H Q := q rest
theorem i_cutB {c : TT} {R : Bool → Hp → Prop} (b : Bool) (P : Hp → Prop) (rest : ∀ H', P H' → R b H') (q : (∀ H', P H' → R b H') → c σ H R) : c σ H R := q rest
theorem i_par3 {i j l : Nat} {ts : TA} (q : ts σ H fun vs H1 => ∃ u v w, vs = [u, v, w] ∧ D.nx (((σ.set i (some u)).set j (some v)).set l (some w)) H1) : tPar3 i j l ts D σ H := q
theorem i_par3' {z : V} {R : V → V → V → Prop} (q : R x y z) : ∃ u v w, [x, y, z] = [u, v, w] ∧ R u v w := ⟨x, y, z, rfl, q⟩
theorem i_par {i j : Nat} {ts : TA} (q : ts σ H fun vs H1 => ∃ v w, vs = [v, w] ∧ D.nx ((σ.set i (some v)).set j (some w)) H1) : tPar i j ts D σ H := q
theorem i_par' {R : V → V → Prop} (q : R x y) : ∃ v w, [x, y] = [v, w] ∧ R v w := ⟨x, y, rfl, q⟩
theorem i_lrg {te : L2.St → Hp → (Int → Int → Hp → Prop) → Prop} (q : te σ H fun a b H1 => RgOk a b ∧ ∀ q, H1 q = none → Q (.ref q) (upd H1 q (.lst (rgV a b)))) : tLstRg te σ H Q := q
theorem i_rg1 {R : Int → Int → Hp → Prop} (q : ta σ H fun x H1 => ∃ n, x = .int n ∧ R 0 n H1) : tRg1 ta σ H R := q
theorem i_rg1' {n : Int} {R : Int → Prop} (q : R n) : ∃ n', V.int n = .int n' ∧ R n' := ⟨n, rfl, q⟩
theorem i_sorted {a : Addr} {ns : List Int} (h : SqL K H a (ns.map V.int)) (q : ∀ (ns' : List Int) (p : Addr), ns'.Perm ns → ns'.Pairwise (· ≤ ·) → H p = none → Q (.ref p) (upd H p (.lst (ns'.map V.int)))) : rSortedI K [.ref a] H Q := ⟨a, ns, rfl, h, q⟩
theorem i_gtup {a : Addr} {xs : List V} {n : Nat} {g : TGs} {R : St → Hp → Prop} (h : SqT K H a xs) (l : xs.length = n) (q : g xs σ H R) : gTup K n g (.ref a) σ H R := ⟨a, xs, rfl, h, l, q⟩
theorem i_gcons {g : TG} {gs : TGs} {vs : List V} {R : St → Hp → Prop} (q : g v σ H fun σ' H' => gs vs σ' H' R) : gCons g gs (v :: vs) σ H R := ⟨v, vs, rfl, q⟩
theorem i_gnil {R : St → Hp → Prop} (q : R σ H) : gNil [] σ H R := ⟨rfl, q⟩
theorem i_bm' {l : Addr} {xs : List V} {R : Prop} (h : H l = some (.lst xs)) (q : R) : tyV K "list" (.ref l) H ∧ R := ⟨tyL h, q⟩
theorem i_rng1 {ts : TA} {R : It → Hp → Prop} (q : ts σ H fun vs H1 => ∃ j : Int, vs = [.int j] ∧ -(2 ^ 62) ≤ j ∧ j < 2 ^ 62 ∧ R (Itr 0 j.toNat) H1) : iRng1 ts σ H R := q
theorem i_rng1' {j : Int} {R : Int → Prop} (h0 : -(2 ^ 62) ≤ j) (h1 : j < 2 ^ 62) (q : R j) : ∃ j' : Int, [V.int j] = [.int j'] ∧ -(2 ^ 62) ≤ j' ∧ j' < 2 ^ 62 ∧ R j' := ⟨j, rfl, h0, h1, q⟩
theorem i_rng2 {ts : TA} {R : It → Hp → Prop} (q : ts σ H fun vs H1 => ∃ i j : Int, vs = [.int i, .int j] ∧ (-(2 ^ 62) ≤ i ∧ i < 2 ^ 62 ∧ -(2 ^ 62) ≤ j ∧ j < 2 ^ 62) ∧ R (Itr i (j - i).toNat) H1) : iRng2 ts σ H R := q
theorem i_rng2' {i j : Int} {R : Int → Int → Prop} (h : -(2 ^ 62) ≤ i ∧ i < 2 ^ 62 ∧ -(2 ^ 62) ≤ j ∧ j < 2 ^ 62) (q : R i j) : ∃ i' j' : Int, [V.int i, V.int j] = [.int i', .int j'] ∧ (-(2 ^ 62) ≤ i' ∧ i' < 2 ^ 62 ∧ -(2 ^ 62) ≤ j' ∧ j' < 2 ^ 62) ∧ R i' j' := ⟨i, j, rfl, h, q⟩
theorem i_rng3 {ts : TA} {R : It → Hp → Prop} (q : ts σ H fun vs H1 => ∃ (i j c : Int) (n : Nat), vs = [.int i, .int j, .int c] ∧ RgC i j c n ∧ R (Itc i c n) H1) : iRng3 ts σ H R := q
theorem i_rng3' {i j c : Int} {n : Nat} {R : Int → Int → Int → Nat → Prop} (h : RgC i j c n) (q : R i j c n) : ∃ (i' j' c' : Int) (n : Nat), [V.int i, V.int j, V.int c] = [.int i', .int j', .int c'] ∧ RgC i' j' c' n ∧ R i' j' c' n := ⟨i, j, c, n, rfl, h, q⟩
theorem i_enum {ts : TA} {R : It → Hp → Prop} (q : ts σ H fun vs H1 => ∃ a xs, vs = [.ref a] ∧ SqL K H1 a xs ∧ R (Ite K a) H1) : iEnum K ts σ H R := q
theorem i_enum' {a : Addr} {xs : List V} {R : Addr → Prop} (h : SqL K H a xs) (q : R a) : ∃ a' xs, [V.ref a] = [.ref a'] ∧ SqL K H a' xs ∧ R a' := ⟨a, xs, rfl, h, q⟩
theorem i_rev {ts : TA} {R : It → Hp → Prop} (q : ts σ H fun vs H1 => ∃ (a : Addr) (xs : List V), vs = [.ref a] ∧ SqL K H1 a xs ∧ R (Itv K a xs.length) H1) : iRev K ts σ H R := q
theorem i_rev' {a : Addr} {xs : List V} {R : Addr → List V → Prop} (h : SqL K H a xs) (q : R a xs) : ∃ (a' : Addr) (xs : List V), [V.ref a] = [.ref a'] ∧ SqL K H a' xs ∧ R a' xs := ⟨a, xs, rfl, h, q⟩
theorem i_plist {R : It → Hp → Prop} (q : ta σ H fun x H1 => ∃ a, x = .ref a ∧ (∃ xs, SqL K H1 a xs) ∧ R (Itl K a) H1) : iList K ta σ H R := q
theorem i_plist' {a : Addr} {xs : List V} {R : Addr → Prop} (h : SqL K H a xs) (q : R a) : ∃ a', V.ref a = .ref a' ∧ (∃ xs, SqL K H a' xs) ∧ R a' := ⟨a, rfl, ⟨xs, h⟩, q⟩
theorem i_ptup {R : It → Hp → Prop} (q : ta σ H fun x H1 => ∃ a, x = .ref a ∧ (∃ xs, SqT K H1 a xs) ∧ R (Itt K a) H1) : iTup K ta σ H R := q
theorem i_ptup' {a : Addr} {xs : List V} {R : Addr → Prop} (h : SqT K H a xs) (q : R a) : ∃ a', V.ref a = .ref a' ∧ (∃ xs, SqT K H a' xs) ∧ R a' := ⟨a, rfl, ⟨xs, h⟩, q⟩
end
/-! ### heaps: what stood stands -/
section
variable {H H' H2 : Hp} {a p : Addr} {o u : HO}
theorem upd_new (n : H p = none) (h : H a = some u) : upd H p o a = some u := (upd_ne (ne_of_none h n)).trans h
theorem Same.get (s : Same H H') (h : H a = some u) : H' a = some u := s _ _ h
theorem same_own (s : Same H H') (n : H p = none) : Same H (upd H' p o) := fun b v e => by rw [upd_ne (ne_of_none e n)]; exact s b v e
theorem same_of (e : upd H p o = H') (n : H p = none) : Same H H' := e ▸ same_new n
theorem at_of (e : upd H p o = H') : H' p = some o := e ▸ upd_same
theorem Same.sqL {K : PySem.W.Frag} {xs : List V} (s : Same H H') (h : SqL K H a xs) : SqL K H' a xs := s.seq h
theorem Same.sqT {K : PySem.W.Frag} {xs : List V} (s : Same H H') (h : SqT K H a xs) : SqT K H' a xs := by
  refine h.imp (fun rd => ?_) id
  exact rd.imp (s _ _) fun fz => fz.elim fun o k => ⟨o, s _ _ k⟩
theorem lay_and {n : Nat} {R : Addr → Prop} (h : n ≤ sizeLine) (q : ∀ p, R p) : n ≤ sizeLine ∧ ∀ p, R p := ⟨h, q⟩
theorem take_succ_of {α : Type} {l : List α} {i : Nat} {x : α} (h : l[i]? = some x) : l.take (i + 1) = l.take i ++ [x] := by
  rw [List.take_add_one, h]
  rfl
theorem rep_ints (n : Nat) (z : Int) : (List.replicate n [V.int z]).flatten = (List.replicate n z).map V.int := by
  induction n with
  | zero => rfl
  | succ n ih => rw [List.replicate_succ, List.replicate_succ, List.flatten_cons, ih]; rfl
theorem map_set_int (ns : List Int) (j : Nat) (z : Int) : (ns.map V.int).set j (.int z) = (ns.set j z).map V.int := by rw [List.map_set]
theorem ixN_of {n : Nat} {i : Int} {j : Nat} (e : i = (j : Int)) (h : j < n) : ixN n i = some j := by
  unfold ixN
  rw [if_pos (by omega), if_pos (by omega), e]
  rfl
theorem cut_take {xs : List V} {q : Nat} (h : q ≤ xs.length) : cutV xs none (some (q : Int)) = xs.take q := by
  unfold cutV
  rw [HT.sIx_none, HT.sIx_nat, List.drop_zero, Nat.min_eq_left h]
  rfl
theorem cut_take' {xs : List V} {q : Nat} (h : xs.length ≤ q) : cutV xs none (some (q : Int)) = xs := by
  unfold cutV
  rw [HT.sIx_none, HT.sIx_nat, List.drop_zero, Nat.min_eq_right h]
  exact List.take_length
theorem rgV0 (n : Int) : rgV 0 n = ((List.range n.toNat).map fun (i : Nat) => (i : Int)).map V.int := by
  unfold rgV
  rw [List.map_map, Int.sub_zero]
  exact List.map_congr_left fun i _ => by show V.int (0 + (i : Int)) = V.int i; rw [Int.zero_add]
theorem mig {ns : List Int} {i : Nat} {z : V} (h : (ns.map V.int)[i]? = some z) : z = V.int (ns.getD i 0) ∧ i < ns.length := by
  rw [List.getElem?_map] at h
  cases e : ns[i]? with
  | none => simp [e] at h
  | some y =>
    rw [e] at h
    rw [show ns.getD i 0 = y by simp [List.getD_eq_getElem?_getD, e]]
    exact ⟨(Option.some.inj h).symm, (List.getElem?_eq_some_iff.mp e).1⟩
theorem mig' {ns : List Int} {i : Nat} (h : i < ns.length) : (ns.map V.int)[i]? = some (V.int (ns.getD i 0)) := by
  rw [List.getElem?_map, List.getD_eq_getElem?_getD, List.getElem?_eq_getElem h]
  rfl
theorem lt_of_len {α : Type} {l : List α} {k n : Nat} (h : l.length = k) (hk : k < n) : l.length < n := h ▸ hk
theorem But.same {a : Addr} (k : But a H H') (n : H2 a = none) (s : Same H2 H) : Same H2 H' := fun b v e => k b v (s b v e) (ne_of_none e n)
end
/-! ### lists of ints as data -/
theorem eqvAll_ints (ns : List Int) : ∀ ms : List Int, PyData.eqvAll (ns.map .int) (ms.map .int) = decide (ns = ms) := by
  induction ns with
  | nil => intro ms; cases ms <;> simp [PyData.eqvAll]
  | cons n r ih =>
    intro ms
    cases ms with
    | nil => simp [PyData.eqvAll]
    | cons m s =>
      have := ih s
      by_cases h : n = m <;> simp [PyData.eqvAll, PyData.eqv, this, h]
theorem eqv_ints (ns ms : List Int) : PyData.eqv (.list (ns.map .int)) (.list (ms.map .int)) = decide (ns = ms) := by
  rw [← eqvAll_ints]
  simp only [PyData.eqv]
theorem dpAll_ints {K : PySem.W.Frag} {H : Hp} : ∀ (ns : List Int), DpAll K H (ns.map V.int) (ns.map PyData.int)
  | [] => .nil
  | n :: r => .cons (.int n) (dpAll_ints r)
theorem sh_ints (ns : List Int) : SeqAt.shaped (.list (ns.map PyData.int)) = true := PySem.W.shaped_ints ns
section
variable {K : PySem.W.Frag} {H : Hp} {Q : VK}
/-- two lists of ints, != -/
theorem i_neInts {a b : Addr} {ns ms : List Int} (h : SqL K H a (ns.map V.int)) (g : SqL K H b (ms.map V.int)) (q : Q (.bl (!decide (ns = ms))) H) : rNeD K (.ref a) (.ref b) H Q :=
  ⟨_, _, .lst h (dpAll_ints ns), .lst g (dpAll_ints ms), sh_ints ns, sh_ints ms, by rw [eqv_ints]; exact q⟩
theorem i_eqInts {a b : Addr} {ns ms : List Int} (h : SqL K H a (ns.map V.int)) (g : SqL K H b (ms.map V.int)) (q : Q (.bl (decide (ns = ms))) H) : rEqD K (.ref a) (.ref b) H Q :=
  ⟨_, _, .lst h (dpAll_ints ns), .lst g (dpAll_ints ms), sh_ints ns, sh_ints ms, by rw [eqv_ints]; exact q⟩
end
end U

set_option Elab.async false
set_option linter.all false
set_option maxRecDepth 100000
set_option maxHeartbeats 4000000
/-! # U: enumerate over anything that begins an iterator (here: a tuple) -/
namespace U
open PySem PySem.Spec PyProof.Rows L2
/-- the record that enumerate(v) makes over the iterator at k -/
def enumRec (k : Addr) : Obj := { cls := .type "enumerate", data := .fields #[.none, .bool false, .ref k, rawInt 0, .none, .none] }
def enumHeap (h : Heap) (o : Obj) : Heap := (h.push o).push (enumRec h.objs.size)
theorem enum_made {v : Value} {o : Obj} {G : Heap → Prop} (B : Begins v o G) :
    Meets (Builtin.«enumerate.__new__» ⟨[.type "enumerate", v], []⟩) (fun _ R s => G s.heap ∧ R (.ok (.ret (.ref (s.heap.push o).objs.size))) { s with heap := enumHeap s.heap o }) := by
  refine .of_wp ?_
  intro prog w A R s pre
  have g := pre.1
  have post := pre.2
  have sub := sub_enumerate
  have begin_ : ∀ {A₁ : Around} {E₁ Q₁ : Value → Shared → Prop}, Q₁ (.ref s.heap.objs.size) { s with heap := s.heap.push o } → wpAny (model prog w) A₁ (pyIter v) Q₁ E₁ s := fun z => B.iter prog w _ _ s _ g z
  wp_walk using begin_
  apply wpAny_stack_any
  intro frames
  apply wpAny_pure
  dsimp only
  repeat' split
  all_goals (wp_walk using begin_; exact ⟨_, rfl, post⟩)
section
variable {prog : Program} {w : World} {A : Around} {E : Value → Shared → Prop} {s : Shared}
/-- what enumerate(v) leaves: its record at the second new place, the iterator at the first -/
theorem enum_call {v : Value} {o : Obj} {G : Heap → Prop} {Q : Value → Shared → Prop} (B : Begins v o G) (g : G s.heap) (q : Q (.ref (s.heap.push o).objs.size) { s with heap := enumHeap s.heap o }) :
    wpAny (model prog w) A (call (.type "enumerate") [v]) Q E s :=
  callType_new F.called_enumerate (by decide) (F.typeCall_enumerate_1 v) (F.newCall_enumerate_1 v) (fun ob => F.args_object_init_2 ob v) F.entry_enumerate_new (enum_made B)
    ⟨g, ⟨enumRec s.heap.objs.size, Heap.get?_push_size (s.heap.push o) rfl, rfl⟩, q⟩
end
section
variable {X : Cx} {pins : List (Addr × Obj)} {σ : L2.St} {H : Hp} {s : Shared} {a e it : Addr} {i : Nat} {xs : List V}
/-- the tuple's objects at this state, one for each of its values -/
theorem tupAt (I : Inv X pins σ H s) (q : SqT X.K H a xs) : ∃ us : List Value, Vals xs us ∧ s.heap.IsTuple a us.toArray ∧ us.length = xs.length :=
  (I.tuple q).elim fun us p => ⟨us, p.1, p.2.1, p.1.length.symm⟩
/-- one more pair (place, value): a new tuple, laid and told -/
theorem pair_next {x : V} {z : Value} {E : Value → Shared → Prop} {elts : List Expr} {kk : Nat} {tp : Pos} (cool : X.A.handled = none) (I : Inv X pins σ H s) (ff : ∀ b ∈ [e, it], FpOk X pins H b)
    (re : IsEnum s.heap e it ((i : Nat) : Int) z) (ri : s.heap.IsTupleIter it a i) (d1 : e ≠ it) (d2 : a ≠ e) (d3 : a ≠ it) (q : SqT X.K H a xs) (at_ : xs[i]? = some x) :
    wpAny (model X.prog X.w) X.A (pyNext (.ref e)) (fun r s1 => ∃ u, r = some u ∧ wpAny (model X.prog X.w) X.A (letOwnedTupleGo (.Tuple elts kk tp) (.ref e) u) (fun _ s2 =>
      ∃ T, u = .ref T ∧ H T = none ∧ Inv X pins σ (upd H T (.tup [.int (i : Nat), x])) s2 ∧ (∃ z', IsEnum s2.heap e it ((i + 1 : Nat) : Int) z') ∧ s2.heap.IsTupleIter it a (i + 1) ∧ ∀ b ∈ [e, it], b ≠ T) E s1) E s := by
  rcases tupAt I q with ⟨us, vu, isT, len⟩
  rcases vu.get at_ with ⟨u, au, ru⟩
  have room : i < us.toArray.size := by
    rw [List.size_toArray]
    exact (List.getElem?_eq_some_iff.mp au).1
  have old : e < s.heap.objs.size ∧ it < s.heap.objs.size := ⟨Heap.lt_size re, ri.elim fun _ p => Heap.lt_size p.1⟩
  apply wpAny_pyNext_enum_itemD (PySem.Draws.tuple (w := X.w) (A := X.A.in1) cool it a d3 us.toArray) re ⟨ri, isT⟩ room d1
  · intro m
    rcases List.mem_cons.mp m with m | m
    · exact d1 m
    · exact d2 (List.mem_singleton.mp m).symm
  · intro u' g tk pu out st pair _ kept
    have same_u : u' = u := by
      have k : us[i]? = some u' := by simpa using pu
      exact Option.some.inj (k.symm.trans au)
    subst same_u
    refine ⟨_, rfl, ?_⟩
    apply wpAny_letOwnedTupleGo_enum (s := { s with heap := g, toks := tk + 1 }) out
    intro g2 re2 but
    have there : g2.get? s.heap.objs.size = some { cls := .type "tuple", data := .seq #[.int i tk, u'] } := (but.2 _ (Nat.ne_of_gt old.1)).trans pair
    refine ⟨s.heap.objs.size, rfl, I.hok.fresh (Nat.le_refl _), ?_, ⟨u', ?_⟩, st.1.at fun o w => (but.2 it d1.symm).trans w, ?_⟩
    · refine I.turnedNew (ch := [e, it]) ?_ ff (Nat.le_refl _) ⟨?_, [.int i tk, u'], .cons ⟨tk, rfl⟩ (.cons ru .nil), _, there, rfl, 0, rfl⟩
      · intro b o nb w
        have nbe : b ≠ e := fun y => nb (y ▸ List.mem_cons_self)
        have nbi : b ≠ it := fun y => nb (y ▸ List.mem_cons_of_mem _ List.mem_cons_self)
        exact (but.2 b nbe).trans (kept b o nbe nbi w)
      · show 2 ≤ sizeLine
        rw [sizeLine_eq]
        decide
    · rw [show ((i + 1 : Nat) : Int) = ((i : Nat) : Int) + 1 from Int.natCast_succ i]
      exact re2
    · intro b m
      rcases List.mem_cons.mp m with m | m
      · exact m ▸ Nat.ne_of_lt old.1
      · exact (List.mem_singleton.mp m) ▸ Nat.ne_of_lt old.2
/-- no more of them -/
theorem pair_stop {z : Value} {E : Value → Shared → Prop} (cool : X.A.handled = none) (I : Inv X pins σ H s) (ff : FpOk X pins H it) (re : IsEnum s.heap e it ((i : Nat) : Int) z) (ri : s.heap.IsTupleIter it a i) (d3 : a ≠ it)
    (q : SqT X.K H a xs) (out : xs.length = i) : wpAny (model X.prog X.w) X.A (pyNext (.ref e)) (fun r s1 => r = none ∧ Inv X pins σ H s1) E s := by
  rcases tupAt I q with ⟨us, _, isT, len⟩
  have n_ : us.toArray.size = i := by rw [List.size_toArray, len, out]
  have D := PySem.Draws.tuple (prog := X.prog) (w := X.w) (A := X.A.in1) cool it a d3 us.toArray
  rw [n_] at D
  exact wpAny_pyNext_enum_endD D re ⟨ri, isT⟩ fun g k => ⟨rfl, I.turned (t' := s.toks) (fun b o nb w => k b o nb w) ff.1 ff.2.1 ff.2.2.2.1 ff.2.2.2.2.1 ff.2.2.2.2.2⟩
end
/-! ### the walk over the pairs -/
/-- turn i gives the pair of i and the tuple's i-th -/
def Ite2 (K : PySem.W.Frag) (a : Addr) : It where
  go i H := ∃ xs x, SqT K H a xs ∧ xs[i]? = some x
  yld i H v H' := ∃ T, H T = none ∧ v = .ref T ∧ ∃ x, H' = upd H T (.tup [.int (i : Nat), x]) ∧ ∀ ys, SqT K H a ys → ys[i]? = some x
  stop i H := ∃ xs, SqT K H a xs ∧ xs.length = i
/-- the two iterators at turn i: the pairs' at e, the tuple's at it -/
def At2 (a e it : Addr) (i : Nat) (h : Heap) : Prop := h.IsTupleIter it a i ∧ ∃ z, IsEnum h e it ((i : Nat) : Int) z
theorem pairs_turn {P : Program} {w : World} {K : PySem.W.Frag} {elts : List Expr} {kk : Nat} {tp : Pos} {a e it : Addr} (d1 : e ≠ it) (d2 : a ≠ e) (d3 : a ≠ it) : Turn P w K (.Tuple elts kk tp) (Ite2 K a) [e, it] e (At2 a e it) where
  mem := List.mem_cons_self
  obj i h := by
    rintro ⟨⟨o, g, _, dat⟩, z, re⟩ b m
    rcases List.mem_cons.mp m with m | m
    · refine ⟨_, m ▸ re, fun v k => ?_⟩
      nomatch k
    · refine ⟨o, List.mem_singleton.mp m ▸ g, fun v k => ?_⟩
      rw [dat] at k
      nomatch k
  keep i h h' := by
    rintro ⟨ri, z, re⟩ same
    exact ⟨ri.at fun o g => same it (List.mem_cons_of_mem _ List.mem_cons_self) o g, z, same e List.mem_cons_self _ re⟩
  item X := by
    rintro rfl rfl rfl calm i pins s σ H E I ff ⟨ri, z, re⟩ ⟨xs, x, q, at_⟩
    refine thn (pair_next (elts := elts) (kk := kk) (tp := tp) (I.ok.hd calm) I ff re ri d1 d2 d3 q at_) ?_
    rintro r s1 ⟨u, eu, more⟩
    refine ⟨u, eu, thn more ?_⟩
    rintro _ s2 ⟨T, eT, fresh, I2, re2, ri2, apart⟩
    refine ⟨.ref T, _, I2, eT, ⟨T, fresh, rfl, x, rfl, fun ys q' => I.tuple_inj q q' ▸ at_⟩, ⟨ri2, re2⟩, fun b m => ?_⟩
    rw [upd_ne (apart b m)]
    exact (ff b m).1
  done X := by
    rintro rfl rfl rfl calm i pins s σ H E I ff ⟨ri, z, re⟩ ⟨xs, q, out⟩
    exact pair_stop (I.ok.hd calm) I (ff it (List.mem_cons_of_mem _ List.mem_cons_self)) re ri d3 q out
  self A i s Q E st q := st.2.elim fun _ re => wpAny_pyIter_enum re q
theorem walk_enumT {K : PySem.W.Frag} {a : Addr} {xs : List V} : Walk (Ite2 K a) xs.length (fun H => SqT K H a xs) (YPair (fun i => some (.int (i : Nat))) (fun i => xs[i]?)) where
  goes i H lt q := ⟨xs, xs[i], q, List.getElem?_eq_getElem lt⟩
  stops H q := ⟨xs, q, rfl⟩
  yields i H v H' _ q y := by
    rcases y with ⟨T, fresh, ev, x, eH, all⟩
    exact ⟨T, .int i, x, ev, fresh, eH, rfl, all xs q⟩
def iEnumT (K : PySem.W.Frag) (ts : TA) : TI := fun σ H R => ts σ H fun vs G => ∃ a xs, vs = [.ref a] ∧ SqT K G a xs ∧ R (Ite2 K a) G
theorem i_enumT {K : PySem.W.Frag} {σ : L2.St} {H : Hp} {ts : TA} {R : It → Hp → Prop} (q : ts σ H fun vs H1 => ∃ a xs, vs = [.ref a] ∧ SqT K H1 a xs ∧ R (Ite2 K a) H1) : iEnumT K ts σ H R := q
theorem i_enumT' {K : PySem.W.Frag} {H : Hp} {a : Addr} {xs : List V} {R : Addr → Prop} (h : SqT K H a xs) (q : R a) : ∃ a' xs, [V.ref a] = [.ref a'] ∧ SqT K H a' xs ∧ R a' := ⟨a, xs, rfl, h, q⟩
section
variable {X : Cx} {e : Expr} {ts : TA} {p pos : Pos}
/-- a call of a builtin type by its name, of one argument: up to the call itself -/
theorem name_call1 {x : Str} {T : String} {pins : List (Addr × Obj)} {σ : L2.St} {H : Hp} {s : Shared} {Q : Value → Shared → Prop} {Q' : List V → Hp → Prop} (gl : Gl X x) (no : X.mg x = none) (ar : PA X [e] ts) (one : starEach [e] X.env = [(false, eval e X.env)])
    (bt : bootBuiltins x = some (.type T)) (n1 : x ≠ "__name__") (n2 : (x == ("__debug__" : Str)) = false) (I : Inv X pins σ H s) (h : ts σ H Q')
    (go : ∀ us s1, AP X pins σ Q' us s1 → wpAny (model X.prog X.w) X.A (call (.type T) us) Q X.xe s1) : wpAny (model X.prog X.w) X.A (eval (.Call (.Name x p) [e] [] pos) X.env) Q X.xe s :=
  Call_ (ld_blt I gl no bt (callWith_type1 (thn (ar.run pos pins s σ H Q' I h) go) one rfl) n1 n2)
theorem pi_enumT {elts : List Expr} {kk : Nat} {tp : Pos} (gl : Gl X "enumerate") (no : X.mg "enumerate" = none) (ar : PA X [e] ts) (one : starEach [e] X.env = [(false, eval e X.env)] := by rfl) : PI X (.Tuple elts kk tp) (.Call (.Name "enumerate" p) [e] [] pos) (iEnumT X.K ts) where
  run pins s σ H R I h := by
    refine name_call1 gl no ar one boot_enumerate (by decide) (by decide) I h ?_
    rintro us s1 ⟨vs, H1, I1, rs, a, xs, rfl, q, r⟩
    rcases rs with _ | ⟨ra, _ | _⟩
    rcases tupAt I1 q with ⟨its, _, isT, _⟩
    have lt : a < s1.heap.objs.size := isT.elim fun _ k => Heap.lt_size k.1
    have hold : ∀ b o, s1.heap.get? b = some o → (enumHeap s1.heap { cls := .type "tuple_iterator", data := .fields #[.ref a, .int 0 0] }).get? b = some o := fun b o k => Heap.get?_push_of_some _ (Heap.get?_push_of_some _ k)
    have fst : (enumHeap s1.heap { cls := .type "tuple_iterator", data := .fields #[.ref a, .int 0 0] }).get? s1.heap.objs.size = some { cls := .type "tuple_iterator", data := .fields #[.ref a, .int 0 0] } := Heap.get?_push_of_some _ (Heap.get?_push_size s1.heap rfl)
    cases ra
    refine enum_call (begins_tuple a its.toArray) isT ?_
    have snd : (enumHeap s1.heap { cls := .type "tuple_iterator", data := .fields #[.ref a, .int 0 0] }).get? (s1.heap.push { cls := .type "tuple_iterator", data := .fields #[.ref a, .int 0 0] }).objs.size = some (enumRec s1.heap.objs.size) := Heap.get?_push_size _ rfl
    have two : (s1.heap.push { cls := .type "tuple_iterator", data := .fields #[.ref a, .int 0 0] }).objs.size = s1.heap.objs.size + 1 := Array.size_push _
    rw [two] at snd ⊢
    refine wpAny_pyIter_enum (i := 0) (it := s1.heap.objs.size) (old := .none) snd ?_
    refine ⟨s1.heap.objs.size + 1, [s1.heap.objs.size + 1, s1.heap.objs.size], At2 a (s1.heap.objs.size + 1) s1.heap.objs.size, Ite2 X.K a, H1, rfl, I1.kept hold, pairs_turn (Nat.succ_ne_self _) (Nat.ne_of_lt (Nat.lt_succ_of_lt lt)) (Nat.ne_of_lt lt), ⟨⟨_, fst, rfl, rfl⟩, .none, snd⟩, fun b m => ?_, r⟩
    have old : s1.heap.objs.size ≤ b := by
      rcases List.mem_cons.mp m with m | m
      · exact m ▸ Nat.le_succ _
      · exact Nat.le_of_eq (List.mem_singleton.mp m).symm
    exact I1.fpOk old (I1.hok.fresh old)
end
end U

set_option Elab.async false
set_option linter.all false
set_option maxRecDepth 100000
set_option maxHeartbeats 4000000
namespace U
open PySem PySem.Spec PyProof.Rows L2
/-- what stands, stands -/
def Stays (h g : Heap) : Prop := ∀ b o, h.get? b = some o → g.get? b = some o
theorem Stays.rfl {h : Heap} : Stays h h := fun _ _ e => e
theorem Stays.trans {h g k : Heap} (x : Stays h g) (y : Stays g k) : Stays h k := fun b o e => y b o (x b o e)
theorem Stays.push {h : Heap} {o : Obj} : Stays h (h.push o) := fun _ _ e => Heap.get?_push_of_some _ e
theorem hot_stays {A : Around} {x1 : Addr} {h g : Heap} (hot : HotX.HotAt A x1 h) (k : Stays h g) : HotX.HotAt A x1 g := ⟨hot.1, hot.2.elim fun o p => ⟨o, p.elim fun vs q => ⟨vs, k _ _ q.1, q.2⟩⟩⟩
section
variable {prog : Program} {w : World} {A : Around} {E : Value → Shared → Prop} {s : Shared}
/-- a StopIteration, just made, is raised while x1 is handled -/
theorem stop_hot {α : Type} {x1 : Addr} {h : Heap} {tp : Obj} {vs : Array Value} {Q : α → Shared → Prop} (hot : HotX.HotAt A x1 h) (three : 2 < vs.size)
    (go : ∀ g e, Stays h g → (∃ o b, e = .ref b ∧ g.get? b = some o ∧ o.cls = .type "StopIteration") → E e { s with heap := g }) :
    wpAny (model prog w) A (raiseNew (.ref (h.push tp).objs.size) : Sem α) Q E { s with heap := (h.push tp).push { cls := .type "StopIteration", data := .fields vs } } := by
  have two : Stays h (h.push tp) := .push
  have old : x1 ≠ (h.push tp).objs.size := by
    have ⟨_, o, vs, k, _⟩ := hot_stays hot two
    exact Nat.ne_of_lt (Heap.lt_size k)
  refine HotX.raiseNew_hot (hot_stays hot (two.trans .push)) old (Heap.get?_push_size _ rfl) rfl three (go _ _ ?_ ⟨_, _, rfl, Heap.get?_update_self _ (Heap.get?_push_size _ rfl) rfl, rfl⟩)
  intro b o k
  have lt : b < (h.push tp).objs.size := Heap.lt_size (two b o k)
  rw [Heap.get?_update_ne _ _ _ _ (Nat.ne_of_lt lt)]
  exact (two.trans .push) b o k
/-- __next__ of an iterator, by the call of its slot -/
theorem next_by {it : Addr} {T id : String} {Q : Option Value → Shared → Prop} (is : s.TypeIs (.ref it) T) (sl : Slot T (Str.ofString "__next__") id)
    (h : wpAny (model prog w) A (call (.builtin id) [.ref it]) (fun v => Q (some v)) (fun e s1 => (∃ o b, e = .ref b ∧ s1.heap.get? b = some o ∧ o.cls = .type "StopIteration") ∧ Q none s1) s) : wpAny (model prog w) A (pyNext (.ref it)) Q E s := by
  unfold pyNext
  refine wpAny_bind (wpAny_attempt (wpAny_callSpecial?_slot is sl (wpAny_mono h (fun v s1 q => wpAny_pure q) ?_)))
  rintro e s1 ⟨⟨o, b, rfl, k, c⟩, q⟩
  wp_walk
  rw [c, isSubtype_stop]
  exact wpAny_pure (wpAny_pure q)
theorem tuple_end_hot {x1 it t : Addr} {i : Nat} {items : Array Value} {Q : Option Value → Shared → Prop} (hot : HotX.HotAt A x1 s.heap) (apart : x1 ≠ it) (hit : s.heap.IsTupleIter it t i) (ht : s.heap.IsTuple t items) (out : items[i]? = none)
    (go : ∀ g, Heap.ExtBut it s.heap g → Q none { s with heap := g }) : wpAny (model prog w) A (pyNext (.ref it)) Q E s := by
  rcases hit with ⟨⟨c, d, sl⟩, here, hc, hd⟩
  rcases ht with ⟨⟨c2, d2, sl2⟩, there, hc2, n, hd2⟩
  cases hc
  cases hd
  cases hc2
  cases hd2
  have is : s.TypeIs (.ref it) "tuple_iterator" := ⟨_, here, rfl⟩
  refine next_by is F.slot_tuple_iterator_next (wpAny_call_entry F.slot_tuple_iterator_next is F.entry_tuple_iterator_next ?_ (F.args_tuple_iterator_next_1 _))
  unfold Builtin.«tuple_iterator.__next__»
  wp_walk
  rw [show ((i : Int)).toNat = i from Int.toNat_natCast i, out]
  wp_walk
  have mid : Heap.SameBut it s.heap (s.heap.update it (Obj.mapFields fun x => x.setIfInBounds 0 Value.none)) := .update _ _ _
  refine stop_hot (x1 := x1) (h := s.heap.update it (Obj.mapFields fun x => x.setIfInBounds 0 Value.none)) ⟨hot.1, ?_⟩ ?_ fun g e k is => ⟨is, go g fun b o nb e => k _ _ (mid.extBut b o nb e)⟩
  · rcases hot.2 with ⟨o, vs, e, r⟩
    exact ⟨o, vs, mid.extBut _ _ apart e, r⟩
  · rw [Array.size_append]
    exact Nat.lt_of_lt_of_le (show 2 < 6 by decide) (Nat.le_add_right _ _)
theorem list_end_hot {x1 it t : Addr} {i : Nat} {items : Array Value} {Q : Option Value → Shared → Prop} (hot : HotX.HotAt A x1 s.heap) (apart : x1 ≠ it) (hit : s.heap.IsListIter it t i) (ht : s.heap.IsList t items) (out : items[i]? = none)
    (go : ∀ g, Heap.ExtBut it s.heap g → Q none { s with heap := g }) : wpAny (model prog w) A (pyNext (.ref it)) Q E s := by
  rcases hit with ⟨⟨c, d, sl⟩, here, hc, hd⟩
  rcases ht with ⟨⟨c2, d2, sl2⟩, there, hc2, n, hd2⟩
  cases hc
  cases hd
  cases hc2
  cases hd2
  have is : s.TypeIs (.ref it) "list_iterator" := ⟨_, here, rfl⟩
  refine next_by is slot_listiter_next (wpAny_call_entry slot_listiter_next is entry_listiter_next ?_ (args_listiter_next _))
  unfold Builtin.«list_iterator.__next__»
  wp_walk
  rw [show ((i : Int)).toNat = i from Int.toNat_natCast i, out]
  wp_walk
  have mid : Heap.SameBut it s.heap (s.heap.update it (Obj.mapFields fun x => x.setIfInBounds 0 Value.none)) := .update _ _ _
  refine stop_hot (x1 := x1) (h := s.heap.update it (Obj.mapFields fun x => x.setIfInBounds 0 Value.none)) ⟨hot.1, ?_⟩ ?_ fun g e k is => ⟨is, go g fun b o nb e => k _ _ (mid.extBut b o nb e)⟩
  · rcases hot.2 with ⟨o, vs, e, r⟩
    exact ⟨o, vs, mid.extBut _ _ apart e, r⟩
  · rw [Array.size_append]
    exact Nat.lt_of_lt_of_le (show 2 < 6 by decide) (Nat.le_add_right _ _)
/-- a tuple unpacked into as many names while an exception is handled: all that stood stands -/
theorem unpack_hot {x1 t : Addr} {items : Array Value} {Q : List Value → Shared → Prop} (hot : HotX.HotAt A x1 s.heap) (ht : s.heap.IsTuple t items) (go : ∀ g, Stays s.heap g → Q items.toList { s with heap := g }) :
    wpAny (model prog w) A (unpackItems (.ref t) items.size none) Q E s := by
  have is : s.TypeIs (.ref t) "tuple" := ht.elim fun o p => ⟨o, p.1, p.2.1⟩
  have before : t < s.heap.objs.size ∧ x1 < s.heap.objs.size := ⟨ht.elim fun _ p => Heap.lt_size p.1, hot.2.elim fun _ p => p.elim fun _ q => Heap.lt_size q.1⟩
  unfold unpackItems notIterableAtAll
  wp_walk
  rw [F.slot_tuple_iter.lookup]
  refine wpAny_pure ?_
  rw [if_pos (show (some (Value.builtin "tuple.__iter__")).isSome = true from rfl)]
  refine wpAny_pure ?_
  rw [if_neg Bool.false_ne_true]
  refine wpAny_bind (wpAny_holding (wpAny_pyIter_tuple ht ?_))
  dsimp only
  have hit : ({ s with heap := s.heap.push { cls := .type "tuple_iterator", data := .fields #[.ref t, .int 0 0] } } : Shared).heap.IsTupleIter s.heap.objs.size t 0 := ⟨_, Heap.get?_push_size _ rfl, rfl, rfl⟩
  refine wpAny_bind (wpAny_holding (wpAny_draw_tuple (Nat.ne_of_lt before.1) items.size 0 _ _ hit (ht.push _) (by omega) fun g spent same => ?_))
  have all : (items.toList.drop 0).take items.size = items.toList := by rw [List.drop_zero, ← Array.length_toList, List.take_length]
  rw [all, Array.length_toList]
  rw [if_neg (Nat.lt_irrefl _)]
  have stood : ∀ b o, s.heap.get? b = some o → g.get? b = some o := fun b o k => same.extBut b o (Nat.ne_of_lt (Heap.lt_size k)) (Heap.get?_push_of_some _ k)
  have ht2 : g.IsTuple t items := ht.elim fun o p => ⟨o, stood _ _ p.1, p.2⟩
  have none_ : items[0 + items.size]? = none := Array.getElem?_eq_none (by omega)
  refine wpAny_bind (wpAny_holding (tuple_end_hot (hot_stays hot stood) (Nat.ne_of_lt before.2) spent ht2 none_ fun g' ex => ?_))
  rw [if_neg (show ¬ (Option.none : Option Value).isSome = true from Bool.false_ne_true)]
  exact wpAny_pure (go g' fun b o k => ex b o (Nat.ne_of_lt (Heap.lt_size k)) (stood b o k))
/-- a, b = a pair (two local names), while an exception is handled -/
theorem pair_hot {x1 t : Addr} {env : Env} {a b : Str} {pa pb tp : Pos} {kk : Nat} {u v : Value} {m : Str → Option Value} {Q : Unit → Shared → Prop} (hot : HotX.HotAt A x1 s.heap) (ht : s.heap.IsTuple t #[u, v]) (ns : s.heap.Ns env.locals m)
    (la : env.kindOf a = some .local) (lb : env.kindOf b = some .local) (plain : (env.scope.kind == .class || (env.scope.kind == .module && env.locals != env.globals)) = false)
    (go : ∀ g tk, g.Ns env.locals (fun x => if x = b then some v else if x = a then some u else m x) → Heap.ExtBut env.locals s.heap g → s.toks ≤ tk → Q () { s with heap := g, toks := tk }) :
    wpAny (model prog w) A (assign (.Tuple [.Name a pa, .Name b pb] kk tp) env (.ref t)) Q E s := by
  rw [assign_Tuple]
  refine wpAny_bind (wpAny_standAt ?_)
  unfold unpack
  refine wpAny_bind (wpAny_holding (unpack_hot (items := #[u, v]) hot ht fun g k => ?_))
  refine assignInOrder_cons (wpAny_assign_Name (wpAny_storeName_local la (ns.keeps k) (fun g1 n1 b1 => ?_) plain))
  refine assignInOrder_cons (wpAny_assign_Name (wpAny_storeName_local lb n1 (fun g2 n2 b2 => ?_) plain))
  refine assignInOrder_nil (go _ _ n2 (fun c o ne e => b2.extBut c o ne (b1.extBut c o ne (k c o e))) (by show s.toks ≤ s.toks + 1 + 1; omega))
/-- a list of references walked with several names as target, while x1 is handled -/
theorem goes_hot {x1 l I : Addr} {items : Array Value} {elts : List Expr} {kk : Nat} {tp : Pos} (n1 : l ≠ I) (n2 : x1 ≠ I) (refs : ∀ (i : Nat) v, items[i]? = some v → ∃ T, v = .ref T) :
    Goes prog w A (.Tuple elts kk tp) I [I, l, x1] [I] items.size (fun i v _ => items[i]? = some v) (fun i h => h.IsListIter I l i ∧ h.IsList l items ∧ HotX.HotAt A x1 h) where
  sub b m := List.mem_singleton.mp m ▸ List.mem_cons_self
  frame i h h' st k := ⟨st.1.at fun o e => k I List.mem_cons_self o e, st.2.1.at fun o e => k l (List.mem_cons_of_mem _ List.mem_cons_self) o e,
    st.2.2.1, st.2.2.2.elim fun o p => ⟨o, p.elim fun vs q => ⟨vs, k x1 (List.mem_cons_of_mem _ (List.mem_cons_of_mem _ List.mem_cons_self)) _ q.1, q.2⟩⟩⟩
  goes i s Q E lt st go := by
    rcases st with ⟨it, li, hot⟩
    have at_ : items[i]? = some items[i] := Array.getElem?_eq_getElem lt
    refine wpAny_pyNext_list_item it li at_ fun g it2 same => ⟨_, rfl, ?_⟩
    rcases refs i _ at_ with ⟨T, eT⟩
    have keep : ∀ b o, b ∉ [I] → s.heap.get? b = some o → g.get? b = some o := fun b o nm e => same.extBut b o (fun z => nm (z ▸ List.mem_cons_self)) e
    have st2 : g.IsListIter I l (i + 1) ∧ g.IsList l items ∧ HotX.HotAt A x1 g := ⟨it2, li.at fun o e => same.extBut l o n1 e, hot.1, hot.2.elim fun o p => ⟨o, p.elim fun vs q => ⟨vs, same.extBut _ _ n2 q.1, q.2⟩⟩⟩
    rw [eT]
    exact wpAny_letOwnedTupleGo_listiter it2 (go _ g s.toks (by rw [← eT]; exact at_) st2 keep (Nat.le_refl _))
  stops s Q E st go := list_end_hot st.2.2 n2 st.1 st.2.1 (Array.getElem?_eq_none (Nat.le_refl _)) fun g ex => ⟨rfl, go g s.toks (fun b o nm e => ex b o (fun z => nm (z ▸ List.mem_cons_self)) e) (Nat.le_refl _)⟩
  self i s Q E st q := wpAny_pyIter_listiter st.1 q
end
section
variable {M : Model} {A : Around} {E : Value → Shared → Prop} {s : Shared} {env : Env}
/-- one test, of a local name that holds a truth value -/
theorem test_name {b : Str} {pb : Pos} {m : Str → Option Value} {k : Bool} {Q : Bool → Shared → Prop} (kind : env.scope.kind = .function) (lb : env.kindOf b = some .local) (ns : s.heap.Ns env.locals m) (hv : m b = some (.bool k)) (nd : (b == ("__debug__" : Str)) = false) (q : Q k s) :
    wpAny M A (testsOf [.Name b pb] env) Q E s := by
  have one : wpAny M A (isTrue (.Name b pb) env (eval (.Name b pb) env)) Q E s := wpAny_isTrue_value (wpAny_Name (wpAny_loadName_local kind lb ns hv (wpAny_truthy_bool q)) nd)
  show wpAny M A (forIn [Expr.Name b pb] true _) Q E s
  simp only [List.forIn_cons, List.forIn_nil, if_pos]
  refine wpAny_bind (wpAny_bind (wpAny_mono one (fun ok s1 h => wpAny_pure ?_) fun _ _ x => x))
  exact wpAny_pure h
end
/-! ### [a for a, b in pairs if b], while an exception is handled -/
/-- a list of new pairs of a text and a truth value -/
def Pairs (K : PySem.W.Frag) (H : Hp) (p : Addr) (ws : List (Str × Bool)) : Prop := ∃ xs : List V, SqL K H p xs ∧ xs.length = ws.length ∧ ∀ (i : Nat) (w : Str × Bool), ws[i]? = some w → ∃ t, xs[i]? = some (.ref t) ∧ H t = some (.tup [.str w.1, .bl w.2])
def picked (ws : List (Str × Bool)) : List V := (ws.filter (·.2)).map fun w => .str w.1
def tPick (K : PySem.W.Frag) (te : TE) : TE := fun σ H Q => te σ H fun x H1 => ∃ p ws, x = .ref p ∧ Pairs K H1 p ws ∧ ∀ q, H1 q = none → Q (.ref q) (upd H1 q (.lst (picked ws)))
theorem picked_succ {ws : List (Str × Bool)} {i : Nat} {w : Str × Bool} (h : ws[i]? = some w) : picked (ws.take (i + 1)) = picked (ws.take i) ++ (if w.2 = true then [.str w.1] else []) := by
  unfold picked
  rw [take_succ_of h, List.filter_append, List.map_append]
  cases e : w.2 <;> simp [e]
theorem picked_le (ws : List (Str × Bool)) : (picked ws).length ≤ ws.length := by
  unfold picked
  rw [List.length_map]
  exact List.length_filter_le ..
theorem pe_pickH {X : Cx} {iter : Expr} {te : TE} {a b : Str} {pa pb pa2 pb2 tp pos : Pos} {kk : Nat} {scope : Scope} {cl : List (Str × Addr)} (hc : L2H.HotC X) (he : PE X iter te) (clos : closureFor scope X.env = pure cl) (cells : ∀ y ∈ scope.names, y.2 ≠ .cell)
    (kind : scope.kind = .function) (names : ∀ y ∈ scope.names, y.2 = .local → scope.names.lookup y.1 = some .local) (la : scope.names.lookup a = some .local) (lb : scope.names.lookup b = some .local) (ne : a ≠ b) (na : (a == ("__debug__" : Str)) = false) (nb : (b == ("__debug__" : Str)) = false)
    (fold : ∀ x, foldedSetIterable iter X.env x = pure x) : PE X (.ListComp (.Name a pa2) [⟨.Tuple [.Name a pa, .Name b pb] kk tp, iter, [.Name b pb2], 0⟩] scope pos) (tPick X.K te) where
  run pins s σ H Q I h := by
    refine ListComp_goes clos cells kind names (thn (he.run pins s σ H _ I h) ?_) fold
    rintro xv s1 ⟨x, H1, I1, rx, p, ws, rfl, ⟨xs, sq, len, each⟩, q⟩
    cases rx
    obtain ⟨its, vs, plain, size⟩ := I1.list sq
    obtain ⟨x1, hot⟩ := hc.at I1
    have len2 : its.length = ws.length := vs.length.symm.trans len
    refine wpAny_pyIter_list plain.isList ?_
    have pOld : p < s1.heap.objs.size := plain.isList.elim fun _ k => Heap.lt_size k.1
    have xOld : x1 < s1.heap.objs.size := hot.2.elim fun _ k => k.elim fun _ k => Heap.lt_size k.1
    have grown : Stays s1.heap (s1.heap.push { cls := .type "list_iterator", data := .fields #[.ref p, .int 0 0] }) := .push
    -- each item: a pair
    have pair : ∀ (i : Nat) v, its.toArray[i]? = some v → ∃ t w tk, v = .ref t ∧ ws[i]? = some w ∧ s1.heap.IsTuple t #[.str w.1 tk, .bool w.2] := by
      intro i v k
      have k' : its[i]? = some v := by simpa using k
      have lt : i < ws.length := len2 ▸ (List.getElem?_eq_some_iff.mp k').1
      obtain ⟨t, xt, ht⟩ := each i _ (List.getElem?_eq_getElem lt)
      obtain ⟨u, eu, ru⟩ := vs.get xt
      have same : v = u := Option.some.inj (k'.symm.trans eu)
      obtain ⟨us, vu, isT, _⟩ := I1.tuple (SqT.of ht)
      cases ru
      rcases vu with _ | ⟨⟨tk, r1⟩, _ | ⟨r2, _ | _⟩⟩
      cases r1
      cases r2
      exact ⟨t, ws[i], tk, same, List.getElem?_eq_getElem lt, isT⟩
    have refs : ∀ (i : Nat) v, its.toArray[i]? = some v → ∃ T, v = .ref T := fun i v k => (pair i v k).elim fun t r => r.elim fun _ r => r.elim fun _ r => ⟨t, r.1⟩
    refine ⟨_, _, _, _, _, _, rfl, goes_hot (x1 := x1) (Nat.ne_of_lt pOld) (Nat.ne_of_lt xOld) refs, ?_, ⟨⟨_, Heap.get?_push_size _ rfl, rfl, rfl⟩, plain.isList.elim fun o k => ⟨o, grown _ _ k.1, k.2⟩, hot_stays hot grown⟩, ?_, ?_⟩
    · rw [List.size_toArray, len2, ← len]
      exact size
    · intro c m
      rw [show ({ s1 with heap := s1.heap.push { cls := .type "list_iterator", data := .fields #[.ref p, .int 0 0] } } : Shared).heap.objs.size = s1.heap.objs.size + 1 from Array.size_push _]
      rcases List.mem_cons.mp m with m | m
      · exact m ▸ Nat.lt_succ_self _
      rcases List.mem_cons.mp m with m | m
      · exact m ▸ Nat.lt_succ_of_lt pOld
      · exact List.mem_singleton.mp m ▸ Nat.lt_succ_of_lt xOld
    rintro D C s3 ⟨⟨h3, tk3, rfl⟩, old, newD, newC, neDC, nsC⟩
    have sz : ({ s1 with heap := s1.heap.push { cls := .type "list_iterator", data := .fields #[.ref p, .int 0 0] } } : Shared).heap.objs.size = s1.heap.objs.size + 1 := Array.size_push _
    rw [sz] at newD newC
    have offD : ∀ c o, s1.heap.get? c = some o → c ≠ D := fun c o k => Nat.ne_of_lt (Nat.lt_of_lt_of_le (Nat.lt_succ_of_lt (Heap.lt_size k)) newD)
    have offC : ∀ c o, s1.heap.get? c = some o → c ≠ C := fun c o k => Nat.ne_of_lt (Nat.lt_of_lt_of_le (Nat.lt_succ_of_lt (Heap.lt_size k)) newC)
    have offI : ∀ c o, s1.heap.get? c = some o → c ≠ s1.heap.objs.size := fun c o k => Nat.ne_of_lt (Heap.lt_size k)
    have neCI : C ≠ s1.heap.objs.size := Nat.ne_of_gt newC
    refine ⟨fun i ys s' => (∃ g tk, s' = { s1 with heap := g, toks := tk } ∧ Stays s1.heap g ∧ ∃ m, g.Ns C m) ∧ Vals (picked (ws.take i)) ys, ⟨⟨h3, tk3, rfl, grown.trans old, _, nsC⟩, .nil⟩, ?_, ?_, ?_⟩
    · rintro i ys _ g' tk ⟨⟨g, tk0, rfl, st, m, ns⟩, v⟩ but more
      refine ⟨⟨g', tk, rfl, fun c o k => but c o ?_ (st c o k), m, ns.at' fun o k => but C o ?_ k⟩, v⟩
      · intro z
        rcases List.mem_cons.mp z with z | z
        · exact offD c o k z
        · exact offI c o k (List.mem_singleton.mp z)
      · intro z
        rcases List.mem_cons.mp z with z | z
        · exact neDC z.symm
        · exact neCI (List.mem_singleton.mp z)
    · rintro i v ys _ lt at_ ⟨it2, li2, hot2⟩ ⟨⟨g, tk0, rfl, st, m, ns⟩, vals⟩ pl
      obtain ⟨t, w, tk, rfl, aw, isT⟩ := pair i v at_
      refine pair_hot hot2 (isT.elim fun o k => ⟨o, st _ _ k.1, k.2⟩) ns (lookup_relabel_local la) (lookup_relabel_local lb) ?_ fun g2 tk2 ns2 ex2 more => ?_
      · simp [compEnvC, relabel, kind]
      · have kC : (compEnvC scope cl C X.env).scope.kind = .function := by simp [compEnvC, relabel, kind]
        have hb : (fun x => if x = b then some (Value.bool w.2) else if x = a then some (.str w.1 tk) else m x) b = some (.bool w.2) := if_pos rfl
        have ha : (fun x => if x = b then some (Value.bool w.2) else if x = a then some (.str w.1 tk) else m x) a = some (.str w.1 tk) := by
          show (if a = b then _ else if a = a then _ else _) = _
          rw [if_neg ne, if_pos rfl]
        have st2 : Stays s1.heap g2 := fun c o k => ex2 c o (offC c o k) (st c o k)
        have next : g2.IsListIter s1.heap.objs.size p (i + 1) ∧ g2.IsList p its.toArray ∧ HotX.HotAt X.A x1 g2 := ⟨it2.at fun o k => ex2 _ _ (Ne.symm neCI) k, plain.isList.elim fun o k => ⟨o, st2 _ _ k.1, k.2⟩, hot_stays hot st2⟩
        have pl2 : g2.PlainList D ys.toArray := pl.at fun o k => ex2 _ _ neDC k
        refine test_name kC (lookup_relabel_local lb) ns2 hb nb ?_
        have more2 := picked_succ aw
        cases e : w.2 with
        | true =>
          rw [if_pos rfl]
          rw [e, if_pos rfl] at more2
          refine wpAny_Name (wpAny_loadName_local kC (lookup_relabel_local la) ns2 ha ?_) na
          refine ⟨⟨⟨g2, tk2, rfl, st2, _, ns2⟩, ?_⟩, next, pl2⟩
          rw [more2]
          exact vals.append (.cons ⟨tk, rfl⟩ .nil)
        | false =>
          rw [if_neg Bool.false_ne_true]
          rw [e, if_neg Bool.false_ne_true, List.append_nil] at more2
          exact ⟨⟨⟨g2, tk2, rfl, st2, _, ns2⟩, by rw [more2]; exact vals⟩, next, pl2⟩
    · rintro ys _ ⟨⟨g, tk, rfl, st, m, ns⟩, vals⟩ ⟨n, pl⟩
      have whole : ws.take its.toArray.size = ws := by rw [List.size_toArray, len2, List.take_length]
      rw [whole] at vals
      have fits : (picked ws).length ≤ sizeLine := Nat.le_trans (picked_le ws) (len ▸ size)
      exact ⟨m, ns, fun g' same => ⟨.ref D, _, I1.laid (o := .lst (picked ws)) (fun c o k => same.extBut c o (offC c o k) (st c o k)) (Nat.le_of_lt newD) ⟨fits, ys, n, vals, same.extBut _ _ neDC pl⟩, rfl, q D (I1.hok.fresh (Nat.le_of_lt newD))⟩⟩

end U

set_option Elab.async false
set_option linter.all false
set_option maxRecDepth 100000
set_option maxHeartbeats 4000000
/-! # U: try with any number of named clauses, by what each clause wishes -/
namespace U
open PySem PySem.Spec PyProof.Rows L2
/-- an exception of class cls lies before the clauses of X's try -/
def Ground (X : Cx) (pins : List (Addr × Obj)) (σ : L2.St) (H : Hp) (a : Addr) (cls : Value) (d : Option Addr) (s : Shared) : Prop :=
  ∃ (B : Heap) (sI : Shared), Inv X pins σ H sI ∧ (∀ b o, sI.heap.get? b = some o → b ∉ frs X.stack → B.get? b = some o) ∧ sI.heap.UpToSlots s.heap ∧ HandSPX.FlyingZ B X.stack a (L2N.Zn cls d) s.heap ∧ H a = none ∧ s.os = sI.os ∧ AllBare s.gens
section
variable {X : Cx} {pins : List (Addr × Obj)} {σ : L2.St} {H : Hp} {a : Addr} {cls : Value} {d : Option Addr} {s : Shared}
theorem Ground.inv (G : Ground X pins σ H a cls d s) : Inv X pins σ H s := by
  rcases G with ⟨B, sI, I, young, up, fl, fresh, os, bare⟩
  exact I.landed young fl.1 up os bare
theorem Ground.obj (G : Ground X pins σ H a cls d s) : ∃ o vs, s.heap.get? a = some o ∧ L2N.Zn cls d o ∧ o.data = .fields vs := by
  rcases G with ⟨B, sI, I, young, up, fl, fresh, os, bare⟩
  exact fl.there
theorem Ground.fresh (G : Ground X pins σ H a cls d s) : H a = none := by
  rcases G with ⟨B, sI, I, young, up, fl, fresh, os, bare⟩
  exact fresh
theorem up_stays {h g k : Heap} (u : h.UpToSlots g) (y : Stays g k) : h.UpToSlots k := fun b o e n => (u b o e n).elim fun sl q => ⟨sl, y _ _ q⟩
theorem fly_stays {B h k : Heap} {l : List Env} {Z : Obj → Prop} (f : HandSPX.FlyingZ B l a Z h) (y : Stays h k) : HandSPX.FlyingZ B l a Z k := by
  rcases f with ⟨st, no, fr, oe, vs, T, oT, ts, g1, z, d1, v1, n1, ne, g2, d2, v2⟩
  exact ⟨fun b o e => y b o (st b o e), no, fr.of_keeps fun b o e _ => ⟨o, y b o e, rfl⟩, oe, vs, T, oT, ts, y _ _ g1, z, d1, v1, n1, ne, y _ _ g2, d2, v2⟩
theorem Ground.grow {g : Heap} (G : Ground X pins σ H a cls d s) (y : Stays s.heap g) : Ground X pins σ H a cls d { s with heap := g } := by
  rcases G with ⟨B, sI, I, young, up, fl, fresh, os, bare⟩
  exact ⟨B, sI, I, young, up_stays up y, fly_stays fl y, fresh, os, bare⟩
/-- its frames are not it -/
theorem Ground.apart (G : Ground X pins σ H a cls d s) : a ∉ frs X.stack := by
  rcases G with ⟨B, sI, I, young, up, fl, fresh, os, bare⟩
  rcases fl.there with ⟨o, vs, e, _, dat⟩
  intro m
  rcases fl.2.2.1.mem m with ⟨_, o', e', no⟩
  rw [e] at e'
  exact no vs (Option.some.inj e' ▸ dat)
/-- the context of a suite -/
theorem Ground.suite (G : Ground X pins σ H a cls d s) (hs : X.stack = X.env :: X.outer) (hf : X.env.frame = some X.env.locals) : ∃ o vs, L2N.Zn cls d o ∧ o.data = .fields vs ∧ Inv (X.suite a ((a, o) :: (X.pn ++ pins))) [] σ H s := by
  rcases G.obj with ⟨o, vs, e, z, dat⟩
  have far := G.apart
  rw [hs] at far
  refine ⟨o, vs, z, dat, G.inv.suite e dat G.fresh (fun q => far ?_) fun q => far ?_⟩
  · exact List.mem_filterMap.mpr ⟨X.env, List.mem_cons_self, by rw [hf, q]⟩
  · rcases List.mem_filterMap.mp q with ⟨ev, m, fr⟩
    exact List.mem_filterMap.mpr ⟨ev, List.mem_cons_of_mem _ m, fr⟩
/-- once more on the ground -/
theorem Ground.again {M : Model} {A : Around} {E : Value → Shared → Prop} {Q : Unit → Shared → Prop} (G : Ground X pins σ H a cls d s) (q : ∀ g, Ground X pins σ H a cls d { s with heap := g } → Q () { s with heap := g }) : wpAny M A (setFlight (.ref a) none) Q E s := by
  rcases G with ⟨B, sI, I, young, up, fl, fresh, os, bare⟩
  exact HandSPX.lands_againZ fl fun g fl2 up2 => q g ⟨B, sI, I, young, up.trans up2, fl2, fresh, os, bare⟩
/-- no clause takes it -/
theorem Ground.leaves {Wout : WX} {D : Ends} (G : Ground X pins σ H a cls d s) (hf : X.env.frame = some X.env.locals) (tk : L2N.Takes X Wout) (w : Wout cls d σ H) :
    wpAny (model X.prog X.w) X.A (passOn "try.no-clause-matches" (.ref a) X.env) (SP X pins D) X.xe s := by
  rcases G with ⟨B, sI, I, young, up, fl, fresh, os, bare⟩
  have out : wpAny (model X.prog X.w) X.A (setFlight (.ref a) X.env.frame) (fun _ s1 => wpAny (model X.prog X.w) X.A (throw (.ref a) : Sem Flow) (SP X pins D) X.xe s1) X.xe s := by
    rw [hf]
    exact HandSPX.setFlight_upZ fl fun g held up2 => wpAny_throw (tk _ _ ⟨a, B, sI, pins, σ, H, cls, d, rfl, I, young, up.trans up2, .inr (.inr held), fresh, os, bare, w⟩)
  rcases fl with ⟨_, _, _, oe, vs, T, _, _, here, _, dat, one, _⟩
  unfold PySem.passOn
  wp_walk
  rw [dat]
  refine wpAny_pure ?_
  rw [one]
  refine wpAny_pure ?_
  rw [if_neg (show ¬ (Value.ref T == Value.none) = true from fun z => Bool.noConfusion z)]
  exact wpAny_bind out
end
/-! ### what a clause's classes say -/
/-- the test of a clause: hit tells it by the exception's class -/
def Decides (X : Cx) (t : Expr) (hit : Value → Option Bool) : Prop :=
  ∀ {pins : List (Addr × Obj)} {σ : L2.St} {H : Hp} {a : Addr} {cls : Value} {d : Option Addr} {s : Shared} {b : Bool} {Q : Bool → Shared → Prop} {E E2 : Value → Shared → Prop}, Ground X pins σ H a cls d s → hit cls = some b →
    (∀ g, Ground X pins σ H a cls d { s with heap := g } → Q b { s with heap := g }) →
    wpAny (model X.prog X.w) (X.A.mark (some (.ref a))) (eval t X.env) (fun c s1 => wpAny (model X.prog X.w) (X.A.mark (some (.ref a))) (excMatches (.ref a) c) Q E s1) E2 s
section
variable {X : Cx} (hs : X.stack = X.env :: X.outer) (hf : X.env.frame = some X.env.locals)
include hs hf
theorem name_of {pins : List (Addr × Obj)} {σ : L2.St} {H : Hp} {a : Addr} {cls : Value} {d : Option Addr} {s : Shared} {x : Str} {c : Value} {p : Pos} {Q E : Value → Shared → Prop} (n : Names X x c) (G : Ground X pins σ H a cls d s) (q : Q c s) :
    wpAny (model X.prog X.w) (X.A.mark (some (.ref a))) (eval (.Name x p) X.env) Q E s := by
  rcases G.suite hs hf with ⟨o, vs, z, dat, S⟩
  rcases n with ⟨gl, nd, own | ⟨no, bt, nn⟩⟩
  · exact ld_glob (X := X.suite a ((a, o) :: (X.pn ++ pins))) S gl own q nd
  · exact ld_blt (X := X.suite a ((a, o) :: (X.pn ++ pins))) S gl no bt q nn nd
theorem decides_name {x : Str} {c : Value} {p : Pos} (n : Names X x c) : Decides X (.Name x p) (fun cls => PySem.W.exmOne X.K cls c) := by
  intro pins σ H a cls d s b Q E E2 G h q
  refine name_of hs hf n G ?_
  rcases G.obj with ⟨o, vs, e, z, dat⟩
  have looks : PySem.W.Looks (model X.prog X.w) s.heap (typeOf (.ref a)) cls := fun A Q E s k q => wpAny_typeOf_ref (k _ _ e) (by rw [z.1]; exact q)
  exact (PySem.W.exm_one G.inv.kIn looks h).here (q s.heap G)
theorem decides_tup4 {x1 x2 x3 x4 : Str} {c1 c2 c3 c4 : Value} {p1 p2 p3 p4 tp : Pos} {kk : Nat} (n1 : Names X x1 c1) (n2 : Names X x2 c2) (n3 : Names X x3 c3) (n4 : Names X x4 c4) :
    Decides X (.Tuple [.Name x1 p1, .Name x2 p2, .Name x3 p3, .Name x4 p4] kk tp) (fun cls => PySem.W.exmAny X.K cls [c1, c2, c3, c4]) := by
  intro pins σ H a cls d s b Q E E2 G h q
  have made : wpAny (model X.prog X.w) (X.A.mark (some (.ref a))) (eval (.Tuple [.Name x1 p1, .Name x2 p2, .Name x3 p3, .Name x4 p4] kk tp) X.env) (fun c s1 => c = .ref s.heap.objs.size ∧ s1 = { s with heap := s.heap.push { cls := .type "tuple", data := .seq [c1, c2, c3, c4].toArray } }) E2 s := by
    refine wpAny_Tuple_spliced ?_
    refine Calls.spliced_cons (name_of hs hf n1 G ?_)
    refine Calls.spliced_cons (name_of hs hf n2 G ?_)
    refine Calls.spliced_cons (name_of hs hf n3 G ?_)
    refine Calls.spliced_cons (name_of hs hf n4 G ?_)
    refine Calls.spliced_nil ⟨?_, rfl, rfl⟩
    show 4 ≤ sizeLine
    rw [sizeLine_eq]
    decide
  refine wpAny_mono made ?_ fun _ _ x => x
  rintro _ _ ⟨rfl, rfl⟩
  have G2 := G.grow (Stays.push (o := { cls := .type "tuple", data := .seq [c1, c2, c3, c4].toArray }))
  rcases G2.obj with ⟨o, vs, e, z, dat⟩
  have looks : PySem.W.Looks (model X.prog X.w) (s.heap.push { cls := .type "tuple", data := .seq [c1, c2, c3, c4].toArray }) (typeOf (.ref a)) cls := fun A Q E s k q => wpAny_typeOf_ref (k _ _ e) (by rw [z.1]; exact q)
  exact (PySem.W.exm_tup4 G2.inv.kIn looks (Heap.get?_push_size _ rfl) h).here (q _ G2)
end
/-! ### the clauses, one behind the other -/
/-- R: what the clauses wish of an exception -/
def Clauses (X : Cx) (hds : List ExceptHandler) (R : Ends → L2.WX) : Prop :=
  ∀ {pins : List (Addr × Obj)} {σ : L2.St} {H : Hp} {a : Addr} {cls : Value} {d : Option Addr} {s : Shared} {D : Ends}, Ground X pins σ H a cls d s → R D cls d σ H → wpAny (model X.prog X.w) X.A (handleBy (.ref a) X.env hds) (SP X pins D) X.xe s
/-- behind a suite its name is gone -/
def goneE (i : Nat) (D : Ends) : Ends := ⟨fun σ H => D.nx (σ.set i none) H, D.rt, fun σ H => D.bk (σ.set i none) H, fun σ H => D.ct (σ.set i none) H⟩
section
variable {X : Cx} {t : Expr} {hit : Value → Option Bool} {rest : List ExceptHandler} {R : Ends → L2.WX}
theorem clauses_nil {Wout : L2.WX} (hf : X.env.frame = some X.env.locals) (tk : L2N.Takes X Wout) : Clauses X [] (fun _ => Wout) := fun G w => wpAny_handleBy_nil (G.leaves hf tk w)
/-- a clause that never takes what comes -/
theorem clauses_skip {n : Option Str} {body : List Stmt} {pos : Pos} (test : Decides X t hit) (r : Clauses X rest R) : Clauses X (.ExceptHandler (some t) n body pos :: rest) (fun D cls d σ H => hit cls = some false ∧ R D cls d σ H) := by
  intro pins σ H a cls d s D G w
  refine wpAny_handleBy_cons (codeAny_handlers_test (test G w.1 fun g G2 => ?_)) (fun z => nomatch z)
  exact r G2 w.2
theorem clauses_as {n : Str} {i : Nat} {b0 : Stmt} {suite : List Stmt} {pos : Pos} {ts : Addr → Value → Option Addr → L2.TS} (hs : X.stack = X.env :: X.outer) (hf : X.env.frame = some X.env.locals) (once : X.N.Nodup) (at_ : X.N[i]? = some n) (loc : X.env.kindOf n = some .local)
    (test : Decides X t hit) (su : ∀ (a : Addr) (o : Obj) (cls : Value) (d : Option Addr) (pn : List (Addr × Obj)), L2N.Zn cls d o → (∃ vs, o.data = .fields vs) → PSs (X.suite a ((a, o) :: pn)) (b0 :: suite) (ts a cls d)) (r : Clauses X rest R) :
    Clauses X (.ExceptHandler (some t) (some n) (b0 :: suite) pos :: rest) (fun D cls d σ H => ∃ b, hit cls = some b ∧ (b = true → ∀ a, H a = none → ts a cls d (goneE i D) (σ.set i (some (.ref a))) H) ∧ (b = false → R D cls d σ H)) := by
  intro pins σ H a cls d s D G w
  rcases w with ⟨b, h, yes, no⟩
  refine wpAny_handleBy_cons (codeAny_handlers_test (test G h fun g G2 => ?_)) (fun z => nomatch z)
  cases b with
  | false => exact r G2 (no rfl)
  | true =>
    have ok := G2.inv.ok
    refine codeAny_handlers_suite_as (G2.again fun g3 G3 => ?_)
    rcases G3.suite hs hf with ⟨o, vs, z, dat, S⟩
    refine store_ok (X := X.suite a ((a, o) :: (X.pn ++ pins))) (v := .ref a) S once at_ (.inl loc) rfl (fun s4 S4 => ?_) (.inr loc)
    refine wpAny_mono ((su a o cls d (X.pn ++ pins) z ⟨vs, dat⟩).run [] s4 _ H _ S4 (yes rfl a G3.fresh)) (fun f s5 e => ?_) fun _ _ z => False.elim z
    have forget : ∀ {σ' : L2.St} {H' : Hp} {Q : Shared → Prop}, Inv (X.suite a ((a, o) :: (X.pn ++ pins))) [] σ' H' s5 → (∀ s6, Inv X pins (σ'.set i none) H' s6 → Q s6) →
        wpAny (model X.prog X.w) X.A (do bindName X.env n .none; unbindBehindTheSuite X.env n pos) (fun _ s6 => Q s6) X.xe s5 := fun J q => gone_ok (J.unsuite ok) once at_ loc q
    cases f with
    | ret u => rcases e with ⟨v, σ', H', J, ru, q⟩; exact forget J fun s6 K => ⟨v, _, _, K, ru, q⟩
    | next => rcases e with ⟨σ', H', J, q⟩; exact forget J fun s6 K => ⟨_, _, K, q⟩
    | brk => rcases e with ⟨σ', H', J, q⟩; exact forget J fun s6 K => ⟨_, _, K, q⟩
    | cont => rcases e with ⟨σ', H', J, q⟩; exact forget J fun s6 K => ⟨_, _, K, q⟩
theorem ps_tryC {body : List Stmt} {h0 : ExceptHandler} {pos : Pos} {tb : L2.WX → L2.TS} (hs : X.stack = X.env :: X.outer) (hf : X.env.frame = some X.env.locals)
    (hb : ∀ (W : L2.WX) (pn : List (Addr × Obj)) (xe : Value → Shared → Prop), L2N.Takes (X.tr pn xe) W → PassesOwn (model X.prog X.w) X.A X.env xe → PSs (X.tr pn xe) body (tb W)) (c : Clauses X (h0 :: rest) R) :
    PS X (.Try body (h0 :: rest) [] [] pos) (fun D σ H => tb (R D) D σ H) where
  run pins s σ H D I h := by
    have ok := I.ok
    have take : L2N.Takes (X.tr (X.pn ++ pins) fun e s1 => wpAny (model X.prog X.w) X.A (noteFrame e X.env) (fun _ s2 => wpAny (model X.prog X.w) X.A (setFlight e none) (fun _ s3 => wpAny (model X.prog X.w) X.A (handleBy e X.env (h0 :: rest)) (SP X pins D) X.xe s3) X.xe s2) X.xe s1) (R D) := by
      rintro _ s1 ⟨a, B, sI, pins', σ', H', cls, d, rfl, J, young, up, sky, fresh, os, bare, w⟩
      have frames : X.A.frames = some (X.env :: X.outer) := ok.frames.trans (congrArg some hs)
      have sky2 : L2.Sky B (X.env :: X.outer) a (L2N.Zn cls d) X.env.locals s1.heap := hs ▸ sky
      exact L2N.Sky.land L2N.Zn.steady frames hf sky2 fun g fl up2 => c ⟨B, sI, J.ofTry ok, young, up.trans up2, by rw [hs]; exact fl, fresh, os, bare⟩ w
    refine wpAny_Try_except (wpAny_mono ((hb (R D) (X.pn ++ pins) _ take PassesOwn.looking).run [] s σ H D (I.toTry _) h) (fun f s1 e => ?_) fun _ _ z => z)
    cases f with
    | ret u => rcases e with ⟨v, σ', H', J, ru, q⟩; exact ⟨v, _, _, J.ofTry ok, ru, q⟩
    | next => rcases e with ⟨σ', H', J, q⟩; exact wpAny_execs_nil ⟨_, _, J.ofTry ok, q⟩
    | brk => rcases e with ⟨σ', H', J, q⟩; exact ⟨_, _, J.ofTry ok, q⟩
    | cont => rcases e with ⟨σ', H', J, q⟩; exact ⟨_, _, J.ofTry ok, q⟩
end
/-! ### isinstance of the exception that is handled, in a def that is called there -/
theorem call_held {X : Cx} {a D : Addr} {o : Obj} (C : ExcC X.K D) (held : (a, o) ∈ X.pn) (z : Zc (.ref D) none o) (fl : ∃ vs, o.data = .fields vs) : CallR X (.builtin "isinstance") (rIsE X.K D a) := by
  rintro pins s σ H _ us Q I r ⟨c, cv, b, rfl, only, e, q⟩
  rcases r with _ | ⟨ra, _ | ⟨rc, _ | _⟩⟩
  cases ra
  cases only _ rc
  have here := (I.pin _ (List.mem_append_left _ held)).1
  have inst : PySem.W.InstAt s.heap a o D none := by
    rcases o with ⟨oc, od, da, sl⟩
    rcases z with ⟨z1, z2⟩
    rcases fl with ⟨vs, z3⟩
    cases z1
    cases z2
    cases z3
    exact ⟨here, rfl, rfl, trivial⟩
  exact PySem.W.kia_one (PySem.W.handS_kitx_exc C.hg C.hk C.hs C.hd C.ha C.hn C.ht C.hm) I.kIn inst e (fun y => nomatch y) fun tk => ⟨.bl b, H, I.kept (t' := tk) fun _ _ y => y, rfl, q⟩
theorem takesF {X : Cx} : L2N.Takes X (fun _ _ _ _ => False) := by
  rintro u s ⟨_, _, _, _, _, _, _, _, _, _, _, _, _, _, _, _, no⟩
  exact no.elim
end U

set_option Elab.async false
set_option linter.all false
set_option maxRecDepth 100000
set_option maxHeartbeats 4000000
/-! # U: a lambda handed to a def, what its body raises being told with its context -/
namespace U
open PySem PySem.Spec PyProof.Rows L2 LamX
/-- the frame of a lambda's body leaves its exceptions to the caller, contexts told -/
def lamOut (X : Cx) (A : Around) (outer : List Env) (s : Shared) (H : Hp) (E : XK) (env : Env) : Value → Shared → Prop :=
  fun e s' => wpAny (model X.prog X.w) (A.deeper env) (leaving env e) (fun _ s'' => L2N.CX X.prog X.w outer H s E e s'') (fun e' s'' => L2N.CX X.prog X.w outer H s E e' s'') s'
def lamX (X : Cx) (A : Around) (outer : List Env) (s : Shared) (H : Hp) (E : XK) (scope : Scope) (f c' : Addr) : Cx := (lamCx X A outer s H E scope f c').tr [] (lamOut X A outer s H E (lamEnv X scope s.heap.objs.size f c'))
section
variable {X : Cx} {pins : List (Addr × Obj)} {σ : L2.St} {H HZ : Hp} {s s1 : Shared} {f c' : Addr} {params : Arguments} {body : Expr} {scope : Scope} {pm ctv : Value} {k : Nat} {E : XK} {Q : VK} {tb : TE}
/-- the function object that a lambda of this def's is -/
abbrev lamObj (X : Cx) (params : Arguments) (body : Expr) (scope : Scope) (pm ctv : Value) (c' : Addr) : Obj := PySem.W.kla_obj "<lambda>" (X.env.qual ++ "<lambda>") params body scope (cloFrom X.env.cells scope.names []) pm c' ctv
/-- called at s1 from the frames outer: the body runs over the slots of the def that made it -/
theorem lam_called {A : Around} {outer : List Env} (I : Inv X pins σ H s) (L : LamS X.env.scope scope) (un : Un (frs X.stack) [] H HZ s.heap s1.heap) (e0 : Env0 X.prog X.w X.K X.mg X.base A outer s1 HZ) (calm : A.handled = none) (room : Room (k + 1) A)
    (lim : s1.heap.NoLimit) (here : s1.heap.get? f = some (lamObj X params body scope pm ctv c')) (code : s1.heap.CodeRec (.ref c') (X.env.qual ++ "<lambda>")) (nob : bindArgs (PySem.W.kla_fn "<lambda>" (X.env.qual ++ "<lambda>") params body scope (cloFrom X.env.cells scope.names []) pm (.ref c') ctv) ⟨[], []⟩ = pure [])
    (hb : PE (lamX X A outer s1 HZ E scope f c') body tb) (t : tb σ HZ Q) : codeAny (model X.prog X.w) A (.call (.ref f) ⟨[], []⟩) (CR (L2N.CX X.prog X.w) outer X.prog X.w HZ s1 Q E) s1 := by
  apply PySem.W.kla_callFunE room.depth here rfl L.co L.gen rfl code
  rw [nob]
  apply wpAny_pure
  apply wpAny_newFunctionEnv (fun y m => (L.own y m).2) (fun y m => (List.not_mem_nil m).elim) _ L.kind
  intro g ns same
  have y : Stays s1.heap g := fun b o e => same.extBut b o (Nat.ne_of_lt (Heap.lt_size e)) (Heap.get?_push_of_some _ e)
  have J := (lam_start2 (f := f) (c' := c') (E := E) (tk := s1.toks + ([] : List (Str × Value)).length) I L e0 calm un ns y).toTry (lamOut X A outer s1 HZ E (lamEnv X scope s1.heap.objs.size f c'))
  refine ⟨lim.fresh _ same, PySem.W.kla_codeExpr (wpAny_mono (hb.run [] _ _ HZ Q J t) ?_ fun e s' z => z)⟩
  rintro v s' ⟨x, H', J', r, q⟩
  exact ⟨x, H', J'.os, J'.bare, J'.base, J'.hok, r, q⟩
/-- what calling slot 0 of the def that got the lambda asks; tl: the lambda's reading -/
def tAct (f c' : Addr) (q : Str) (W : L2.WX) (tl : XK → Hp → VK → Prop) : TE := fun σ H Q => σ[0]? = some (some (.ref f)) ∧ H c' = some (CodeO c' q) ∧
  ∃ (E : XK) (R : VK), (∀ cls d H', E cls d H' → W cls d σ H') ∧ (∀ v H', R v H' → Q v H') ∧ tl E H R
/-- the context of the def that the law hands its lambda to -/
abbrev getCx (X : Cx) (N : List Str) (x : Str) (sg : Scope) (g : Addr) (cdg : Value) (s : Shared) (H : Hp) : Cx := cxOf C8.CX0 X.prog X.w X.K X.mg X.base N x sg g cdg X.A X.stack s H C8.E0
theorem lam_act {N : List Str} {x a : Str} {sg : Scope} {g : Addr} {cdg : Value} {pn : List (Addr × Obj)} {xe : Value → Shared → Prop} {p1 p2 : Pos} {W : L2.WX} (I : Inv X pins σ H s) (L : LamS X.env.scope scope) (made : s.heap.get? f = some (lamObj X params body scope pm ctv c')) (free : H f = none) (nofr : f ∉ frs X.stack)
    (nob : bindArgs (PySem.W.kla_fn "<lambda>" (X.env.qual ++ "<lambda>") params body scope (cloFrom X.env.cells scope.names []) pm (.ref c') ctv) ⟨[], []⟩ = pure []) (room : Room (k + 1) (X.A.deeper (envOfC x sg s.heap.objs.size g cdg)))
    {tb : XK → TE} (tk : L2N.Takes ((getCx X N x sg g cdg s H).tr pn xe) W) (hb : ∀ (A : Around) (outer : List Env) (s : Shared) (H : Hp) (E : XK), Room k (A.deeper (lamEnv X scope s.heap.objs.size f c')) → PE (lamX X A outer s H E scope f c') body (tb E))
    (n0 : N[0]? = some a) (vis : Vis sg a) (hd : (a == ("__debug__" : Str)) = false) (hcd : (a == ("__classdict__" : Str)) = false) :
    PE ((getCx X N x sg g cdg s H).tr pn xe) (.Call (.Name a p1) [] [] p2) (tAct f c' (X.env.qual ++ "<lambda>") W (fun E H' Q' => tb E σ H' Q')) where
  run pinsZ sZ σZ HZ Q IZ h := by
    rcases h with ⟨slot, co, E, R, toW, toQ, t⟩
    have name := (pe_var (X := (getCx X N x sg g cdg s H).tr pn xe) (pos := p1) (i := 0) n0 vis hd hcd).run pinsZ sZ σZ HZ (fun v H1 => v = .ref f ∧ H1 = HZ) IZ ⟨.ref f, slot, rfl, rfl⟩
    refine wpAny_Call_Name_kw (thn name ?_)
    rintro u s2 ⟨v, H1, I2, r, ev, eH⟩
    subst ev
    subst eH
    cases r
    have here : s2.heap.get? f = some (lamObj X params body scope pm ctv c') := I2.base.keep f _ made free nofr (fun z => (List.not_mem_nil z).elim)
    have un : Un (frs X.stack) [] H H1 s.heap s2.heap := I2.base
    refine PySem.W.callWith_F0 ⟨_, _, _, _, here⟩ ?_
    rcases (I2.hok c' _ co).1 with ⟨oc, vs, tk', k1, k2, k3⟩
    have run := lam_called (E := E) (Q := R) (tb := tb E) (k := k) I L un I2.env0 room.hd room I2.nolimit here ⟨c', oc, vs, tk', rfl, k1, k2, k3⟩ nob (hb _ _ s2 H1 _ (room.deeper _)) t
    refine wpAny_call (codeAny_mono run fun r s3 e => ?_)
    cases r with
    | error z =>
      rcases e with ⟨b, B, H', cls, d, e1, e2, e3, e4, e5, e6, e7, e8⟩
      exact L2N.passAt tk σZ pinsZ H1 s2 z s3 I2 ⟨b, B, H', cls, d, e1, e2, e3, e4, e5, e6, e7, toW _ _ _ e8⟩
    | ok fl =>
      cases fl with
      | ret u =>
        rcases e with ⟨v, H', e1, e2, e3, e4, e5, e6⟩
        exact I2.after ⟨v, H', e1, e2, e3, e4, e5, toQ _ _ e6⟩
      | _ => exact e.elim
/-- a def that gets a lambda: its body's reading by what it makes (TT) of the lambda's -/
structure Taker (X : Cx) (r : Nat) (N : List Str) (x : Str) (sg : Scope) (g : Addr) (cdg : Value) (bg : List Stmt) (a : Str) (q : Str) (TT : (XK → Hp → VK → Prop) → Hp → VK → Prop) : Prop where
  walks : ∀ (s : Shared) (H : Hp) (f c' : Addr) (tl : XK → Hp → VK → Prop) (Q : VK),
    (∀ (W : L2.WX) (pn : List (Addr × Obj)) (xe : Value → Shared → Prop) (p1 p2 : Pos), L2N.Takes ((getCx X N x sg g cdg s H).tr pn xe) W → PE ((getCx X N x sg g cdg s H).tr pn xe) (.Call (.Name a p1) [] [] p2) (tAct f c' q W tl)) →
    Room r (X.A.deeper (envOfC x sg s.heap.objs.size g cdg)) → H c' = some (CodeO c' q) → TT tl H Q → ∃ t, PSs (getCx X N x sg g cdg s H) bg t ∧ t { nx := fun _ H' => Q .non H', rt := Q } (L2.start N [.ref f]) H
theorem pe_lamto {T : List (Addr × Str)} {TT : (XK → Hp → VK → Prop) → Hp → VK → Prop} {x a : Str} {g c P : Addr} {pg : Arguments} {bg : List Stmt} {sg : Scope} {dV kV doc pmg cdv ct oc : Value} {an od : Option Addr} {osl : Array (Option Value)} {N : List Str} {t : XK → TE} {p lpos pos : Pos}
    (gl : Gl X x) (mg : X.mg x = some (.ref g)) (kept : PySem.W.keepIn X.K (.ref g) = true) (lk : X.K.lookup g = some ⟨oc, od, .func (PySem.W.fnOf x x pg bg sg dV kV doc pmg an cdv ct), osl⟩) (cd : PySem.W.codeIn X.K cdv x = true) (bd : L2.Binds X.K (PySem.W.fnOf x x pg bg sg dV kV doc pmg an cdv ct) [a] [])
    (Sg : FnScope N [a] sg) (n0 : N[0]? = some a) (vis : Vis sg a) (tkr : Taker X (k + 1) N x sg g cdv bg a (X.env.qual ++ "<lambda>") TT) (TB : TabB X.base X.mg c P) (xcode : X.env.code = .ref c) (inT : (P, X.env.qual ++ "<lambda>") ∈ T) (sole : ∀ p ∈ T, p.1 = P → p.2 = X.env.qual ++ "<lambda>")
    (room : Room (k + 2) X.A) (L : LamS X.env.scope scope) (nod : defaultsOf params X.env = ([], [])) (nob : ∀ (q : Str) (cl : List (Str × Addr)) (pm cv ctv : Value), bindArgs (PySem.W.kla_fn "<lambda>" q params body scope cl pm cv ctv) ⟨[], []⟩ = pure [])
    (hb : ∀ (A : Around) (outer : List Env) (s : Shared) (H : Hp) (E : XK) (f c' : Addr), Room k (A.deeper (lamEnv X scope s.heap.objs.size f c')) → PE (lamX X A outer s H E scope f c') body (t E))
    (dx : (x == ("__debug__" : Str)) = false := by decide) (da : (a == ("__debug__" : Str)) = false := by decide) (dc : (a == ("__classdict__" : Str)) = false := by decide) :
    PE X (.Call (.Name x p) [.Lambda params body scope lpos] [] pos) (tLam T TT t) where
  run pins s σ H Q I h := by
    have lam := fun R => lam_make2 (E := X.xe) (pos := lpos) (params := params) (body := body) (Q := R) I TB xcode inT sole h.1 nod (L.has I.ok)
    refine wpAny_Call_Name_kw (ld_glob I gl mg (PySem.W.callWith_K (h₀ := X.base) I.ok.mod.kin kept ?_ (by rfl) (by rfl)) dx)
    refine Calls.spliced_cons (lam _ fun f c' pm ctv H1 s1 I1 eN T1 made free nofr co => Calls.spliced_nil ⟨I1.kIn, ?_⟩)
    have all : codeAny (model X.prog X.w) X.A (.call (.ref g) ⟨[.ref f], []⟩) (CR C8.CX0 X.stack X.prog X.w H1 s1 Q C8.E0) s1 :=
      run_ofS (N := N) (ps := [a]) (us := [.ref f]) (vs := [.ref f]) lk cd Sg room I1.env0 (bd s1 [.ref f] I1.kIn rfl) (.cons rfl .nil) rfl fun room1 =>
        tkr.walks s1 H1 f c' (fun E H' Q' => t E σ H' Q') Q (fun W pn xe p1 p2 tk => lam_act (tb := t) I1 L made free nofr (nob _ _ _ _ _) room1 tk (fun A outer s H E r => hb A outer s H E f c' r) n0 vis da dc) room1 co (h.2 H1 eN T1)
    refine wpAny_call (codeAny_mono all fun r s2 e => ?_)
    cases r with
    | error z => exact (show False from e).elim
    | ok fl =>
      cases fl with
      | ret u => exact I1.after e
      | _ => exact (show False from e).elim
end
end U

set_option Elab.async false
set_option linter.all false
set_option maxRecDepth 100000
set_option maxHeartbeats 4000000
/-! # U: a def that gets the exception that is handled, called in an except suite -/
namespace U
open PySem PySem.Spec PyProof.Rows L2 L2H
section
variable {P : Program} {w : World} {K : PySem.W.Frag} {mg : Str → Option Value} {base : Heap} {CX : CXT}
/-- such a def called at one state: its body in the context that bears the exception (as in the suite itself) -/
theorem held_called {k : Nat} {f : Addr} {name qual : Str} {params : Arguments} {body : List Stmt} {scope : Scope} {dV kV doc pm cdv ct oc : Value} {an od : Option Addr} {osl : Array (Option Value)} {N ps : List Str}
    (lk : K.lookup f = some ⟨oc, od, .func (PySem.W.fnOf name qual params body scope dV kV doc pm an cdv ct), osl⟩) (cd : PySem.W.codeIn K cdv qual = true) (S : FnScope N ps scope)
    {A : Around} {outer : List Env} {s : Shared} {H : Hp} {us : List Value} {vs : List V} {Q : VK} {E : XK} {p : Addr × Obj} (room : RoomH (k + 1) A) (pin : PinOk outer H s p) (e0 : Env0 P w K mg base A outer s H) (bd : BindsTo s (PySem.W.fnOf name qual params body scope dV kV doc pm an cdv ct) ⟨us, []⟩ (ps.zip us))
    (rv : Vals vs us) (len : vs.length = ps.length) (walks : RoomH k (A.deeper (envOfC qual scope s.heap.objs.size f cdv)) → ∃ t, PSs (cxH CX P w K mg base N qual scope f cdv A outer s H E p) body t ∧ t { nx := fun _ H' => Q .non H', rt := Q } (L2.start N vs) H) :
    codeAny (model P w) A (.call (.ref f) ⟨us, []⟩) (CR CX outer P w H s Q E) s := by
  have kin : K.In s.heap := e0.mod.kin.keeps fun b o e => (e0.bs b o e).1
  have nolim : s.heap.NoLimit := e0.mod.nolimit.keeps fun b o e => (e0.bs b o e).1
  rcases walks (room.deeper _) with ⟨t, ht, q⟩
  apply codeAny_call_function room.depth (kin _ _ lk) rfl S.co S.gen rfl (PySem.W.codeRec_of kin cd)
  apply bd
  apply wpAny_newFunctionEnv_cells S.kind
  · rintro ⟨y, v⟩ m
    have z := S.par y (List.of_mem_zip m).1
    exact z.imp id fun z => ⟨z, PySem.W.cellsFrom_some _ _ _ (.inl z)⟩
  · rintro _ rfl s1 into
    refine ⟨nolim.keeps into.toInCall.keep, codeAny_func (wpAny_mono (ht.run [] s1 (L2.start N vs) H _ (inv_startH S pin e0 len rv into) q) ?_ fun e s' z => z)⟩
    rintro fl s2 e
    cases fl with
    | ret u => rcases e with ⟨v, σ', H', J, ru, q⟩; exact ⟨v, H', J.os, J.bare, J.base, J.hok, ru, q⟩
    | next => rcases e with ⟨σ', H', J, q⟩; exact ⟨.non, H', J.os, J.bare, J.base, J.hok, rfl, q⟩
    | brk => rcases e with ⟨_, _, _, q⟩; exact q.elim
    | cont => rcases e with ⟨_, _, _, q⟩; exact q.elim
end
section
variable {X : Cx} {p : Addr × Obj} {k : Nat} {f : Addr} {x : Str} {q pos : Pos} {e : Expr} {params : Arguments} {body : List Stmt} {scope : Scope} {dV kV doc pm cdv ct oc : Value} {an od : Option Addr} {osl : Array (Option Value)} {N : List Str} {a : Str} {te : TE}
/-- f(e): nothing is raised there -/
theorem pe_held {t : V → Hp → VK → Prop} (in_ : p ∈ X.pn) (gl : Gl X x) (mg : X.mg x = some (.ref f)) (kept : PySem.W.keepIn X.K (.ref f) = true) (lk : X.K.lookup f = some ⟨oc, od, .func (PySem.W.fnOf x x params body scope dV kV doc pm an cdv ct), osl⟩) (cd : PySem.W.codeIn X.K cdv x = true) (S : FnScope N [a] scope)
    (bd : Binds X.K (PySem.W.fnOf x x params body scope dV kV doc pm an cdv ct) [a] []) (room : RoomH (k + 1) X.A) (he : PE X e te) (dx : (x == ("__debug__" : Str)) = false) (one : starEach [e] X.env = [(false, eval e X.env)])
    (walks : ∀ (s : Shared) (H : Hp) (v : V) (Q : VK), t v H Q → RoomH k (X.A.deeper (envOfC x scope s.heap.objs.size f cdv)) → ∃ u, PSs (cxH C8.CX0 X.prog X.w X.K X.mg X.base N x scope f cdv X.A X.stack s H C8.E0 p) body u ∧ u { nx := fun _ H' => Q .non H', rt := Q } (L2.start N [v]) H) :
    PE X (.Call (.Name x q) [e] [] pos) (fun σ H Q => te σ H fun v H1 => t v H1 Q) where
  run pins s σ H Q I h := by
    refine wpAny_Call_Name_kw (ld_glob I gl mg (PySem.W.callWith_K (h₀ := X.base) I.ok.mod.kin kept ?_ one (by rfl)) dx)
    rw [one]
    refine Calls.spliced_cons (thn (he.run pins s σ H _ I h) ?_)
    rintro u s1 ⟨v, H1, I1, r, h1⟩
    refine Calls.spliced_nil ⟨I1.kIn, ?_⟩
    have there := I1.pin p (List.mem_append_left _ in_)
    have pin : PinOk X.stack H1 s1 p := ⟨there.1, there.2.1, fun m => (List.mem_cons.mp (I1.stkSub p.1 m)).elim there.2.2.1 there.2.2.2.1, there.2.2.2.2⟩
    have all := held_called (CX := C8.CX0) (E := C8.E0) (Q := Q) lk cd S room pin I1.env0 (bd s1 [u] I1.kIn rfl) (.cons r .nil) rfl (walks s1 H1 v Q h1)
    refine wpAny_call (codeAny_mono all fun res s2 z => ?_)
    cases res with
    | error y => exact (show False from z).elim
    | ok fl =>
      cases fl with
      | ret y => exact I1.after z
      | _ => exact (show False from z).elim
end
/-! ### readings -/
section
variable {σ : L2.St} {H : Hp} {Q : VK} {K : PySem.W.Frag} {ta tb : TE}
theorem i_cat {l b : Addr} {xs zs : List V} (h1 : H l = some (.lst xs)) (h2 : H b = some (.lst zs)) (z : xs.length + zs.length ≤ sizeLine) (q : ∀ p, H p = none → Q (.ref p) (upd H p (.lst (xs ++ zs)))) : rCat (.ref l) (.ref b) H Q := ⟨l, b, xs, zs, rfl, rfl, h1, h2, z, q⟩
theorem i_isE {D a C : Addr} {b : Bool} (e : PySem.W.kitOne K (.ref D) (.ref C) = some b) (q : Q (.bl b) H) : rIsE K D a [.ref a, .ref C] H Q := ⟨.ref C, .ref C, b, rfl, fun _ r => r, e, q⟩
theorem i_pick {te : TE} (q : te σ H fun x H1 => ∃ p ws, x = .ref p ∧ Pairs K H1 p ws ∧ ∀ r, H1 r = none → Q (.ref r) (upd H1 r (.lst (picked ws)))) : tPick K te σ H Q := q
/-- one pair laid, told by its text and its truth value -/
def Pr (H : Hp) (x : V) (w : Str × Bool) : Prop := ∃ t, x = .ref t ∧ H t = some (.tup [.str w.1, .bl w.2])
inductive Prs (H : Hp) : List V → List (Str × Bool) → Prop
  | nil : Prs H [] []
  | cons {x w xs ws} : Pr H x w → Prs H xs ws → Prs H (x :: xs) (w :: ws)
theorem Prs.con {t : Addr} {a : Str} {b : Bool} {xs : List V} {ws : List (Str × Bool)} (h : H t = some (.tup [.str a, .bl b])) (r : Prs H xs ws) : Prs H (.ref t :: xs) ((a, b) :: ws) := .cons ⟨t, rfl, h⟩ r
theorem Prs.append {xs zs : List V} {ws us : List (Str × Bool)} (a : Prs H xs ws) (b : Prs H zs us) : Prs H (xs ++ zs) (ws ++ us) := by
  induction a with
  | nil => exact b
  | cons p _ ih => exact .cons p ih
theorem Prs.same {H' : Hp} {xs : List V} {ws : List (Str × Bool)} (s : Same H H') (a : Prs H xs ws) : Prs H' xs ws := by
  induction a with
  | nil => exact .nil
  | cons p _ ih => exact .cons (p.elim fun t q => ⟨t, q.1, s _ _ q.2⟩) ih
theorem Prs.len {xs : List V} {ws : List (Str × Bool)} (a : Prs H xs ws) : xs.length = ws.length := by
  induction a with
  | nil => rfl
  | cons _ _ ih => simp [ih]
theorem Prs.at {xs : List V} {ws : List (Str × Bool)} (a : Prs H xs ws) : ∀ (i : Nat) (w : Str × Bool), ws[i]? = some w → ∃ t, xs[i]? = some (.ref t) ∧ H t = some (.tup [.str w.1, .bl w.2]) := by
  induction a with
  | nil => intro i w h; simp at h
  | cons p _ ih =>
    intro i w h
    cases i with
    | zero =>
      rcases p with ⟨t, rfl, k⟩
      cases Option.some.inj h
      exact ⟨t, rfl, k⟩
    | succ i => exact ih i w h
theorem Prs.pairs {p : Addr} {xs : List V} {ws : List (Str × Bool)} (a : Prs H xs ws) (h : H p = some (.lst xs)) : Pairs K H p ws := ⟨xs, SqL.of h, a.len, a.at⟩
def words (ws : List (Str × Bool)) : List Str := (ws.filter (·.2)).map (·.1)
theorem picked_words (ws : List (Str × Bool)) : picked ws = (words ws).map V.str := by unfold picked words; rw [List.map_map]; rfl
theorem lens_le (ws : List (Str × Bool)) : ((words ws).map (·.length)).sum ≤ ((ws.map (·.1)).map (·.length)).sum ∧ (words ws).length ≤ ws.length := by
  induction ws with
  | nil => exact ⟨Nat.le_refl _, Nat.le_refl _⟩
  | cons w ws ih =>
    unfold words at ih ⊢
    cases e : w.2 <;> simp only [List.filter_cons, e, if_true, Bool.false_eq_true, if_false, List.map_cons, List.sum_cons, List.length_cons] <;> omega
/-! ### values of one shape on both sides -/
theorem i_isi {K : PySem.W.Frag} {x : V} {t n : String} {b : Bool} (ty : TyX K H x (.type t)) (e : kitB t n = some b) (q : Q (.bl b) H) : rIsi K [x, .ty n] H Q := ⟨x, .ty n, _, _, b, rfl, .ty n, ty, kit_ty e, q⟩
/-- plain data, as a value of the heap: numbers, texts, None, lists and tuples of them, no deeper than n -/
inductive Dt (H : Hp) : Nat → V → V → Prop
  | non {n} : Dt H n .non .non
  | int {n} (i : Int) : Dt H n (.int i) (.int i)
  | str {n} (s : Str) : Dt H n (.str s) (.str s)
  | bl {n} (b : Bool) : Dt H n (.bl b) (.bl b)
  | lst {n a b xs ys} : H a = some (.lst xs) → H b = some (.lst ys) → xs.length = ys.length → xs.length < 1000 → (∀ (i : Nat) x y, xs[i]? = some x → ys[i]? = some y → Dt H n x y) → Dt H (n + 1) (.ref a) (.ref b)
  | tup {n a b xs ys} : H a = some (.tup xs) → H b = some (.tup ys) → xs.length = ys.length → xs.length < 1000 → (∀ (i : Nat) x y, xs[i]? = some x → ys[i]? = some y → Dt H n x y) → Dt H (n + 1) (.ref a) (.ref b)
theorem Dt.same {H H' : Hp} {n : Nat} {x y : V} (s : Same H H') (d : Dt H n x y) : Dt H' n x y := by
  induction d with
  | non => exact .non
  | int i => exact .int i
  | str t => exact .str t
  | bl b => exact .bl b
  | lst h1 h2 l z _ ih => exact .lst (s _ _ h1) (s _ _ h2) l z ih
  | tup h1 h2 l z _ ih => exact .tup (s _ _ h1) (s _ _ h2) l z ih
theorem i_andV (q : ta σ H fun x H1 => ∃ c, x = .bl c ∧ if c = true then tb σ H1 Q else Q (.bl false) H1) : tAndV ta tb σ H Q := q
theorem i_notV (q : ta σ H fun x H1 => ∃ c, x = .bl c ∧ Q (.bl (!c)) H1) : tNotV ta σ H Q := q
theorem i_truth {c : Bool} {R : Bool → Prop} (q : R c) : ∃ c', V.bl c = .bl c' ∧ R c' := ⟨c, rfl, q⟩
theorem i_isNn {x : V} {b : Bool} (e : decide (x = V.non) = b) (q : Q (.bl b) H) : V.non = V.non ∧ Q (.bl (decide (x = .non))) H := ⟨rfl, by rw [e]; exact q⟩
theorem iteT' {A B : Prop} (q : A) : if true = true then A else B := by rw [if_pos rfl]; exact q
theorem iteF' {A B : Prop} (q : B) : if false = true then A else B := by rw [if_neg Bool.false_ne_true]; exact q
theorem i_isiT {K : PySem.W.Frag} {x : V} {t n : String} (ty : TyX K H x (.type t)) (e : kitB t n = some true) (q : Q (.bl true) H) : rIsi K [x, .ty n] H Q := i_isi ty e q
theorem i_isiF {K : PySem.W.Frag} {x : V} {t n : String} (ty : TyX K H x (.type t)) (e : kitB t n = some false) (q : Q (.bl false) H) : rIsi K [x, .ty n] H Q := i_isi ty e q
theorem i_isNT {x : V} (e : x = V.non) (q : Q (.bl true) H) : rIsN x .non H Q := i_isNn (decide_eq_true e) q
theorem i_isNF {x : V} (e : x ≠ V.non) (q : Q (.bl false) H) : rIsN x .non H Q := i_isNn (decide_eq_false e) q
theorem i_neBB {b : Bool} (q : Q (.bl false) H) : rNe (.bl b) (.bl b) H Q := ⟨rfl, by rw [decide_eq_true rfl]; exact q⟩
theorem i_eqBB {b : Bool} (q : Q (.bl true) H) : rEq (.bl b) (.bl b) H Q := ⟨rfl, by rw [decide_eq_true rfl]; exact q⟩
theorem i_eqSS {t : Str} (q : Q (.bl true) H) : rEq (.str t) (.str t) H Q := ⟨rfl, by rw [decide_eq_true rfl]; exact q⟩
theorem i_eqII {i : Int} (q : Q (.bl true) H) : rEq (.int i) (.int i) H Q := ⟨rfl, by rw [decide_eq_true rfl]; exact q⟩
/-- a statement and what follows it, shown once for all ends of the statement -/
theorem i_seqK {t u : TS} {D : Ends} (R : L2.St → Hp → Prop) (rest : ∀ σ' H', R σ' H' → u D σ' H') (q : (∀ σ' H', R σ' H' → u D σ' H') → t { D with nx := u D } σ H) : tSeq t u D σ H := q rest
end
end U

set_option Elab.async false
set_option linter.all false
set_option maxRecDepth 100000
set_option maxHeartbeats 4000000
/-! # U: more readings; plain data side by side; heaps that grow but for their tables -/
namespace U
open PySem L2 LamX
section
variable {σ : L2.St} {H H1 H2 : Hp} {Q : VK} {K : PySem.W.Frag} {ta tb tc : TE}
/-- 0 <= x < y, all of them at hand -/
theorem i_chLL {a b : Nat} {i j k : Int} (hj : σ[a]? = some (some (.int j))) (hk : σ[b]? = some (some (.int k))) (q : Q (.bl (decide (i ≤ j ∧ j < k))) H) : tChain rLe rLt (tC (.int i)) (tVar a) (tVar b) σ H Q := by
  refine i_chain (i_c (i_var hj (i_le (i_bl ?_))))
  by_cases h : i ≤ j
  · rw [decide_eq_true h, if_pos rfl]
    refine i_var hk (i_lt ?_)
    rw [show decide (j < k) = decide (i ≤ j ∧ j < k) by simp [h]]
    exact q
  · rw [decide_eq_false h, if_neg Bool.false_ne_true]
    rw [show (false : Bool) = decide (i ≤ j ∧ j < k) by simp [h]]
    exact q
/-- a and b, both truth values -/
theorem i_andP {P R : Prop} {_ : Decidable P} {_ : Decidable R} {te : TE} (h : te σ H fun y H' => y = .bl (decide R) ∧ Q (.bl (decide (P ∧ R))) H') (n : ¬ P → Q (.bl (decide (P ∧ R))) H) : ∃ c, V.bl (decide P) = .bl c ∧ if c = true then te σ H (fun y H' => y = .bl (decide R) ∧ Q (.bl (decide (P ∧ R))) H') else Q (.bl (decide (P ∧ R))) H := by
  refine ⟨_, rfl, ?_⟩
  by_cases z : P
  · rw [if_pos (decide_eq_true z)]; exact h
  · rw [if_neg (by rw [decide_eq_false z]; exact Bool.false_ne_true)]; exact n z
theorem i_lam {T : List (Addr × Str)} {TT : (XK → Hp → VK → Prop) → Hp → VK → Prop} {t : XK → TE} (h : Tabs T H) (q : ∀ H1, ExtN H H1 → Tabs T H1 → TT (fun E H' Q' => t E σ H' Q') H1 Q) : tLam T TT t σ H Q := ⟨h, q⟩
theorem ExtN.of_same (s : Same H H1) : ExtN H H1 := fun b o h _ => s b o h
theorem ne_of_get {a b : Addr} {o u : HO} (h : H a = some o) (g : H b = some u) (n : o ≠ u) : a ≠ b := fun e => by
  rw [e, g] at h
  exact n (Option.some.inj h).symm
theorem ExtN.lst {a : Addr} {xs : List V} (e : ExtN H H1) (h : H a = some (.lst xs)) : H1 a = some (.lst xs) := e _ _ h fun _ z => nomatch z
theorem ExtN.tup {a : Addr} {xs : List V} (e : ExtN H H1) (h : H a = some (.tup xs)) : H1 a = some (.tup xs) := e _ _ h fun _ z => nomatch z
theorem ExtN.ins {a C dx : Addr} {fs : List (Str × V)} (e : ExtN H H1) (h : H a = some (.ins C dx fs)) : H1 a = some (.ins C dx fs) := e _ _ h fun _ z => nomatch z
/-- a statement and what follows it; what follows is not seen within -/
theorem i_seqG {D : Ends} {t u : TS} (R : L2.St → Hp → Prop) (rest : ∀ σ' H', R σ' H' → u D σ' H') (q : ∀ N : L2.St → Hp → Prop, (∀ σ' H', R σ' H' → N σ' H') → t { D with nx := N } σ H) : tSeq t u D σ H := q _ rest
/-- an expression and what follows it, likewise -/
theorem i_cutG {te : TE} (P : V → Hp → Prop) (rest : ∀ x H', P x H' → Q x H') (q : ∀ Q' : VK, (∀ x H', P x H' → Q' x H') → te σ H Q') : te σ H Q := q _ rest
/-! plain data, side by side -/
inductive Dts (H : Hp) (n : Nat) : List V → List V → Prop
  | nil : Dts H n [] []
  | cons {x y xs ys} : Dt H n x y → Dts H n xs ys → Dts H n (x :: xs) (y :: ys)
theorem Dts.len {n : Nat} {xs ys : List V} (d : Dts H n xs ys) : xs.length = ys.length := by
  induction d with
  | nil => rfl
  | cons _ _ ih => simp [ih]
theorem Dts.get {n : Nat} {xs ys : List V} (d : Dts H n xs ys) : ∀ (i : Nat) x y, xs[i]? = some x → ys[i]? = some y → Dt H n x y := by
  induction d with
  | nil => intro i x y h; simp at h
  | cons d _ ih =>
    intro i x y h g
    cases i with
    | zero =>
      cases Option.some.inj h
      cases Option.some.inj g
      exact d
    | succ i => exact ih i x y h g
theorem Dts.lst {n : Nat} {a b : Addr} {xs ys : List V} (h1 : H a = some (.lst xs)) (h2 : H b = some (.lst ys)) (d : Dts H n xs ys) (l : xs.length < 1000) : Dt H (n + 1) (.ref a) (.ref b) := .lst h1 h2 d.len l d.get
theorem Dts.tup {n : Nat} {a b : Addr} {xs ys : List V} (h1 : H a = some (.tup xs)) (h2 : H b = some (.tup ys)) (d : Dts H n xs ys) (l : xs.length < 1000) : Dt H (n + 1) (.ref a) (.ref b) := .tup h1 h2 d.len l d.get
end
end U
namespace LamX
open PySem L2
/-- what the end asks of a law with one table -/
def LawAtS' (P : Program) (w : World) (K : PySem.W.Frag) (CX : World → CXT) (k : Nat) (fa : Addr) (h : Heap) (mg : Str → Option Value) (Pt c : Addr) (sp : Sp) : Prop :=
  ∃ fd : FuncData, h.get? Pt = some { cls := .none, data := .fields #[] } ∧ K.lookup Pt = none ∧ PySem.W.CodeHd h c Pt ∧ (∀ (s : Shared) (v : Value), BindsTo s fd ⟨[v], []⟩ [("_law_script", v)]) ∧
    ∀ base : Heap, K.In base → base.Ns mainGlobals mg → TabB base mg c Pt → FnOk P w K mg base (CX w) k fa fd ["_law_script"] sp
end LamX

set_option Elab.async false
set_option linter.all false
set_option maxRecDepth 100000
set_option maxHeartbeats 4000000
/-! # U: defs with keyword-only parameters; what a call of a certain form binds -/
namespace U
open PySem L2
/-- positional call: ds are lacking at the end -/
abbrev BP (K : PySem.W.Frag) (fd : FuncData) (ps : List Str) (ds : List V) : Prop := ∃ us, Vals ds us ∧ Binds K fd ps us
/-- n positional values and the keywords ks -/
abbrev BN (K : PySem.W.Frag) (fd : FuncData) (ps : List Str) (n : Nat) (ks : List Str) (gV : List V → List V → List V) : Prop := ∃ g, KBn K fd ps n ks g gV
structure DK (K : PySem.W.Frag) (mg : Str → Option Value) (x : Str) (st : Stmt) (dv : List V) (kws : List (Str × V)) (B : FuncData → Prop) : Prop where
  ex : ∃ (f : Addr) (fd : FuncData), FunA K x x st dv kws f fd ∧ mg x = some (.ref f) ∧ B fd
structure MK (K : PySem.W.Frag) (C : Addr) (m q : Str) (st : Stmt) (dv : List V) (kws : List (Str × V)) (B : FuncData → Prop) : Prop where
  ex : ∃ (f : Addr) (fd : FuncData), FunA K m q st dv kws f fd ∧ Cls K C ∧ Meth K C m f ∧ B fd
structure NK (K : PySem.W.Frag) (mg : Str → Option Value) (x : Str) (C : Addr) (q : Str) (st : Stmt) (dv : List V) (kws : List (Str × V)) (B : FuncData → Prop) : Prop where
  ex : ∃ (f : Addr) (fd : FuncData), FunA K "__init__" q st dv kws f fd ∧ Mk K C f ∧ mg x = some (.ref C) ∧ B fd
section
variable (P : Program) (w : World) (K : PySem.W.Frag) (mg : Str → Option Value) (base : Heap)
structure ClK (k : Nat) (x : Str) (ps : List Str) (sp : Sp) (B : FuncData → Prop) : Prop where
  ex : ∃ (f : Addr) (fd : FuncData), FnOk P w K mg base (L2N.CX P w) k f fd ps sp ∧ mg x = some (.ref f) ∧ PySem.W.keepIn K (.ref f) = true ∧ B fd
structure MtK (k : Nat) (C : Addr) (m : Str) (ps : List Str) (sp : Sp) (B : FuncData → Prop) : Prop where
  ex : ∃ (f : Addr) (fd : FuncData), FnOk P w K mg base (L2N.CX P w) k f fd ps sp ∧ Cls K C ∧ Meth K C m f ∧ B fd
structure NwK (k : Nat) (x : Str) (C : Addr) (ps : List Str) (sp : Sp) (B : FuncData → Prop) : Prop where
  ex : ∃ (f : Addr) (fd : FuncData), FnOk P w K mg base (L2N.CX P w) k f fd ps sp ∧ Mk K C f ∧ mg x = some (.ref C) ∧ B fd
end
section
variable {P : Program} {w : World} {K : PySem.W.Frag} {mg : Str → Option Value} {base : Heap} {st : Stmt} {ps N : List Str} {dv : List V} {kws : List (Str × V)} {k : Nat} {sp : Sp} {B : FuncData → Prop} {x q : Str}
/-- what is asked of the body -/
abbrev BodyOk (P : Program) (w : World) (K : PySem.W.Frag) (mg : Str → Option Value) (base : Heap) (k : Nat) (q : Str) (st : Stmt) (N : List Str) (sp : Sp) : Prop :=
  ∀ (f : Addr) (cdv : Value) (A : Around) (outer : List Env) (s : Shared) (H : Hp) (vs : List V) (Q : VK) (E : XK), Room k (A.deeper (PyProof.Rows.envOfC q (defScope st) s.heap.objs.size f cdv)) → sp vs H Q E →
    ∃ t, PSs (cxOf (L2N.CX P w) P w K mg base N q (defScope st) f cdv A outer s H E) (defBody st) t ∧ t { nx := fun _ H' => Q .non H', rt := Q } (start N vs) H
theorem DK.ok (F : DK K mg x st dv kws B) (S : FnScope N ps (defScope st)) (len : ∀ vs H Q E, sp vs H Q E → vs.length = ps.length) (b : BodyOk P w K mg base k x st N sp) : ClK P w K mg base (k + 1) x ps sp B :=
  F.ex.elim fun f z => z.elim fun fd ⟨F, m, h⟩ => ⟨f, fd, F.ok S len (b f), m, F.kp, h⟩
theorem MK.ok {C : Addr} {m : Str} (F : MK K C m q st dv kws B) (S : FnScope N ps (defScope st)) (len : ∀ vs H Q E, sp vs H Q E → vs.length = ps.length) (b : BodyOk P w K mg base k q st N sp) : MtK P w K mg base (k + 1) C m ps sp B :=
  F.ex.elim fun f z => z.elim fun fd ⟨F, c, m, h⟩ => ⟨f, fd, F.ok S len (b f), c, m, h⟩
theorem NK.ok {C : Addr} (F : NK K mg x C q st dv kws B) (S : FnScope N ps (defScope st)) (len : ∀ vs H Q E, sp vs H Q E → vs.length = ps.length) (b : BodyOk P w K mg base k q st N sp) : NwK P w K mg base (k + 1) x C ps sp B :=
  F.ex.elim fun f z => z.elim fun fd ⟨F, c, m, h⟩ => ⟨f, fd, F.ok S len (b f), c, m, h⟩
/-- every parameter is told: the defaults are not looked at -/
theorem bnAll {params : Arguments} {body : List Stmt} {scope : Scope} {f : Addr} {fd : FuncData} {n : Nat} {ks : List Str} (F : FunD K x q params body scope dv kws f fd) (g : {α : Type} → List α → List α → List α) (rel : ∀ {vs zs : List V} {us ws : List Value}, Vals vs us → Vals zs ws → Vals (g vs zs) (g us ws))
    (h : ∀ (dV kV doc pm : Value) (an : Option Addr) (cdv ct : Value) (us ws : List Value), us.length = n → ws.length = ks.length → bindArgs (PySem.W.fnOf x q params body scope dV kV doc pm an cdv ct) ⟨us, ks.zip ws⟩ = pure (ps.zip (g us ws))) : BN K fd ps n ks g := by
  rcases F.ex with ⟨oc, od, dV, kV, doc, pm, an, cdv, ct, osl, rfl, _⟩
  exact ⟨g, fun s us ws _ l1 l2 => BindsTo.of_eq (h dV kV doc pm an cdv ct us ws l1 l2), rel⟩
/-- the same of a def whose only defaults are keyword-only ones -/
theorem bnAll0 {params : Arguments} {body : List Stmt} {scope : Scope} {f : Addr} {fd : FuncData} {n : Nat} {ks : List Str} (F : FunD K x q params body scope [] kws f fd) (ne : kws ≠ []) (g : {α : Type} → List α → List α → List α) (rel : ∀ {vs zs : List V} {us ws : List Value}, Vals vs us → Vals zs ws → Vals (g vs zs) (g us ws))
    (h : ∀ (D : Addr) (doc pm : Value) (an : Option Addr) (cdv ct : Value) (us ws : List Value), us.length = n → ws.length = ks.length → bindArgs (PySem.W.fnOf x q params body scope .none (.ref D) doc pm an cdv ct) ⟨us, ks.zip ws⟩ = pure (ps.zip (g us ws))) : BN K fd ps n ks g := by
  rcases F.ex with ⟨oc, od, dV, kV, doc, pm, an, cdv, ct, osl, rfl, _, _, d, k⟩
  rcases d with ⟨_, rfl⟩ | ⟨no, _⟩
  · rcases k with no | ⟨D, rfl, _⟩
    · exact absurd no ne
    · exact ⟨g, fun s us ws _ l1 l2 => BindsTo.of_eq (h D doc pm an cdv ct us ws l1 l2), rel⟩
  · exact absurd rfl no
end
section
variable {σ : L2.St} {H : Hp} {Q : VK}
theorem i_callN {n m : Nat} {sp : Sp} {gV : List V → List V → List V} {E : XK} {t tk : TA} (q : t σ H fun vs H1 => tk σ H1 fun zs H2 => vs.length = n ∧ zs.length = m ∧ sp (gV vs zs) H2 Q E) : tCallN n m sp gV E t tk σ H Q := q
theorem i_lens {xs ys : List V} {n m : Nat} {R : Prop} (h1 : xs.length = n) (h2 : ys.length = m) (q : R) : xs.length = n ∧ ys.length = m ∧ R := ⟨h1, h2, q⟩
end
end U

set_option maxRecDepth 100000
/-! # Fields in plain Lean: what the program's defs compute, and what holds of that -/
namespace FM
def sizes : List Int := [2, 3, 4, 5, 7, 8, 9, 11, 13, 16]
def base (n : Int) : Int := if n = 4 ∨ n = 8 ∨ n = 16 then 2 else if n = 9 then 3 else n
def places (n : Int) : Nat := if n = 4 ∨ n = 9 then 2 else if n = 8 then 3 else if n = 16 then 4 else 1
def rule (n : Int) : List Int := if n = 4 then [1, 1] else if n = 8 then [1, 1, 0] else if n = 9 then [2, 0] else [1, 1, 0, 0]
/-- the figures of a number, the lowest first -/
def figs (p : Int) : Nat → Int → List Int
  | 0, _ => []
  | k + 1, x => x % p :: figs p k (x / p)
/-- what is left of it behind k figures -/
def rest (p : Int) : Nat → Int → Int
  | 0, x => x
  | k + 1, x => rest p k (x / p)
theorem figs_len (p : Int) : ∀ (k : Nat) (x : Int), (figs p k x).length = k
  | 0, _ => rfl
  | k + 1, x => by show (figs p k (x / p)).length + 1 = k + 1; rw [figs_len p k]
theorem rest_succ (p : Int) : ∀ (k : Nat) (x : Int), rest p (k + 1) x = rest p k x / p
  | 0, _ => rfl
  | k + 1, x => rest_succ p k (x / p)
theorem figs_succ (p : Int) : ∀ (k : Nat) (x : Int), figs p (k + 1) x = figs p k x ++ [rest p k x % p]
  | 0, _ => rfl
  | k + 1, x => by
    show x % p :: figs p (k + 1) (x / p) = x % p :: figs p k (x / p) ++ [rest p k (x / p) % p]
    rw [figs_succ p k]; rfl
/-- the number with these figures -/
def comp (p : Int) (fs : List Int) : Int := fs.reverse.foldl (fun acc f => acc * p + f % p) 0
def addL (p : Int) (k : Nat) (a b s : Int) : List Int := (List.range k).map fun i => (figs p k a).getD i 0 + s * (figs p k b).getD i 0
def addF (n a b s : Int) : Int := if places n = 1 then (a + s * b) % base n else comp (base n) (addL (base n) (places n) a b s)
/-- L[at + j] += left * right, for the first j of fb -/
def mulIn (at_ : Nat) (left : Int) (fb : List Int) (L : List Int) : Nat → List Int
  | 0 => L
  | j + 1 => (mulIn at_ left fb L j).set (at_ + j) ((mulIn at_ left fb L j).getD (at_ + j) 0 + left * fb.getD j 0)
def mulOut (fa fb : List Int) (k : Nat) : Nat → List Int
  | 0 => List.replicate (2 * k) 0
  | i + 1 => mulIn i (fa.getD i 0) fb (mulOut fa fb k i) fb.length
/-- long[at - k + to] += long[at] * figure, for the first j of the rule -/
def redIn (at_ k : Nat) (r : List Int) (L : List Int) : Nat → List Int
  | 0 => L
  | j + 1 => (redIn at_ k r L j).set (at_ - k + j) ((redIn at_ k r L j).getD (at_ - k + j) 0 + (redIn at_ k r L j).getD at_ 0 * r.getD j 0)
def redOut (k : Nat) (r : List Int) (L : List Int) : Nat → List Int
  | 0 => L
  | i + 1 => (redIn (2 * k - 1 - i) k r (redOut k r L i) r.length).set (2 * k - 1 - i) 0
def mulF (n a b : Int) : Int := if places n = 1 then a * b % base n else
  comp (base n) ((redOut (places n) (rule n) (mulOut (figs (base n) (places n) a) (figs (base n) (places n) b) (places n) (places n)) (places n)).take (places n))
theorem mulIn_len (at_ : Nat) (left : Int) (fb L : List Int) : ∀ j, (mulIn at_ left fb L j).length = L.length
  | 0 => rfl
  | j + 1 => by rw [mulIn, List.length_set, mulIn_len at_ left fb L j]
theorem mulOut_len (fa fb : List Int) (k : Nat) : ∀ i, (mulOut fa fb k i).length = 2 * k
  | 0 => by rw [mulOut, List.length_replicate]
  | i + 1 => by rw [mulOut, mulIn_len, mulOut_len fa fb k i]
theorem redIn_len (at_ k : Nat) (r L : List Int) : ∀ j, (redIn at_ k r L j).length = L.length
  | 0 => rfl
  | j + 1 => by rw [redIn, List.length_set, redIn_len at_ k r L j]
theorem redOut_len (k : Nat) (r L : List Int) : ∀ i, (redOut k r L i).length = L.length
  | 0 => rfl
  | i + 1 => by rw [redOut, List.length_set, redIn_len, redOut_len k r L i]
def invL (n a : Int) : List Int := ((List.range (n - 1).toNat).map fun (i : Nat) => (1 : Int) + i).filter fun b => mulF n a b == 1
def invF (n a : Int) : Int := (invL n a).headD 0
def overF (n a b : Int) : Int := mulF n a (invF n b)
/-- powers, by halving -/
def powGo (n : Int) : Nat → Int → Nat → Int → Int
  | 0, found, _, _ => found
  | fuel + 1, found, many, part => if many = 0 then found else powGo n fuel (if many % 2 = 1 then mulF n found part else found) (many / 2) (mulF n part part)
def powF (n a : Int) (m : Nat) : Int := powGo n m 1 m a
/-! ### checked for all sizes and numbers -/
def allN (n : Int) (p : Int → Bool) : Bool := (List.range n.toNat).all fun (i : Nat) => p i
theorem of_allN {n : Int} {p : Int → Bool} (h : allN n p = true) {a : Int} (h0 : 0 ≤ a) (h1 : a < n) : p a = true := by
  have := List.all_eq_true.mp h a.toNat (by rw [List.mem_range]; omega)
  have e : ((a.toNat : Nat) : Int) = a := by omega
  rw [← e]; exact this
def okMul (n : Int) : Bool := allN n fun a => allN n fun b => decide (0 ≤ mulF n a b ∧ mulF n a b < n)
def okAdd (n : Int) : Bool := allN n fun a => allN n fun b => decide (0 ≤ addF n a b 1 ∧ addF n a b 1 < n) && decide (0 ≤ addF n a b (-1) ∧ addF n a b (-1) < n)
def okInv (n : Int) : Bool := allN n fun a => decide (a = 0) || (decide ((invL n a).length ≠ 0) && decide (0 ≤ invF n a ∧ invF n a < n))
theorem okMul_all : sizes.all okMul = true := by decide +kernel
theorem okAdd_all : sizes.all okAdd = true := by decide +kernel
theorem okInv_all : sizes.all okInv = true := by decide +kernel
theorem of_sizes {p : Int → Bool} (h : sizes.all p = true) {n : Int} (hn : n ∈ sizes) : p n = true := List.all_eq_true.mp h n hn
section
variable {n a b : Int}
theorem mul_rng (hn : n ∈ sizes) (a0 : 0 ≤ a) (a1 : a < n) (b0 : 0 ≤ b) (b1 : b < n) : 0 ≤ mulF n a b ∧ mulF n a b < n := of_decide_eq_true (of_allN (of_allN (of_sizes okMul_all hn) a0 a1) b0 b1)
theorem add_rng (hn : n ∈ sizes) (a0 : 0 ≤ a) (a1 : a < n) (b0 : 0 ≤ b) (b1 : b < n) : 0 ≤ addF n a b 1 ∧ addF n a b 1 < n := by
  have := of_allN (of_allN (of_sizes okAdd_all hn) a0 a1) b0 b1
  rw [Bool.and_eq_true] at this
  exact of_decide_eq_true this.1
theorem sub_rng (hn : n ∈ sizes) (a0 : 0 ≤ a) (a1 : a < n) (b0 : 0 ≤ b) (b1 : b < n) : 0 ≤ addF n a b (-1) ∧ addF n a b (-1) < n := by
  have := of_allN (of_allN (of_sizes okAdd_all hn) a0 a1) b0 b1
  rw [Bool.and_eq_true] at this
  exact of_decide_eq_true this.2
theorem inv_ok (hn : n ∈ sizes) (a0 : 0 < a) (a1 : a < n) : (invL n a).length ≠ 0 ∧ 0 ≤ invF n a ∧ invF n a < n := by
  have := of_allN (of_sizes okInv_all hn) (Int.le_of_lt a0) a1
  rw [Bool.or_eq_true, Bool.and_eq_true] at this
  rcases this with h | ⟨h1, h2⟩
  · have := of_decide_eq_true h
    omega
  · exact ⟨of_decide_eq_true h1, of_decide_eq_true h2⟩
end
theorem size_cases {n : Int} (hn : n ∈ sizes) : n = 2 ∨ n = 3 ∨ n = 4 ∨ n = 5 ∨ n = 7 ∨ n = 8 ∨ n = 9 ∨ n = 11 ∨ n = 13 ∨ n = 16 := by simpa [sizes] using hn
theorem size_rng {n : Int} (hn : n ∈ sizes) : 2 ≤ n ∧ n ≤ 16 := by rcases size_cases hn with h | h | h | h | h | h | h | h | h | h <;> omega
theorem base_rng {n : Int} (hn : n ∈ sizes) : 2 ≤ base n ∧ base n ≤ 13 := by rcases size_cases hn with h | h | h | h | h | h | h | h | h | h <;> subst h <;> decide
theorem places_rng {n : Int} (hn : n ∈ sizes) : 1 ≤ places n ∧ places n ≤ 4 := by rcases size_cases hn with h | h | h | h | h | h | h | h | h | h <;> subst h <;> decide
theorem rule_len {n : Int} (hn : n ∈ sizes) (h : places n ≠ 1) : (rule n).length = places n := by rcases size_cases hn with h | h | h | h | h | h | h | h | h | h <;> subst h <;> first | decide | exact absurd (by decide) h
theorem addL_len {p : Int} {k : Nat} {a b s : Int} : (addL p k a b s).length = k := by simp [addL]
/-- the first i candidates of an inverse -/
def invP (n a : Int) (i : Nat) : List Int := ((List.range i).map fun (i : Nat) => (1 : Int) + i).filter fun b => mulF n a b == 1
theorem invP_succ (n a : Int) (i : Nat) : invP n a (i + 1) = if mulF n a (1 + i) = 1 then invP n a i ++ [1 + (i : Int)] else invP n a i := by
  unfold invP
  rw [List.range_succ, List.map_append, List.filter_append]
  show _ ++ List.filter _ [1 + (i : Int)] = _
  by_cases h : mulF n a (1 + i) = 1
  · rw [if_pos h, List.filter_cons_of_pos (by simpa using h), List.filter_nil]
  · rw [if_neg h, List.filter_cons_of_neg (by simpa using h), List.filter_nil, List.append_nil]
theorem invP_len (n a : Int) (i : Nat) : (invP n a i).length ≤ i := by
  unfold invP
  refine Nat.le_trans (List.length_filter_le _ _) ?_
  rw [List.length_map, List.length_range]
  exact Nat.le_refl _
def basesL : List Int := [2, 3, 5, 7, 11, 13]
def basP (n : Int) (i : Nat) : List Int := (basesL.take i).filter fun b => n % b == 0
theorem basP_len (n : Int) (i : Nat) : (basP n i).length ≤ 6 := by
  unfold basP
  refine Nat.le_trans (List.length_filter_le _ _) ?_
  rw [List.length_take]
  exact Nat.le_trans (Nat.min_le_right _ _) (by decide)
theorem basP_end {n : Int} (hn : n ∈ sizes) : (basP n 6)[0]? = some (base n) := by
  rcases size_cases hn with h | h | h | h | h | h | h | h | h | h <;> subst h <;> decide
theorem pow_lt {n : Int} (hn : n ∈ sizes) {k : Nat} (h1 : 1 ≤ k) (h2 : k ≤ places n) : (base n ^ k < n ↔ k < places n) := by
  have h4 := (places_rng hn).2
  have hk : k = 1 ∨ k = 2 ∨ k = 3 ∨ k = 4 := by omega
  rcases size_cases hn with h | h | h | h | h | h | h | h | h | h <;> subst h <;> rcases hk with e | e | e | e <;> subst e <;> first | decide | exact absurd h2 (by decide)
theorem powGo0 (n : Int) (fuel : Nat) (found part : Int) : powGo n fuel found 0 part = found := by
  cases fuel with
  | zero => rfl
  | succ f => rfl
theorem powGo1 (n : Int) (fuel m : Nat) (found part : Int) (h : m ≠ 0) : powGo n (fuel + 1) found m part = powGo n fuel (if m % 2 = 1 then mulF n found part else found) (m / 2) (mulF n part part) := by
  show (if m = 0 then _ else _) = _
  rw [if_neg h]
theorem figs_rng {p : Int} (hp : 0 < p) : ∀ (k : Nat) (x : Int) (i : Nat), 0 ≤ (figs p k x).getD i 0 ∧ (figs p k x).getD i 0 < p
  | 0, x, i => by simpa [figs] using hp
  | k + 1, x, 0 => by
    show 0 ≤ x % p ∧ x % p < p
    exact ⟨Int.emod_nonneg _ (by omega), Int.emod_lt_of_pos _ hp⟩
  | k + 1, x, i + 1 => figs_rng hp k (x / p) i
theorem rule_rng (n : Int) (i : Nat) : 0 ≤ (rule n).getD i 0 ∧ (rule n).getD i 0 ≤ 2 := by
  have : ∀ l : List Int, l ∈ [[1, 1], [1, 1, 0], [2, 0], [1, 1, 0, 0]] → ∀ i : Nat, 0 ≤ l.getD i 0 ∧ l.getD i 0 ≤ 2 := by
    intro l hl i
    have h4 : l.length ≤ 4 := by
      rcases (by simpa using hl : l = [1, 1] ∨ l = [1, 1, 0] ∨ l = [2, 0] ∨ l = [1, 1, 0, 0]) with h | h | h | h <;> subst h <;> decide
    by_cases hi : i < 4
    · have hi' : i = 0 ∨ i = 1 ∨ i = 2 ∨ i = 3 := by omega
      rcases (by simpa using hl : l = [1, 1] ∨ l = [1, 1, 0] ∨ l = [2, 0] ∨ l = [1, 1, 0, 0]) with h | h | h | h <;> subst h <;> rcases hi' with e | e | e | e <;> subst e <;> decide
    · rw [List.getD_eq_getElem?_getD, List.getElem?_eq_none (by omega)]
      decide
  refine this _ ?_ i
  unfold rule
  split
  · simp
  · split
    · simp
    · split <;> simp
theorem comp1 (n : Int) (h : places n ≠ 1) (h' : n ∈ sizes) : n = 4 ∨ n = 8 ∨ n = 9 ∨ n = 16 := by
  rcases size_cases h' with e | e | e | e | e | e | e | e | e | e <;> subst e <;> first | exact absurd (by decide) h | omega
end FM

set_option Elab.async false
set_option linter.all false
set_option maxRecDepth 100000
set_option maxHeartbeats 4000000
/-! ### own steps (local) -/
local macro_rules | `(tactic| walk_at "hp") => `(tactic| first
  | assumption
  | exact L2.upd_same
  | ((with_reducible refine U.upd_new ?_ ?_); (focus (first | assumption | done)); walk_at "hp")
  | ((with_reducible refine U.upd_ne'' ?_ ?_); (focus (first | assumption | (apply Ne.symm; assumption))); walk_at "hp")
  | ((with_reducible refine' U.Same.get ?hx ?hy); (case hx => assumption); (case hy => walk_at "hp"))
  | ((with_reducible refine' U.ExtN.lst ?hx ?hy); (case hx => assumption); (case hy => walk_at "hp"))
  | ((with_reducible refine' U.ExtN.tup ?hx ?hy); (case hx => assumption); (case hy => walk_at "hp"))
  | ((with_reducible refine' U.ExtN.ins ?hx ?hy); (case hx => assumption); (case hy => walk_at "hp"))
  | fail "hp")
local macro_rules | `(tactic| walk_at "lay") => `(tactic| (intro p hn; generalize hg : L2.upd _ p _ = H'; have hs := U.same_of hg hn; have ho := U.at_of hg; clear hg))
local macro_rules | `(tactic| walk_at "sz") => `(tactic| first | decide | (show _ ≤ PySem.sizeLine; rw [PySem.sizeLine_eq]; (try simp only [List.length_cons, List.length_nil, List.length_map]); omega))
local macro_rules | `(tactic| walk_at "ref'") => `(tactic| skip)
local macro_rules | `(tactic| walk_at "rd1") => `(tactic| first
  | (with_reducible refine' U.i_seq ?_)
  | (with_reducible refine' U.i_asg ?_)
  | (with_reducible refine' U.i_ret ?_)
  | (with_reducible refine' U.i_ifS ?_)
  | (with_reducible refine' U.i_drop ?_)
  | ((with_reducible refine' U.i_var ?hx ?_); (case hx => rfl))
  | (with_reducible refine' U.i_c ?_)
  | (with_reducible refine' U.i_op ?_)
  | (with_reducible refine' U.i_un ?_)
  | (with_reducible refine' U.i_name ?_)
  | (with_reducible refine' U.i_gsub ?_)
  | (with_reducible refine' U.i_test ?_)
  | (with_reducible refine' U.i_tB ?_)
  | (with_reducible refine' U.i_bl ?_)
  | (with_reducible refine' U.i_not ?_)
  | (with_reducible refine' U.i_nil ?_)
  | (with_reducible refine' U.i_cons ?_)
  | (with_reducible refine' U.i_cb ?_)
  | (with_reducible refine' U.i_call ?_)
  | (with_reducible refine' U.i_fld ?_)
  | ((with_reducible refine' U.i_fld' ?hx ?hy ?hz ?hw ?_); (case hx => walk_at "hp"); (case hy => assumption); (case hz => assumption); (case hw => rfl))
  | (with_reducible refine' U.i_meth ?_)
  | ((with_reducible refine' U.i_meth' ?hx ?hy ?_); (case hx => walk_at "hp"); (case hy => rfl))
  | (with_reducible refine' U.i_add ?_)
  | (with_reducible refine' U.i_sub ?_)
  | ((with_reducible refine' U.i_mul ?hx ?_); (case hx => (first | (left; constructor <;> omega) | (right; constructor <;> omega))))
  | ((with_reducible refine' U.i_mod ?hx ?_); (case hx => omega))
  | ((with_reducible refine' U.i_fdiv ?hx ?_); (case hx => (constructor <;> omega)))
  | ((with_reducible refine' U.i_pow ?hx ?_); (case hx => (refine ⟨?_, ?_, ?_⟩ <;> decide)))
  | (with_reducible refine' U.i_lt ?_)
  | (with_reducible refine' U.i_le ?_)
  | (with_reducible refine' U.i_gt ?_)
  | (with_reducible refine' U.i_ge ?_)
  | (with_reducible refine' U.i_eqI ?_)
  | (with_reducible refine' U.i_neI ?_)
  | (with_reducible refine' U.i_rU ?_)
  | (with_reducible refine' U.i_abs ?_)
  | (with_reducible refine' U.i_callN ?_)
  | ((with_reducible refine' U.i_lens ?hx ?hy ?_); (case hx => rfl); (case hy => rfl))
  | ((with_reducible refine' U.i_ixL ?hx ?hy ?_); (case hx => exact L2.SqL.of (by walk_at "hp")); (case hy => rfl))
  | ((with_reducible refine' U.i_lenL ?hx ?_); (case hx => exact L2.SqL.of (by walk_at "hp")))
  | ((with_reducible refine' U.i_setL ?hx ?hy ?_); (case hx => walk_at "hp"); (case hy => rfl))
  | (with_reducible refine' U.i_augS ?_)
  | ((with_reducible refine' U.i_aug ?hx ?_); (case hx => rfl))
  | (with_reducible refine' U.i_ipI ?_)
  | ((with_reducible refine' U.i_ipMul ?hx ?_); (case hx => (first | (left; constructor <;> omega) | (right; constructor <;> omega))))
  | ((with_reducible refine' U.i_gtup ?hx ?hy ?_); (case hx => exact L2.SqT.of (by walk_at "hp")); (case hy => rfl))
  | (with_reducible refine' U.i_gcons ?_)
  | (with_reducible refine' U.i_gnil ?_)
  | ((with_reducible refine' U.i_divmod ?hx ?_); (case hx => (constructor <;> omega)); walk_at "lay")
  | (with_reducible refine' U.i_tup ?_)
  | (with_reducible refine' U.i_lst ?_)
  | ((with_reducible refine' U.lay_and ?hx ?_); (case hx => walk_at "sz"); walk_at "lay")
  | (with_reducible refine' U.i_sl ?_)
  | (with_reducible refine' U.i_part ?_)
  | (with_reducible refine' U.i_part' ?_)
  | (with_reducible refine' U.i_nopart ?_)
  | ((with_reducible refine' U.i_slL ?hx ?_); (case hx => exact L2.SqL.of (by walk_at "hp")); walk_at "lay")
  | (with_reducible refine' U.i_bm ?_)
  | ((with_reducible refine' U.i_bm' ?hx ?_); (case hx => walk_at "hp"))
  | ((with_reducible refine' U.i_append ?hx ?hy ?_); (case hx => walk_at "hp"); (case hy => walk_at "szl"))
  | ((with_reducible refine' U.i_chLL ?hx ?hy ?_); (case hx => rfl); (case hy => rfl))
  | (with_reducible refine' U.i_chain ?_)
  | (with_reducible refine' U.i_rng1 ?_)
  | ((with_reducible refine' U.i_rng1' ?hx ?hy ?_); (case hx => omega); (case hy => omega))
  | (with_reducible refine' U.i_rng2 ?_)
  | ((with_reducible refine' U.i_rng2' ?hx ?_); (case hx => (refine ⟨?_, ?_, ?_, ?_⟩ <;> omega)))
  | (with_reducible refine' U.i_rng3 ?_)
  | (with_reducible refine' U.i_enum ?_)
  | ((with_reducible refine' U.i_enum' ?hx ?_); (case hx => exact L2.SqL.of (by walk_at "hp")))
  | (with_reducible refine' U.i_enumT ?_)
  | ((with_reducible refine' U.i_enumT' ?hx ?_); (case hx => exact L2.SqT.of (by walk_at "hp")))
  | (with_reducible refine' U.i_rev ?_)
  | ((with_reducible refine' U.i_rev' ?hx ?_); (case hx => exact L2.SqL.of (by walk_at "hp")))
  | (with_reducible refine' U.i_plist ?_)
  | ((with_reducible refine' U.i_plist' ?hx ?_); (case hx => exact L2.SqL.of (by walk_at "hp")))
  | (with_reducible refine' U.i_for ?_)
  | (with_reducible refine' U.i_sfld ?_)
  | ((with_reducible refine' U.i_sfld' ?hx ?hy ?hz ?hw ?_); (case hx => walk_at "hp"); (case hy => assumption); (case hz => assumption); (case hw => exact Nat.le_of_ble_eq_true rfl))
  | (with_reducible refine' U.i_lc ?_)
  | (with_reducible refine' U.i_par3 ?_)
  | (with_reducible refine' U.i_par3' ?_)
  | (with_reducible refine' U.i_par ?_)
  | (with_reducible refine' U.i_par' ?_)
  | (with_reducible refine' U.i_lrg ?_)
  | (with_reducible refine' U.i_rg1 ?_)
  | (with_reducible refine' U.i_rg1' ?_)
  | (with_reducible refine' U.i_pl ?_)
  | ((with_reducible refine' U.i_pl' ?hx ?hy ?_); (case hx => walk_at "hp"); (case hy => exact Nat.le_of_ble_eq_true rfl))
  | (with_reducible refine' U.i_rAdd ?_)
  | ((with_reducible refine' U.i_listOf ?hx ?_); (case hx => exact L2.SqL.of (by walk_at "hp")); walk_at "lay")
  | (with_reducible refine' U.i_intB ?_)
  | (with_reducible refine' U.i_wget ?_)
  | (with_reducible refine' U.i_yes ?_)
  | (with_reducible refine' L2.iteT ?_)
  | (with_reducible refine' U.i_next ?_)
  | fail "rd1")
local macro_rules | `(tactic| walk_at "szl") => `(tactic| first | decide | (refine L2.small1000 ?_; (try simp only [List.length_cons, List.length_nil, List.length_map]); omega))
local macro_rules | `(tactic| walk_at "rd") => `(tactic| (repeat walk_at "rd1"))
local macro_rules | `(tactic| walk_at "ro") => `(tactic| (refine' U.i_or ?_; walk_at "rd"))
local macro_rules | `(tactic| walk_at "ra") => `(tactic| (refine' U.i_pt ?_; walk_at "rd"))
local macro_rules | `(tactic| walk_at "gd") => `(tactic| (repeat (first | walk_at "rd1" | (with_reducible refine' U.i_andV ?_))))

namespace Lw
open PySem L2 U LamX
def top (i : Nat) : Stmt := PySem.Challenge.pw_mingleway_k41_shares_dealt.main.body.getD i (.Pass ⟨0, 0, 0, 0⟩)
structure Ad where
  BadSize : Addr
  SIZES : Addr
  BASES : Addr
  r4 : Addr
  r8 : Addr
  r9 : Addr
  r16 : Addr
  RULES : Addr
  Field : Addr
  BadNumber : Addr
  BadRow : Addr
  BadName : Addr
  BadLine : Addr
  BadHearers : Addr
  BadLoss : Addr
  BadPlan : Addr
  BadDeed : Addr
  BadText : Addr
  Ringed : Addr
  Short : Addr
  Narrow : Addr
  Heavy : Addr
  Unsolved : Addr
  NoHouse : Addr
  NoLine : Addr
  Taken : Addr
  Full : Addr
  InUse : Addr
  Told : Addr
  NothingLeft : Addr
  NoShare : Addr
  MingleError : Addr
  Missing : Addr
  Busy : Addr
structure Txt (P : Program) (w : World) (K : PySem.W.Frag) (mg : Str → Option Value) (A : Ad) : Prop where
  len : mg "len" = none
  abs : mg "abs" = none
  list : mg "list" = none
  int : mg "int" = none
  d_law_bag : U.DA K mg "_law_bag" (top 41) ["_law_script"] []
  d_law_pull : U.DA K mg "_law_pull" (top 44) ["_law_bag_here", "_law_tally"] []
  d_law_size : U.DA K mg "_law_size" (top 45) ["_law_bag_here"] []
  range : mg "range" = none
  e_BadSize : U.EA K mg "BadSize" A.BadSize
  g_SIZES : mg "SIZES" = some (.ref A.SIZES)
  s_SIZES : ∀ H, SqT K H A.SIZES [V.int 2, V.int 3, V.int 4, V.int 5, V.int 7, V.int 8, V.int 9, V.int 11, V.int 13, V.int 16]
  g_BASES : mg "BASES" = some (.ref A.BASES)
  s_BASES : ∀ H, SqT K H A.BASES [V.int 2, V.int 3, V.int 5, V.int 7, V.int 11, V.int 13]
  g_RULES : mg "RULES" = some (.ref A.RULES)
  w_RULES : U.WD P w K A.RULES [((Sum.inl 4 : Key), V.ref A.r4), ((Sum.inl 8 : Key), V.ref A.r8), ((Sum.inl 9 : Key), V.ref A.r9), ((Sum.inl 16 : Key), V.ref A.r16)]
  s_r4 : ∀ H, SqT K H A.r4 [V.int 1, V.int 1]
  s_r8 : ∀ H, SqT K H A.r8 [V.int 1, V.int 1, V.int 0]
  s_r9 : ∀ H, SqT K H A.r9 [V.int 2, V.int 0]
  s_r16 : ∀ H, SqT K H A.r16 [V.int 1, V.int 1, V.int 0, V.int 0]
  d_grown : U.DA K mg "grown" (top 33) ["one", "many"] []
  c_Field : Cls K A.Field
  na_Field_many : NoAttr K A.Field "many"
  na_Field_prime : NoAttr K A.Field "prime"
  na_Field_places : NoAttr K A.Field "places"
  n_Field : U.NA K mg "Field" A.Field "Field.__init__" (inClass (top 34) 0) ["self", "size"] [V.int 16]
  m_Field_size : U.MA K A.Field "size" "Field.size" (inClass (top 34) 5) ["self"] []
  isinstance : mg "isinstance" = none
  gx_BadSize : mg "BadSize" = some (.ref A.BadSize)
  gx_BadNumber : mg "BadNumber" = some (.ref A.BadNumber)
  gx_BadRow : mg "BadRow" = some (.ref A.BadRow)
  gx_BadName : mg "BadName" = some (.ref A.BadName)
  gx_BadLine : mg "BadLine" = some (.ref A.BadLine)
  gx_BadHearers : mg "BadHearers" = some (.ref A.BadHearers)
  gx_BadLoss : mg "BadLoss" = some (.ref A.BadLoss)
  gx_BadPlan : mg "BadPlan" = some (.ref A.BadPlan)
  gx_BadDeed : mg "BadDeed" = some (.ref A.BadDeed)
  gx_BadText : mg "BadText" = some (.ref A.BadText)
  gx_Ringed : mg "Ringed" = some (.ref A.Ringed)
  gx_Short : mg "Short" = some (.ref A.Short)
  gx_Narrow : mg "Narrow" = some (.ref A.Narrow)
  gx_Heavy : mg "Heavy" = some (.ref A.Heavy)
  gx_Unsolved : mg "Unsolved" = some (.ref A.Unsolved)
  gx_NoHouse : mg "NoHouse" = some (.ref A.NoHouse)
  gx_NoLine : mg "NoLine" = some (.ref A.NoLine)
  gx_Taken : mg "Taken" = some (.ref A.Taken)
  gx_Full : mg "Full" = some (.ref A.Full)
  gx_InUse : mg "InUse" = some (.ref A.InUse)
  gx_Told : mg "Told" = some (.ref A.Told)
  gx_NothingLeft : mg "NothingLeft" = some (.ref A.NothingLeft)
  gx_NoShare : mg "NoShare" = some (.ref A.NoShare)
  gx_MingleError : mg "MingleError" = some (.ref A.MingleError)
  gx_Missing : mg "Missing" = some (.ref A.Missing)
  gx_Busy : mg "Busy" = some (.ref A.Busy)
  d_law_kind : U.DA K mg "_law_kind" (top 43) ["_law_e"] []
  d_law_why : U.DA K mg "_law_why" (top 47) ["_law_ask"] []
  bool : mg "bool" = none
  str : mg "str" = none
  dict : mg "dict" = none
  tuple : mg "tuple" = none
  all : mg "all" = none
  d_law_whole : U.DA K mg "_law_whole" (top 46) ["_law_one"] []
  d_law_alike : U.DA K mg "_law_alike" (top 40) ["_law_found", "_law_due"] []
  d_law_dealt : U.DA K mg "_law_dealt" (top 42) ["_law_grain", "_law_turn", "_law_line", "_law_place", "_law_big"] []
  g_MODULUS : ∃ u, mg "MODULUS" = some u ∧ RelV (.int 2147483647) u
  d_share_dealt : U.DA K mg "share_dealt" (top 37) ["seed", "turn", "line", "place", "size"] []
  d_dealt : U.DK K mg "dealt" (top 38) [] [("size", V.int 16)] (fun fd => U.BP K fd ["seed", "turn", "line", "place", "size"] [V.int 16] ∧ U.BN K fd ["seed", "turn", "line", "place", "size"] 4 ["size"] (fun vs zs => vs ++ zs))


/-! ### promises -/
def Bag (H : Hp) (a c : Addr) : Prop := ∃ (ns : List Int) (i l s : Int), H a = some (.lst [.ref c, .int i, .int l, .int s]) ∧ H c = some (.lst (ns.map V.int)) ∧ a ≠ c ∧ 0 ≤ i ∧ 0 ≤ s ∧ s < 2147483629
def spPull : Sp := fun vs H Q _ => ∃ (a c : Addr) (n : Int), vs = [.ref a, .int n] ∧ Bag H a c ∧ 0 < n ∧ n < 1073741824 ∧ ∀ (r : Int) (H' : Hp), 0 ≤ r → r < n → Bag H' a c → But a H H' → Q (.int r) H'
def spSize : Sp := fun vs H Q _ => ∃ (a c : Addr), vs = [.ref a] ∧ Bag H a c ∧ ∀ (r : Int) (H' : Hp), r ∈ FM.sizes → Bag H' a c → But a H H' → Q (.int r) H'
def spBag (K : PySem.W.Frag) : Sp := fun vs H Q _ => ∃ (a : Addr) (ns : List Int), vs = [.ref a] ∧ SqL K H a (ns.map V.int) ∧ ns.length ≤ 63 ∧ ∀ (b c : Addr) (H' : Hp), H b = none → H c = none → Same H H' → Bag H' b c → Q (.ref b) H'
theorem Bag.same {H H' : Hp} {a c : Addr} (h : Bag H a c) (s : Same H H') : Bag H' a c := by
  obtain ⟨ns, i, l, z, h1, h2, h3⟩ := h
  exact ⟨ns, i, l, z, s _ _ h1, s _ _ h2, h3⟩
/-- a Field of size n stands at p -/
def flds (n : Int) : List (Str × V) := [("many", .int n), ("prime", .int (FM.base n)), ("places", .int (FM.places n : Nat))]
def FA (A : Ad) (H : Hp) (p : Addr) (n : Int) : Prop := n ∈ FM.sizes ∧ ∃ dx, H p = some (.ins A.Field dx (flds n))
theorem FA.same {A : Ad} {H H' : Hp} {p : Addr} {n : Int} (h : FA A H p n) (s : Same H H') : FA A H' p n := by
  obtain ⟨h1, dx, h2⟩ := h
  exact ⟨h1, dx, s _ _ h2⟩
theorem FA.but {A : Ad} {H H' : Hp} {p a : Addr} {n : Int} (h : FA A H p n) (s : But a H H') (ne : p ≠ a) : FA A H' p n := by
  obtain ⟨h1, dx, h2⟩ := h
  exact ⟨h1, dx, s _ _ h2 ne⟩
local macro_rules | `(tactic| walk_at "fa") => `(tactic| first
  | assumption
  | ((with_reducible refine' Lw.FA.same ?hx ?hy); (case hy => assumption); (case hx => walk_at "fa"))
  | fail "fa")
local macro_rules | `(tactic| walk_at "bg") => `(tactic| first
  | assumption
  | ((with_reducible refine' Lw.Bag.same ?hx ?hy); (case hy => assumption); (case hx => walk_at "bg"))
  | fail "bg")
def spGrown : Sp := fun vs H Q _ => ∃ (a : Int) (k : Nat), vs = [.int a, .int (k : Nat)] ∧ -(2 ^ 64) < a ∧ a < 2 ^ 64 ∧ k < 2 ^ 62 ∧ Q (.int (a ^ k)) H
def spInit (A : Ad) : Sp := fun vs H Q E => ∃ (p dx : Addr) (n : Int), vs = [.ref p, .int n] ∧ H p = some (.ins A.Field dx []) ∧
  (n ∈ FM.sizes → ∀ H', (∀ b o, H b = some o → b ≠ p → H' b = some o) → FA A H' p n → Q .non H') ∧ (n ∉ FM.sizes → E (.ref A.BadSize) none H)
def spHas (A : Ad) : Sp := fun vs H Q _ => ∃ (p : Addr) (n a : Int), vs = [.ref p, .int a] ∧ FA A H p n ∧ Q (.bl (decide (0 ≤ a ∧ a < n))) H
def spNeed (A : Ad) : Sp := fun vs H Q E => ∃ (p : Addr) (n a : Int), vs = [.ref p, .int a] ∧ FA A H p n ∧ (0 ≤ a ∧ a < n → Q .non H) ∧ (¬ (0 ≤ a ∧ a < n) → E (.ref A.BadNumber) none H)
def spFigs (A : Ad) : Sp := fun vs H Q _ => ∃ (p : Addr) (n a : Int), vs = [.ref p, .int a] ∧ FA A H p n ∧ ∀ l H', H l = none → Same H H' → H' l = some (.lst ((FM.figs (FM.base n) (FM.places n) a).map V.int)) → Q (.ref l) H'
def spComp (A : Ad) : Sp := fun vs H Q _ => ∃ (p l : Addr) (n : Int) (fs : List Int), vs = [.ref p, .ref l] ∧ FA A H p n ∧ H l = some (.lst (fs.map V.int)) ∧ Q (.int (FM.comp (FM.base n) fs)) H
def spAdded (A : Ad) : Sp := fun vs H Q _ => ∃ (p : Addr) (n a b s : Int), vs = [.ref p, .int a, .int b, .int s] ∧ FA A H p n ∧ (s = 1 ∨ s = -1) ∧ ∀ H', Same H H' → Q (.int (FM.addF n a b s)) H'
/-- an operation on two numbers of the field -/
def spOp (A : Ad) (f : Int → Int → Int → Int) : Sp := fun vs H Q E => ∃ (p : Addr) (n a b : Int), vs = [.ref p, .int a, .int b] ∧ FA A H p n ∧
  ((0 ≤ a ∧ a < n) ∧ (0 ≤ b ∧ b < n) → ∀ H', Same H H' → Q (.int (f n a b)) H') ∧ (¬ ((0 ≤ a ∧ a < n) ∧ (0 ≤ b ∧ b < n)) → E (.ref A.BadNumber) none H)
def spProd (A : Ad) : Sp := fun vs H Q _ => ∃ (p : Addr) (n a b : Int), vs = [.ref p, .int a, .int b] ∧ FA A H p n ∧ (0 ≤ a ∧ a < n) ∧ (0 ≤ b ∧ b < n) ∧ ∀ H', Same H H' → Q (.int (FM.mulF n a b)) H'
def spInv (A : Ad) : Sp := fun vs H Q _ => ∃ (p : Addr) (n a : Int), vs = [.ref p, .int a] ∧ FA A H p n ∧ 0 < a ∧ a < n ∧ ∀ H', Same H H' → Q (.int (FM.invF n a)) H'
def spOver (A : Ad) : Sp := fun vs H Q E => ∃ (p : Addr) (n a b : Int), vs = [.ref p, .int a, .int b] ∧ FA A H p n ∧
  ((0 ≤ a ∧ a < n) ∧ (0 ≤ b ∧ b < n) → b ≠ 0 → ∀ H', Same H H' → Q (.int (FM.overF n a b)) H') ∧ (¬ ((0 ≤ a ∧ a < n) ∧ (0 ≤ b ∧ b < n)) → E (.ref A.BadNumber) none H) ∧
  ((0 ≤ a ∧ a < n) ∧ (0 ≤ b ∧ b < n) → b = 0 → ∀ H', Same H H' → E (.ref A.NoShare) none H')
def spPow (A : Ad) : Sp := fun vs H Q E => ∃ (p : Addr) (n a m : Int), vs = [.ref p, .int a, .int m] ∧ FA A H p n ∧
  ((0 ≤ a ∧ a < n) ∧ 0 ≤ m → ∀ H', Same H H' → Q (.int (FM.powF n a m.toNat)) H') ∧ (¬ ((0 ≤ a ∧ a < n) ∧ 0 ≤ m) → E (.ref A.BadNumber) none H)
def spGetN (A : Ad) (f : Int → Int) : Sp := fun vs H Q _ => ∃ (p : Addr) (n : Int), vs = [.ref p] ∧ FA A H p n ∧ Q (.int (f n)) H
theorem spOp.go {A : Ad} {f : Int → Int → Int → Int} {H : Hp} {Q : VK} {E : XK} {p : Addr} {n a b : Int} (fa : FA A H p n) (ra : 0 ≤ a ∧ a < n) (rb : 0 ≤ b ∧ b < n) (q : ∀ H', Same H H' → Q (.int (f n a b)) H') : spOp A f [.ref p, .int a, .int b] H Q E :=
  ⟨p, n, a, b, rfl, fa, fun _ => q, fun z => absurd ⟨ra, rb⟩ z⟩
/-- a call of an operation on two numbers of the field -/
local macro_rules | `(tactic| walk_at "op2") => `(tactic| (refine' Lw.spOp.go ?fa ?ra ?rb ?q; (case fa => walk_at "fa"); (case ra => constructor <;> omega); (case rb => constructor <;> omega); intro H' s'; walk_at "rd"))
theorem spOver.go {A : Ad} {H : Hp} {Q : VK} {E : XK} {p : Addr} {n a b : Int} (fa : FA A H p n) (ra : 0 ≤ a ∧ a < n) (rb : 0 ≤ b ∧ b < n) (hb : b ≠ 0) (q : ∀ H', Same H H' → Q (.int (FM.overF n a b)) H') : spOver A [.ref p, .int a, .int b] H Q E :=
  ⟨p, n, a, b, rfl, fa, fun _ _ => q, fun z => absurd ⟨ra, rb⟩ z, fun _ z => absurd z hb⟩
theorem spPow.go {A : Ad} {H : Hp} {Q : VK} {E : XK} {p : Addr} {n a m : Int} (fa : FA A H p n) (ra : 0 ≤ a ∧ a < n) (hm : 0 ≤ m) (q : ∀ H', Same H H' → Q (.int (FM.powF n a m.toNat)) H') : spPow A [.ref p, .int a, .int m] H Q E :=
  ⟨p, n, a, m, rfl, fa, fun _ => q, fun z => absurd ⟨ra, hm⟩ z⟩
theorem spPull.go {H : Hp} {Q : VK} {E : XK} {a c : Addr} {n : Int} (hb : Bag H a c) (h0 : 0 < n) (h1 : n < 1073741824) (q : ∀ (r : Int) (H' : Hp), 0 ≤ r → r < n → Bag H' a c → But a H H' → Q (.int r) H') : spPull [.ref a, .int n] H Q E :=
  ⟨a, c, n, rfl, hb, h0, h1, q⟩
section
variable {P : Program} {w : World} {K : PySem.W.Frag} {mg : Str → Option Value} {base : Heap} {A : Ad}

structure Kinds (K : PySem.W.Frag) (A : Ad) (D : Addr) (b0 b1 b2 b3 b4 b5 b6 b7 b8 b9 b10 b11 b12 b13 b14 b15 b16 b17 b18 b19 b20 b21 b22 : Bool) : Prop where
  exc : ExcC K D
  k0 : PySem.W.kitOne K (.ref D) (.ref A.BadSize) = some b0
  k1 : PySem.W.kitOne K (.ref D) (.ref A.BadNumber) = some b1
  k2 : PySem.W.kitOne K (.ref D) (.ref A.BadRow) = some b2
  k3 : PySem.W.kitOne K (.ref D) (.ref A.BadName) = some b3
  k4 : PySem.W.kitOne K (.ref D) (.ref A.BadLine) = some b4
  k5 : PySem.W.kitOne K (.ref D) (.ref A.BadHearers) = some b5
  k6 : PySem.W.kitOne K (.ref D) (.ref A.BadLoss) = some b6
  k7 : PySem.W.kitOne K (.ref D) (.ref A.BadPlan) = some b7
  k8 : PySem.W.kitOne K (.ref D) (.ref A.BadDeed) = some b8
  k9 : PySem.W.kitOne K (.ref D) (.ref A.BadText) = some b9
  k10 : PySem.W.kitOne K (.ref D) (.ref A.Ringed) = some b10
  k11 : PySem.W.kitOne K (.ref D) (.ref A.Short) = some b11
  k12 : PySem.W.kitOne K (.ref D) (.ref A.Narrow) = some b12
  k13 : PySem.W.kitOne K (.ref D) (.ref A.Heavy) = some b13
  k14 : PySem.W.kitOne K (.ref D) (.ref A.Unsolved) = some b14
  k15 : PySem.W.kitOne K (.ref D) (.ref A.NoHouse) = some b15
  k16 : PySem.W.kitOne K (.ref D) (.ref A.NoLine) = some b16
  k17 : PySem.W.kitOne K (.ref D) (.ref A.Taken) = some b17
  k18 : PySem.W.kitOne K (.ref D) (.ref A.Full) = some b18
  k19 : PySem.W.kitOne K (.ref D) (.ref A.InUse) = some b19
  k20 : PySem.W.kitOne K (.ref D) (.ref A.Told) = some b20
  k21 : PySem.W.kitOne K (.ref D) (.ref A.NothingLeft) = some b21
  k22 : PySem.W.kitOne K (.ref D) (.ref A.NoShare) = some b22
structure Told (K : PySem.W.Frag) (A : Ad) (D : Addr) : Prop where
  n0 : PySem.W.exmOne K (.ref D) (.ref A.NoHouse) = some false
  n1 : PySem.W.exmOne K (.ref D) (.ref A.NoLine) = some false
  n2 : PySem.W.exmOne K (.ref D) (.ref A.InUse) = some false
  n3 : PySem.W.exmOne K (.ref D) (.ref A.BadText) = some false
  n4 : PySem.W.exmOne K (.ref D) (.ref A.Heavy) = some false
  any : PySem.W.exmAny K (.ref D) [.ref A.MingleError, .ref A.Missing, .ref A.Busy, .ref A.NoShare] = some true
abbrev marks (b0 b1 b2 b3 b4 b5 b6 b7 b8 b9 b10 b11 b12 b13 b14 b15 b16 b17 b18 b19 b20 b21 b22 : Bool) : List (Str × Bool) := [(("BadSize" : Str), b0), (("BadNumber" : Str), b1), (("BadRow" : Str), b2), (("BadName" : Str), b3), (("BadLine" : Str), b4), (("BadHearers" : Str), b5), (("BadLoss" : Str), b6), (("BadPlan" : Str), b7), (("BadDeed" : Str), b8), (("BadText" : Str), b9), (("Ringed" : Str), b10), (("Short" : Str), b11), (("Narrow" : Str), b12), (("Heavy" : Str), b13), (("Unsolved" : Str), b14), (("NoHouse" : Str), b15), (("NoLine" : Str), b16), (("Taken" : Str), b17), (("Full" : Str), b18), (("InUse" : Str), b19), (("Told" : Str), b20), (("NothingLeft" : Str), b21), (("NoShare" : Str), b22)]
def kindNames : List Str := ["BadSize", "BadNumber", "BadRow", "BadName", "BadLine", "BadHearers", "BadLoss", "BadPlan", "BadDeed", "BadText", "Ringed", "Short", "Narrow", "Heavy", "Unsolved", "NoHouse", "NoLine", "Taken", "Full", "InUse", "Told", "NothingLeft", "NoShare"]
theorem names_len : (kindNames.map (·.length)).sum ≤ 1000 := by decide +kernel
theorem marks_len (b0 b1 b2 b3 b4 b5 b6 b7 b8 b9 b10 b11 b12 b13 b14 b15 b16 b17 b18 b19 b20 b21 b22 : Bool) : ((U.words (marks b0 b1 b2 b3 b4 b5 b6 b7 b8 b9 b10 b11 b12 b13 b14 b15 b16 b17 b18 b19 b20 b21 b22)).map (·.length)).sum + (U.words (marks b0 b1 b2 b3 b4 b5 b6 b7 b8 b9 b10 b11 b12 b13 b14 b15 b16 b17 b18 b19 b20 b21 b22)).length * (PySem.Str.ofString " ").length ≤ 16777216 := by
  have h := U.lens_le (marks b0 b1 b2 b3 b4 b5 b6 b7 b8 b9 b10 b11 b12 b13 b14 b15 b16 b17 b18 b19 b20 b21 b22)
  have e1 : (marks b0 b1 b2 b3 b4 b5 b6 b7 b8 b9 b10 b11 b12 b13 b14 b15 b16 b17 b18 b19 b20 b21 b22).map (·.1) = kindNames := rfl
  have e2 : (marks b0 b1 b2 b3 b4 b5 b6 b7 b8 b9 b10 b11 b12 b13 b14 b15 b16 b17 b18 b19 b20 b21 b22).length = 23 := rfl
  have e3 : (PySem.Str.ofString " ").length = 1 := by decide +kernel
  have e4 := names_len
  rw [e1, e2] at h
  rw [e3]
  omega


local macro_rules | `(tactic| walk_at "ty") => `(tactic| first | exact .base (.int _) | exact .base (.str _) | exact .base (.bl _) | exact .base .non | exact .base (.lst (by walk_at "hp")) | exact .base (.tup (by walk_at "hp")))
local macro_rules | `(tactic| walk_at "al") => `(tactic| (repeat (first
  | walk_at "rd1"
  | (with_reducible refine' U.i_andV ?_)
  | (with_reducible refine' U.i_notV ?_)
  | (with_reducible refine' U.i_truth ?_)
  | (with_reducible refine' U.i_or ?_)
  | (with_reducible refine' U.i_pt ?_)
  | ((with_reducible refine' U.i_isNT ?hx ?_); (case hx => rfl))
  | ((with_reducible refine' U.i_isNF ?hx ?_); (case hx => (intro z; cases z)))
  | ((with_reducible refine' U.i_isiT ?hx ?hy ?_); (case hx => walk_at "ty"); (case hy => decide +kernel))
  | ((with_reducible refine' U.i_isiF ?hx ?hy ?_); (case hx => walk_at "ty"); (case hy => decide +kernel))
  | (with_reducible refine' U.i_neBB ?_)
  | (with_reducible refine' U.i_eqBB ?_)
  | (with_reducible refine' U.i_eqSS ?_)
  | ((with_reducible refine' U.i_lenL ?hx ?_); (case hx => exact L2.SqL.of (by walk_at "hp")))
  | ((with_reducible refine' U.i_lenT ?hx ?_); (case hx => exact L2.SqT.of (by walk_at "hp")))
  | (with_reducible refine' U.iteT' ?_)
  | (with_reducible refine' U.iteF' ?_)
  | fail "al")))

def spWhole : Sp := fun vs H Q _ => ∃ (i : Int), vs = [.int i] ∧ Q (.bl true) H
def spAlike : Nat → Sp
  | 0 => fun _ _ _ _ => False
  | n + 1 => fun vs H Q _ => ∃ x y, vs = [x, y] ∧ U.Dt H n x y ∧ ∀ H', Same H H' → Q (.bl true) H'


def dealtF (s t l p n : Int) : Int := (s * 48271 + t * 7919 + l * 104729 + p * 1299709 + 11) % 2147483647 * ((s * 48271 + t * 7919 + l * 104729 + p * 1299709 + 11) % 2147483647) % 2147483647 / 64 % n
def spShareD : Sp := fun vs H Q _ => ∃ (s t l p n : Int), vs = [.int s, .int t, .int l, .int p, .int n] ∧ 0 < n ∧ Q (.int (dealtF s t l p n)) H
def spDealt (A : Ad) : Sp := fun vs H Q E => ∃ (s t l p n : Int), vs = [.int s, .int t, .int l, .int p, .int n] ∧
  (n ∈ FM.sizes → ∀ H', Same H H' → Q (.int (dealtF s t l p n)) H') ∧ (n ∉ FM.sizes → ∀ H', Same H H' → E (.ref A.BadSize) none H')

theorem sc_pull : FnScope ["_law_bag_here", "_law_tally", "_law_cell", "_law_grain", "_law_drawn"] ["_law_bag_here", "_law_tally"] (defScope (top 44)) := ⟨rfl, rfl, rfl, by decide +kernel, rfl, by decide +kernel, by decide +kernel⟩
theorem ok_pull (T : Txt P w K mg A) : U.Cl P w K mg base 1 "_law_pull" spPull [] := by
  refine T.d_law_pull.ok sc_pull (fun vs H Q E h => ?_) (fun f cdv Ar outer s H vs Q E hr h => ?_)
  · obtain ⟨a, c, n, rfl, ⟨ns, i, l, s, ha, hc, hac, hi0, hs0, hs1⟩, hn0, hn1, k⟩ := h
    rfl
  · obtain ⟨a, c, n, rfl, ⟨ns, i, l, s, ha, hc, hac, hi0, hs0, hs1⟩, hn0, hn1, k⟩ := h
    refine ⟨_, (pss_cons (ps_if (pt_cmpR op_eq (pe_ix ix_list (pv 0) pe_int (fun _ _ => rfl)) pe_int (nomark _))
    (pss_cons (ps_asg (pe_op U.u_add (pe_ix ix_list (pv 0) pe_int (fun _ _ => rfl)) pe_int) (pg_sub (pv 0) pe_int set_list))
    (pss_cons (ps_set (i := 2) sc_pull.nd rfl (Or.inl rfl) (pe_ifExp (pt_cmpR U.u_le (pe_ix ix_list (pv 0) pe_int (fun _ _ => rfl)) (pe_callB U.u_len (by rfl) T.len PySem.boot_len (pa_cons (pe_ix ix_list (pv 0) pe_int (fun _ _ => rfl)) pa_nil)) (nomark _)) (pe_ix ix_list (pe_ix ix_list (pv 0) pe_int (fun _ _ => rfl)) (pe_op U.u_sub (pe_ix ix_list (pv 0) pe_int (fun _ _ => rfl)) pe_int) (fun _ _ => rfl)) pe_int))
    (pss_cons (ps_if (pt_cmpR U.u_lt (pe_callB U.u_abs (by rfl) T.abs (by decide +kernel) (pa_cons (pv 2) pa_nil)) (pe_op U.u_pow pe_int pe_int) (nomark _))
    (pss_cons (ps_set (i := 3) sc_pull.nd rfl (Or.inl rfl) (pe_op U.u_add (pe_op U.u_mul (pe_ix ix_list (pv 0) pe_int (fun _ _ => rfl)) pe_int) (pe_op U.u_mul (pe_op U.u_mod (pv 2) pe_int) pe_int)))
    (pss_cons (ps_set (i := 3) sc_pull.nd rfl (Or.inl rfl) (pe_op U.u_mod (pe_op U.u_add (pv 3) (pe_op U.u_mul (pe_ix ix_list (pv 0) pe_int (fun _ _ => rfl)) pe_int)) pe_int))
    (pss_cons (ps_asg (pe_op U.u_mod (pe_op U.u_add (pe_op U.u_add (pe_op U.u_mul (pv 3) (pv 3)) (pe_ix ix_list (pv 0) pe_int (fun _ _ => rfl))) pe_int) pe_int) (pg_sub (pv 0) pe_int set_list))
    (pss_one (ps_ret (pe_op U.u_mod (pe_op U.u_add (pe_op U.u_fdiv (pe_ix ix_list (pv 0) pe_int (fun _ _ => rfl)) pe_int) (pe_op U.u_mul (pe_op U.u_mod (pe_ix ix_list (pv 0) pe_int (fun _ _ => rfl)) pe_int) pe_int)) (pv 1)))))))
    pss_nil)
    (pss_one (ps_asg (pe_callB U.u_abs (by rfl) T.abs (by decide +kernel) (pa_cons (pv 2) pa_nil)) (pg_sub (pv 0) pe_int set_list))))))
    pss_nil)
    (pss_cons (ps_set (i := 4) sc_pull.nd rfl (Or.inl rfl) (pe_op U.u_mod (pe_ix ix_list (pv 0) pe_int (fun _ _ => rfl)) (pv 1)))
    (pss_cons (ps_asg (pe_op U.u_fdiv (pe_ix ix_list (pv 0) pe_int (fun _ _ => rfl)) (pv 1)) (pg_sub (pv 0) pe_int set_list))
    (pss_one (ps_ret (pv 4)))))), ?_⟩
    walk_at "rd"
    refine U.ited (fun z1 => ?_) (fun z1 => ?_)
    · walk_at "rd"
      refine U.i_cut (fun x => ∃ z, x = V.int z) ?_ (fun rest => ?_)
      · rintro x ⟨z, rfl⟩
        walk_at "rd"
        refine U.ited (fun z2 => ?_) (fun z2 => ?_)
        · walk_at "rd"
          refine k _ _ (Int.emod_nonneg _ (by omega)) (Int.emod_lt_of_pos _ hn0) ⟨ns, _, _, _, upd_same, by walk_at "hp", hac, by omega, Int.emod_nonneg _ (by decide), Int.lt_trans (Int.emod_lt_of_pos _ (by decide)) (by decide)⟩ But.of.up
        · walk_at "rd"
          refine k _ _ (Int.emod_nonneg _ (by omega)) (Int.emod_lt_of_pos _ hn0) ⟨ns, _, _, _, upd_same, by walk_at "hp", hac, by omega, hs0, hs1⟩ But.of.up.up
      · refine U.i_ifE ?_
        walk_at "rd"
        refine U.ited (fun z2 => ?_) (fun z2 => ?_)
        · walk_at "rd"
          rw [List.length_map] at z2
          obtain ⟨z, hz, _⟩ := U.atI_ints (ns := ns) (i := i + 1 - 1) (by omega) (by omega)
          refine U.i_ixL (SqL.of (by walk_at "hp")) hz ?_
          exact rest _ ⟨z, rfl⟩
        · exact U.i_c (rest _ ⟨0, rfl⟩)
    · walk_at "rd"
      refine k _ _ (Int.emod_nonneg _ (by omega)) (Int.emod_lt_of_pos _ hn0) ⟨ns, _, _, _, upd_same, by walk_at "hp", hac, by omega, hs0, hs1⟩ But.of
theorem sc_size : FnScope ["_law_bag_here"] ["_law_bag_here"] (defScope (top 45)) := ⟨rfl, rfl, rfl, by decide +kernel, rfl, by decide +kernel, by decide +kernel⟩
theorem ok_size (T : Txt P w K mg A) : U.Cl P w K mg base 2 "_law_size" spSize [] := by
  obtain ⟨_, _, _, F_pull, g_pull, k_pull, bd_pull⟩ := (ok_pull (P := P) (w := w) (base := base) T).ex
  obtain ⟨_, d_pull, b_pull⟩ := bd_pull 0 (by decide)
  refine T.d_law_size.ok sc_size (fun vs H Q E h => ?_) (fun f cdv Ar outer s H vs Q E hr h => ?_)
  · obtain ⟨a, c, rfl, hb, k⟩ := h
    rfl
  · obtain ⟨a, c, rfl, hb, k⟩ := h
    refine ⟨_, (pss_one (ps_ret (pe_ix ix_tup (pe_tup (pa_cons pe_int (pa_cons pe_int (pa_cons pe_int (pa_cons pe_int (pa_cons pe_int (pa_cons pe_int (pa_cons pe_int (pa_cons pe_int (pa_cons pe_int (pa_cons pe_int pa_nil))))))))))) (pe_call F_pull (hr.mono (by decide)) rfl g_pull k_pull b_pull d_pull U.passN (pa_cons (pv 0) (pa_cons pe_int pa_nil))) (fun _ _ => rfl)))), ?_⟩
    walk_at "rd"
    rename_i t ht H1 s1 o1
    have ha : a ≠ t := fun e => by obtain ⟨ns, i, l, s, h1, _⟩ := hb; rw [e, ht] at h1; cases h1
    refine ⟨a, c, 10, rfl, hb.same s1, by decide, by decide, fun r H2 r0 r1 hb2 bt => ?_⟩
    have ot := bt _ _ o1 (Ne.symm ha)
    have e : [V.int 2, V.int 3, V.int 4, V.int 5, V.int 7, V.int 8, V.int 9, V.int 11, V.int 13, V.int 16] = FM.sizes.map V.int := rfl
    rw [e] at ot
    refine U.i_ixT (SqT.of ot) (U.atI_of (j := r.toNat) (by omega) (U.mig' (by show r.toNat < 10; omega))) ?_
    refine k _ _ ?_ hb2 (fun b o h n => bt _ _ (s1 _ _ h) n)
    rw [List.getD_eq_getElem?_getD, List.getElem?_eq_getElem (by show r.toNat < 10; omega)]
    exact List.getElem_mem _
theorem sc_bag : FnScope ["_law_script", "_law_cells", "_law_salt", "_law_one"] ["_law_script"] (defScope (top 41)) := ⟨rfl, rfl, rfl, by decide +kernel, rfl, by decide +kernel, by decide +kernel⟩
theorem ok_bag (T : Txt P w K mg A) : U.Cl P w K mg base 1 "_law_bag" (spBag K) [] := by
  refine T.d_law_bag.ok sc_bag (fun vs H Q E h => ?_) (fun f cdv Ar outer s H vs Q E hr h => ?_)
  · obtain ⟨a, ns, rfl, hS, hl, k⟩ := h
    rfl
  · obtain ⟨a, ns, rfl, hS, hl, k⟩ := h
    refine ⟨_, (pss_cons (ps_set (i := 1) sc_bag.nd rfl (Or.inl rfl) (pe_callTy U.u_listOf (by rfl) T.list (by decide +kernel) (pa_cons (pe_slice sl_list (pv 0) po_none (po_some pe_int)) pa_nil)))
    (pss_cons (ps_set (i := 2) sc_bag.nd rfl (Or.inl rfl) (pe_op U.u_add pe_int (pe_callB U.u_len (by rfl) T.len PySem.boot_len (pa_cons (pv 1) pa_nil))))
    (pss_cons (ps_for (passes_of (by exact rfl)) (by exact rfl) (pi_list (pv 1)) (pg_name (i := 3) sc_bag.nd rfl (Or.inl rfl))
    (pss_one (ps_set (i := 2) sc_bag.nd rfl (Or.inl rfl) (pe_op U.u_mod (pe_op U.u_add (pe_op U.u_add (pe_op U.u_mul (pv 2) pe_int) (pe_op U.u_mod (pe_callB U.u_abs (by rfl) T.abs (by decide +kernel) (pa_cons (pv 3) pa_nil)) pe_int)) (pe_op U.u_mul pe_int (pe_callTy U.u_intB (by rfl) T.int (by decide +kernel) (pa_cons (pe_cmpR U.u_lt (pv 3) pe_int (nomark _)) pa_nil)))) pe_int))))
    (pss_one (ps_ret (pe_lst (pa_cons (pv 1) (pa_cons pe_int (pa_cons pe_int (pa_cons (pv 2) pa_nil)))))))))), ?_⟩
    walk_at "rd"
    refine U.i_slL hS ?_
    walk_at "lay"
    walk_at "rd"
    rename_i l1 hl1 H1 s1 o1 l2 hl2 H2 s2 o2
    have e0 : cutV (ns.map V.int) none (some 63) = ns.map V.int := by
      have := U.cut_take' (xs := ns.map V.int) (q := 63) (by rw [List.length_map]; omega)
      exact this
    rw [e0] at o2
    refine for_it walk_list (fun i σ H' => ∃ (z : Int) (v : Option V), σ = [some (.ref a), some (.ref l2), some (.int z), v] ∧ Same H2 H' ∧ 0 ≤ z ∧ z < 2147483629) ⟨7 + (ns.length : Int), none, by rw [e0, List.length_map]; rfl, Same.refl _, by omega, by omega⟩ (fun _ _ _ _ ⟨_, _, _, h, _⟩ => SqL.of (h _ _ o2)) ?_ ?_
    · rintro i x σ H3 H4 hi ⟨z, v, rfl, s3, z0, z1⟩ ⟨rfl, hx⟩
      obtain ⟨rfl, _⟩ := U.mig hx
      walk_at "rd"
      exact ⟨_, _, rfl, s3, Int.emod_nonneg _ (by decide), Int.emod_lt_of_pos _ (by decide)⟩
    · rintro σ H3 ⟨z, v, rfl, s3, z0, z1⟩
      walk_at "rd"
      rename_i b hb H4 s4 o4
      have o2' := s4 _ _ (s3 _ _ o2)
      have ne : b ≠ l2 := fun e => by rw [e, s3 _ _ o2] at hb; cases hb
      exact k b l2 H4 (s1.free (s2.free (s3.free hb))) (s1.free hl2) (((s1.trans s2).trans s3).trans s4) ⟨ns, 0, 0, z, o4, o2', ne, by omega, z0, z1⟩
theorem sc_grown : FnScope ["one", "many", "found", "turn"] ["one", "many"] (defScope (top 33)) := ⟨rfl, rfl, rfl, by decide +kernel, rfl, by decide +kernel, by decide +kernel⟩
theorem ok_grown (T : Txt P w K mg A) : U.Cl P w K mg base 1 "grown" spGrown [] := by
  refine T.d_grown.ok sc_grown (fun vs H Q E h => ?_) (fun f cdv Ar outer s H vs Q E hr h => ?_)
  · obtain ⟨a, m, rfl, ha0, ha1, hm, k⟩ := h
    rfl
  · obtain ⟨a, m, rfl, ha0, ha1, hm, k⟩ := h
    refine ⟨_, (pss_cons (ps_set (i := 2) sc_grown.nd rfl (Or.inl rfl) pe_int)
    (pss_cons (ps_for (passes_of (by exact rfl)) (by exact rfl) (pi_range1 (by rfl) T.range (pa_cons (pv 1) pa_nil)) (pg_name (i := 3) sc_grown.nd rfl (Or.inl rfl))
    (pss_one (ps_aug (i := 2) sc_grown.nd rfl (Or.inl rfl) (pv 0) U.ip_mul)))
    (pss_one (ps_ret (pv 2))))), ?_⟩
    walk_at "rd"
    refine for_it walk_range (fun i σ H' => ∃ v, σ = [some (.int a), some (.int (m : Nat)), some (.int (a ^ i)), v] ∧ H' = H) ⟨none, by rw [Int.pow_zero]; rfl, rfl⟩ (fun _ _ _ _ _ => trivial) ?_ ?_
    · rintro i x σ H1 H2 hi ⟨v, rfl, rfl⟩ ⟨rfl, rfl⟩
      walk_at "rd"
      exact ⟨_, by rw [Int.pow_succ]; rfl, rfl⟩
    · rintro σ H1 ⟨v, rfl, rfl⟩
      walk_at "rd"
      exact k
theorem sc_init : FnScope ["self", "size", "base"] ["self", "size"] (defScope (inClass (top 34) 0)) := ⟨rfl, rfl, rfl, by decide +kernel, rfl, by decide +kernel, by decide +kernel⟩
theorem ok_init (T : Txt P w K mg A) : U.Nw P w K mg base 2 "Field" A.Field (spInit A) [V.int 16] := by
  obtain ⟨_, _, _, F_grown, g_grown, k_grown, bd_grown⟩ := (ok_grown (P := P) (w := w) (base := base) T).ex
  obtain ⟨_, d_grown, b_grown⟩ := bd_grown 0 (by decide)
  refine T.n_Field.ok sc_init (fun vs H Q E h => ?_) (fun f cdv Ar outer s H vs Q E hr h => ?_)
  · obtain ⟨p, dx, n, rfl, hp, kq, ke⟩ := h
    rfl
  · obtain ⟨p, dx, n, rfl, hp, kq, ke⟩ := h
    refine ⟨_, (pss_cons (ps_if (pt_cmpR op_notIn_seq (pv 1) (U.pe_gref rfl T.g_SIZES) (by rfl))
    (pss_one (U.ps_raise0 rfl (L2N.takes_of rfl rfl rfl rfl) T.e_BadSize))
    pss_nil)
    (pss_cons (ps_fld (pv 0) (pv 1) rfl)
    (pss_cons (ps_fld (pv 0) (pe_ix ix_list (pe_lc (own := [("base", 2)]) (g := (gName 2)) (by exact rfl) sc_init.nd (pi_tup (U.pe_gref rfl T.g_BASES)) (blkOk_by (own := [("base", 2)]) (N := ["self", "size", "base"]) (sc := defScope (inClass (top 34) 0)) (by decide +kernel)) (fun _ _ _ _ _ => (pg_name (i := 2) sc_init.nd rfl (Or.inl rfl))) (fun _ _ _ _ _ => pts_one (pt_cmpR op_eq (pe_op U.u_mod (pv 1) (pv 2)) pe_int (nomark _))) (fun _ _ _ _ _ => (pv 2))) pe_int (fun _ _ => rfl)) rfl)
    (pss_cons (ps_fld (pv 0) pe_int rfl)
    (pss_one (ps_while (passes_of (by exact rfl)) (pt_cmpR U.u_lt (pe_call F_grown (hr.mono (by decide)) rfl g_grown k_grown b_grown d_grown U.passN (pa_cons (pe_fld (pv 0) rfl) (pa_cons (pe_fld (pv 0) rfl) pa_nil))) (pv 1) (nomark _))
    (pss_one (ps_fldaug (pv 0) pe_int in_add)))))))), ?_⟩
    walk_at "rd"
    refine U.i_in (.inr (T.s_SIZES H)) rfl rfl ?_
    refine U.i_bl ?_
    have eIn : (inV (.int n) [V.int 2, V.int 3, V.int 4, V.int 5, V.int 7, V.int 8, V.int 9, V.int 11, V.int 13, V.int 16]) = decide (n ∈ FM.sizes) := by
      rw [Bool.eq_iff_iff, decide_eq_true_iff]
      show List.any _ _ = true ↔ _
      unfold FM.sizes
      simp only [List.any_cons, List.any_nil, Bool.or_false, Bool.or_eq_true, eqV, List.mem_cons, List.not_mem_nil, or_false, beq_iff_eq, decide_eq_true_iff]
      constructor <;> (intro h; omega)
    show (if (!inV _ _) = true then _ else _)
    rw [eIn]
    refine U.itedn (fun hn => ke hn) (fun hn => ?_)
    have cF := T.c_Field
    have n1 := T.na_Field_many
    have n2 := T.na_Field_prime
    have n3 := T.na_Field_places
    have sr := FM.size_rng hn
    have br := FM.base_rng hn
    have pr := FM.places_rng hn
    have kq := kq hn
    walk_at "rd"
    refine U.i_ptup' (T.s_BASES _) ?_
    intro D hD
    have hpD : p ≠ D := fun e => by rw [← e, upd_same] at hD; cases hD
    refine lc_it walk_tup (fun i H' => Same (upd H p (.ins A.Field dx [("many", V.int n)])) H' ∧ H' D = some (.lst ((FM.basP n i).map V.int))) ⟨same_new hD, upd_same⟩ (fun _ _ _ _ => T.s_BASES _) ?_ ?_
    · rintro i x H3 H4 hi ⟨s3, o3⟩ ⟨rfl, hx⟩
      have e : [V.int 2, V.int 3, V.int 5, V.int 7, V.int 11, V.int 13] = FM.basesL.map V.int := rfl
      rw [e] at hx
      obtain ⟨rfl, hi2⟩ := U.mig hx
      have hb0 : 0 < FM.basesL.getD i 0 := by
        have : i < 6 := hi2
        have h6 : i = 0 ∨ i = 1 ∨ i = 2 ∨ i = 3 ∨ i = 4 ∨ i = 5 := by omega
        rcases h6 with h | h | h | h | h | h <;> subst h <;> decide
      have bl := FM.basP_len n i
      have tk : FM.basesL.take (i + 1) = FM.basesL.take i ++ [FM.basesL.getD i 0] := U.take_succ_of (by rw [List.getD_eq_getElem?_getD, List.getElem?_eq_getElem hi2]; rfl)
      walk_at "rd"
      refine ⟨rfl, ?_⟩
      walk_at "rd"
      refine U.ited (fun z => ?_) (fun z => ?_)
      · walk_at "rd"
        refine ⟨_, o3, small1000 (by rw [List.length_map]; omega), same_own s3 hD, ?_⟩
        unfold FM.basP
        rw [tk, List.filter_append, List.filter_cons_of_pos (by simpa using z), List.filter_nil, List.map_append]
        exact upd_same
      · refine ⟨s3, ?_⟩
        unfold FM.basP
        rw [tk, List.filter_append, List.filter_cons_of_neg (by simpa using z), List.filter_nil, List.append_nil]
        exact o3
    · rintro H3 ⟨s3, o3⟩
      have hp3 : H3 p = some (.ins A.Field dx [("many", V.int n)]) := s3 _ _ upd_same
      have eb := FM.basP_end hn
      walk_at "rd"
      refine U.i_ixL (SqL.of o3) (U.atI_of (j := 0) rfl (by show ((FM.basP n 6).map V.int)[0]? = _; rw [List.getElem?_map, eb]; rfl)) ?_
      walk_at "rd"
      refine ⟨fun m σ H' => ∃ k : Nat, m = FM.places n - k ∧ 1 ≤ k ∧ k ≤ FM.places n ∧ σ = [some (.ref p), some (.int n), none] ∧ H' p = some (.ins A.Field dx [("many", V.int n), ("prime", V.int (FM.base n)), ("places", V.int (k : Nat))]) ∧ (∀ b o, H b = some o → b ≠ p → H' b = some o), ⟨FM.places n - 1, 1, rfl, Nat.le_refl _, pr.1, rfl, upd_same, ?_⟩, ?_⟩
      · intro b o h ne
        refine upd_ne'' ne (upd_ne'' ne (s3 _ _ (upd_ne'' ne h)))
      · rintro m σ H4 ⟨j, rfl, j1, j2, rfl, hp4, kp⟩
        have pl := FM.pow_lt hn j1 j2
        walk_at "rd"
        refine ⟨FM.base n, j, rfl, by omega, by omega, by omega, ?_⟩
        walk_at "rd"
        refine U.ited (fun z => ?_) (fun z => ?_)
        · refine ⟨fun σ' H' => ∃ m', m' < FM.places n - j ∧ ∃ k : Nat, m' = FM.places n - k ∧ 1 ≤ k ∧ k ≤ FM.places n ∧ σ' = [some (.ref p), some (.int n), none] ∧ H' p = some (.ins A.Field dx [("many", V.int n), ("prime", V.int (FM.base n)), ("places", V.int (k : Nat))]) ∧ (∀ b o, H b = some o → b ≠ p → H' b = some o), fun _ _ h => h, ?_⟩
          have hj := pl.mp z
          walk_at "rd"
          exact ⟨FM.places n - (j + 1), by omega, j + 1, rfl, by omega, by omega, rfl, upd_same, fun b o h ne => upd_ne'' ne (kp b o h ne)⟩
        · have hj : j = FM.places n := by
            have := mt pl.mpr z
            omega
          subst hj
          exact kq _ kp ⟨hn, dx, hp4⟩
theorem sc_fsize : FnScope ["self"] ["self"] (defScope (inClass (top 34) 5)) := ⟨rfl, rfl, rfl, by decide +kernel, rfl, by decide +kernel, by decide +kernel⟩
theorem ok_fsize (T : Txt P w K mg A) : U.Mt P w K mg base 1 A.Field "size" (spGetN A fun n => n) [] := by
  refine T.m_Field_size.ok sc_fsize (fun vs H Q E h => ?_) (fun f cdv Ar outer s H vs Q E hr h => ?_)
  · obtain ⟨p, n, rfl, ⟨hn, dx, hp⟩, k⟩ := h
    rfl
  · obtain ⟨p, n, rfl, ⟨hn, dx, hp⟩, k⟩ := h
    have cF := T.c_Field
    have n1 := T.na_Field_many
    have n2 := T.na_Field_prime
    have n3 := T.na_Field_places
    have sr := FM.size_rng hn
    have br := FM.base_rng hn
    have pr := FM.places_rng hn
    refine ⟨_, (pss_one (ps_ret (pe_fld (pv 0) rfl))), ?_⟩
    walk_at "rd"
    exact k
theorem sc_whole : FnScope ["_law_one"] ["_law_one"] (defScope (top 46)) := ⟨rfl, rfl, rfl, by decide +kernel, rfl, by decide +kernel, by decide +kernel⟩
theorem ok_whole (T : Txt P w K mg A) : U.Cl P w K mg base 1 "_law_whole" spWhole [] := by
  refine T.d_law_whole.ok sc_whole (fun vs H Q E h => ?_) (fun f cdv Ar outer s H vs Q E hr h => ?_)
  · obtain ⟨i, rfl, k⟩ := h
    rfl
  · obtain ⟨i, rfl, k⟩ := h
    refine ⟨_, (pss_one (ps_ret (pe_and (pe_callB call_isi (by rfl) T.isinstance (by decide +kernel) (pa_cons (pv 0) (pa_cons (pe_bltn (v := .ty "int") (by rfl) T.int (by decide +kernel) rfl) pa_nil))) (pe_one (pe_not (pe_callB call_isi (by rfl) T.isinstance (by decide +kernel) (pa_cons (pv 0) (pa_cons (pe_bltn (v := .ty "bool") (by rfl) T.bool (by decide +kernel) rfl) pa_nil)))))))), ?_⟩
    walk_at "al"
    exact k

theorem sc_alike : FnScope ["_law_found", "_law_due", "_law_name", "_law_at"] ["_law_found", "_law_due"] (defScope (top 40)) := ⟨rfl, rfl, rfl, by decide +kernel, rfl, by decide +kernel, by decide +kernel⟩
theorem ok_alike (T : Txt P w K mg A) : ∀ n, U.Cl P w K mg base (n + 1) "_law_alike" (spAlike n) []
  | 0 => T.d_law_alike.ok sc_alike (fun vs H Q E h => h.elim) (fun f cdv Ar outer s H vs Q E hr h => h.elim)
  | n + 1 => by
    obtain ⟨_, _, _, F_al, g_al, k_al, bd_al⟩ := (ok_alike T n).ex
    obtain ⟨_, d_al, b_al⟩ := bd_al 0 (by decide)
    obtain ⟨_, _, _, F_wh, g_wh, k_wh, bd_wh⟩ := (ok_whole (base := base) T).ex
    obtain ⟨_, d_wh, b_wh⟩ := bd_wh 0 (by decide)
    refine T.d_law_alike.ok sc_alike (fun vs H Q E h => ?_) (fun f cdv Ar outer s H vs Q E hr h => ?_)
    · obtain ⟨x, y, rfl, _⟩ := h
      rfl
    obtain ⟨x, y, rfl, dt, k⟩ := h
    refine ⟨_, (pss_cons (ps_if (PW.pt (pw_or (pt_cmpR op_isN1 (pv 1) pe_non (nomark _)) (pw_or1 (pt_cmpR op_isN1 (pv 0) pe_non (nomark _)))))
    (pss_one (ps_ret (pe_and (pe_cmpR op_isN1 (pv 0) pe_non (nomark _)) (pe_one (pe_cmpR op_isN1 (pv 1) pe_non (nomark _))))))
    pss_nil)
    (pss_cons (ps_if (pt_val (pe_callB call_isi (by rfl) T.isinstance (by decide +kernel) (pa_cons (pv 1) (pa_cons (pe_bltn (v := .ty "bool") (by rfl) T.bool (by decide +kernel) rfl) pa_nil))))
    (pss_one (ps_ret (pe_and (pe_callB call_isi (by rfl) T.isinstance (by decide +kernel) (pa_cons (pv 0) (pa_cons (pe_bltn (v := .ty "bool") (by rfl) T.bool (by decide +kernel) rfl) pa_nil))) (pe_one (pe_cmpR op_eq (pv 0) (pv 1) (nomark _))))))
    pss_nil)
    (pss_cons (ps_if (pt_val (pe_callB call_isi (by rfl) T.isinstance (by decide +kernel) (pa_cons (pv 1) (pa_cons (pe_bltn (v := .ty "int") (by rfl) T.int (by decide +kernel) rfl) pa_nil))))
    (pss_one (ps_ret (pe_and (pe_call F_wh (hr.mono (by omega)) rfl g_wh k_wh b_wh d_wh U.passN (pa_cons (pv 0) pa_nil)) (pe_one (pe_cmpR op_eq (pv 0) (pv 1) (nomark _))))))
    pss_nil)
    (pss_cons (ps_if (pt_val (pe_callB call_isi (by rfl) T.isinstance (by decide +kernel) (pa_cons (pv 1) (pa_cons (pe_bltn (v := .ty "str") (by rfl) T.str (by decide +kernel) rfl) pa_nil))))
    (pss_one (ps_ret (pe_and (pe_callB call_isi (by rfl) T.isinstance (by decide +kernel) (pa_cons (pv 0) (pa_cons (pe_bltn (v := .ty "str") (by rfl) T.str (by decide +kernel) rfl) pa_nil))) (pe_one (pe_cmpR op_eq (pv 0) (pv 1) (nomark _))))))
    pss_nil)
    (pss_cons (ps_if (pt_val (pe_callB call_isi (by rfl) T.isinstance (by decide +kernel) (pa_cons (pv 1) (pa_cons (pe_bltn (v := .ty "dict") (by rfl) T.dict (by decide +kernel) rfl) pa_nil))))
    (pss_cons ps_never
    (pss_one ps_never))
    pss_nil)
    (pss_cons (ps_if (PW.pt (pw_or (pt_cmpR op_ne (pe_callB call_isi (by rfl) T.isinstance (by decide +kernel) (pa_cons (pv 1) (pa_cons (pe_bltn (v := .ty "list") (by rfl) T.list (by decide +kernel) rfl) pa_nil))) (pe_callB call_isi (by rfl) T.isinstance (by decide +kernel) (pa_cons (pv 0) (pa_cons (pe_bltn (v := .ty "list") (by rfl) T.list (by decide +kernel) rfl) pa_nil))) (nomark _)) (pw_or1 (pt_cmpR op_ne (pe_callB call_isi (by rfl) T.isinstance (by decide +kernel) (pa_cons (pv 1) (pa_cons (pe_bltn (v := .ty "tuple") (by rfl) T.tuple (by decide +kernel) rfl) pa_nil))) (pe_callB call_isi (by rfl) T.isinstance (by decide +kernel) (pa_cons (pv 0) (pa_cons (pe_bltn (v := .ty "tuple") (by rfl) T.tuple (by decide +kernel) rfl) pa_nil))) (nomark _)))))
    (pss_one (ps_ret pe_bl))
    pss_nil)
    (pss_one (ps_ret (pe_and (pe_cmpR op_eq (pe_callB U.u_len (by rfl) T.len PySem.boot_len (pa_cons (pv 0) pa_nil)) (pe_callB U.u_len (by rfl) T.len PySem.boot_len (pa_cons (pv 1) pa_nil)) (nomark _)) (pe_one (pe_callB (cr_all rfl) (by rfl) T.all (by decide +kernel) (pa_cons (pe_lc (own := [("_law_at", 3)]) (g := (gName 3)) (tt := tYes) (by exact rfl) sc_alike.nd (pi_range1 (by rfl) T.range (pa_cons (pe_callB U.u_len (by rfl) T.len PySem.boot_len (pa_cons (pv 1) pa_nil)) pa_nil)) (blkOk_by (own := [("_law_at", 3)]) (N := ["_law_found", "_law_due", "_law_name", "_law_at"]) (sc := defScope (top 40)) (by decide +kernel)) (fun _ _ _ _ _ => (pg_name (i := 3) sc_alike.nd rfl (Or.inl rfl))) (fun _ _ _ _ _ => pts_nil) (fun _ _ _ _ _ => (pe_call F_al (hr.mono (by omega)) rfl g_al k_al b_al d_al U.passN (pa_cons (pe_ix (U.ixS K rfl) (pv 0) (pv 3) (fun _ _ => rfl)) (pa_cons (pe_ix (U.ixS K rfl) (pv 1) (pv 3) (fun _ _ => rfl)) pa_nil))))) pa_nil)))))))))))), ?_⟩
    cases dt with
    | non =>
      walk_at "al"
      exact k _ (Same.refl _)
    | int i =>
      walk_at "al"
      refine ⟨i, rfl, ?_⟩
      walk_at "al"
      rw [decide_eq_true rfl]
      exact k _ (Same.refl _)
    | str t =>
      walk_at "al"
      exact k _ (Same.refl _)
    | bl b =>
      walk_at "al"
      exact k _ (Same.refl _)
    | @lst n1 p q xs ys h1 h2 hl hz all =>
      walk_at "al"
      refine U.iteTd (by rw [hl]) ?_
      walk_at "al"
      intro D hD
      refine lc_it (walk_range (n := ys.length)) (fun i H' => Same H H' ∧ H' D = some (.lst ((List.replicate i true).map V.bl))) ⟨same_new hD, upd_same⟩ (fun _ _ _ _ => trivial) ?_ ?_
      · rintro i z H3 H4 hi ⟨s3, o3⟩ ⟨rfl, rfl⟩
        walk_at "rd"
        refine ⟨rfl, ?_⟩
        walk_at "rd"
        have xi : xs[i]? = some (xs[i]'(by omega)) := List.getElem?_eq_getElem (by omega)
        have yi : ys[i]? = some (ys[i]'hi) := List.getElem?_eq_getElem hi
        have iz : (0 + ((i : Nat) : Int)) = (i : Int) := by omega
        refine .inl (U.i_ixL (SqL.of (s3 _ _ h1)) (U.atI_of iz xi) ?_)
        walk_at "rd"
        refine .inl (U.i_ixL (SqL.of (s3 _ _ h2)) (U.atI_of iz yi) ?_)
        walk_at "rd"
        refine ⟨_, _, rfl, (all i _ _ xi yi).same s3, fun H5 s5 => ?_⟩
        walk_at "rd"
        refine ⟨_, s5 _ _ o3, small1000 (by rw [List.length_map, List.length_replicate]; omega), same_own (s3.trans s5) hD, ?_⟩
        rw [List.replicate_succ', List.map_append]
        exact upd_same
      · rintro H3 ⟨s3, o3⟩
        walk_at "rd"
        refine ⟨D, _, rfl, SqL.of o3, ?_⟩
        rw [show (List.replicate ys.length true).all id = true by simp]
        exact k _ s3
    | @tup n1 p q xs ys h1 h2 hl hz all =>
      walk_at "al"
      refine U.iteTd (by rw [hl]) ?_
      walk_at "al"
      intro D hD
      refine lc_it (walk_range (n := ys.length)) (fun i H' => Same H H' ∧ H' D = some (.lst ((List.replicate i true).map V.bl))) ⟨same_new hD, upd_same⟩ (fun _ _ _ _ => trivial) ?_ ?_
      · rintro i z H3 H4 hi ⟨s3, o3⟩ ⟨rfl, rfl⟩
        walk_at "rd"
        refine ⟨rfl, ?_⟩
        walk_at "rd"
        have xi : xs[i]? = some (xs[i]'(by omega)) := List.getElem?_eq_getElem (by omega)
        have yi : ys[i]? = some (ys[i]'hi) := List.getElem?_eq_getElem hi
        have iz : (0 + ((i : Nat) : Int)) = (i : Int) := by omega
        refine .inr (.inl (U.i_ixT (SqT.of (s3 _ _ h1)) (U.atI_of iz xi) ?_))
        walk_at "rd"
        refine .inr (.inl (U.i_ixT (SqT.of (s3 _ _ h2)) (U.atI_of iz yi) ?_))
        walk_at "rd"
        refine ⟨_, _, rfl, (all i _ _ xi yi).same s3, fun H5 s5 => ?_⟩
        walk_at "rd"
        refine ⟨_, s5 _ _ o3, small1000 (by rw [List.length_map, List.length_replicate]; omega), same_own (s3.trans s5) hD, ?_⟩
        rw [List.replicate_succ', List.map_append]
        exact upd_same
      · rintro H3 ⟨s3, o3⟩
        walk_at "rd"
        refine ⟨D, _, rfl, SqL.of o3, ?_⟩
        rw [show (List.replicate ys.length true).all id = true by simp]
        exact k _ s3

local macro_rules | `(tactic| walk_at "kd") => `(tactic| (repeat (first
  | walk_at "rd1"
  | ((with_reducible refine' U.i_isE ?hx ?_); (case hx => assumption))
  | ((with_reducible refine' U.i_cat ?hx ?hy ?hz ?_); (case hx => walk_at "hp"); (case hy => walk_at "hp"); (case hz => (show _ ≤ PySem.sizeLine; rw [PySem.sizeLine_eq]; simp only [List.length_append, List.length_cons, List.length_nil]; omega)); walk_at "lay")
  | fail "kd")))
local macro_rules | `(tactic| walk_at "sm") => `(tactic| first
  | assumption
  | ((with_reducible refine' L2.Same.trans ?hx ?hy); (case hy => assumption); (case hx => walk_at "sm"))
  | fail "sm")
local macro_rules | `(tactic| walk_at "prs") => `(tactic| (repeat (first
  | (with_reducible refine' U.Prs.append ?_ ?_)
  | ((with_reducible refine' U.Prs.con ?hx ?_); (case hx => walk_at "hp"))
  | (with_reducible exact U.Prs.nil)
  | fail "prs")))

theorem sc_kind : FnScope ["_law_e", "_law_marks", "_law_word", "_law_so"] ["_law_e"] (defScope (top 43)) := ⟨rfl, rfl, rfl, by decide +kernel, rfl, by decide +kernel, by decide +kernel⟩
theorem held_kind (T : Txt P w K mg A) {D a : Addr} {o : Obj} {b0 b1 b2 b3 b4 b5 b6 b7 b8 b9 b10 b11 b12 b13 b14 b15 b16 b17 b18 b19 b20 b21 b22 : Bool} (kd : Kinds K A D b0 b1 b2 b3 b4 b5 b6 b7 b8 b9 b10 b11 b12 b13 b14 b15 b16 b17 b18 b19 b20 b21 b22) (z : Zc (.ref D) none o) (fl : ∃ vs, o.data = .fields vs) {Ar : Around} {outer : List Env} (hot : L2H.Hot1 Ar (a, o)) {s : Shared} {H : Hp} {Q : VK} {f : Addr} {cdv : Value}
    (q : ∀ H', Same H H' → Q (.str (Txt.join (PySem.Str.ofString " ") (U.words (marks b0 b1 b2 b3 b4 b5 b6 b7 b8 b9 b10 b11 b12 b13 b14 b15 b16 b17 b18 b19 b20 b21 b22)))) H') :
    ∃ u, PSs (L2H.cxH C8.CX0 P w K mg base ["_law_e", "_law_marks", "_law_word", "_law_so"] "_law_kind" (defScope (top 43)) f cdv Ar outer s H C8.E0 (a, o)) (defBody (top 43)) u ∧ u { nx := fun _ H' => Q .non H', rt := Q } (L2.start ["_law_e", "_law_marks", "_law_word", "_law_so"] [.ref a]) H := by
  have hotX : L2H.HotC (L2H.cxH C8.CX0 P w K mg base ["_law_e", "_law_marks", "_law_word", "_law_so"] "_law_kind" (defScope (top 43)) f cdv Ar outer s H C8.E0 (a, o)) := ⟨(a, o), ⟨hot.1, hot.2⟩, List.mem_cons_self⟩
  have e0 := kd.exc
  have k0 := kd.k0
  have k1 := kd.k1
  have k2 := kd.k2
  have k3 := kd.k3
  have k4 := kd.k4
  have k5 := kd.k5
  have k6 := kd.k6
  have k7 := kd.k7
  have k8 := kd.k8
  have k9 := kd.k9
  have k10 := kd.k10
  have k11 := kd.k11
  have k12 := kd.k12
  have k13 := kd.k13
  have k14 := kd.k14
  have k15 := kd.k15
  have k16 := kd.k16
  have k17 := kd.k17
  have k18 := kd.k18
  have k19 := kd.k19
  have k20 := kd.k20
  have k21 := kd.k21
  have k22 := kd.k22
  refine ⟨_, (pss_cons (ps_set (i := 1) sc_kind.nd rfl (Or.inl rfl) (pe_lst (pa_cons (pe_tup (pa_cons pe_str (pa_cons (pe_callB (U.call_held kd.exc List.mem_cons_self z fl) (by rfl) T.isinstance (by decide +kernel) (pa_cons (pv 0) (pa_cons (U.pe_gref rfl T.gx_BadSize) pa_nil))) pa_nil))) (pa_cons (pe_tup (pa_cons pe_str (pa_cons (pe_callB (U.call_held kd.exc List.mem_cons_self z fl) (by rfl) T.isinstance (by decide +kernel) (pa_cons (pv 0) (pa_cons (U.pe_gref rfl T.gx_BadNumber) pa_nil))) pa_nil))) pa_nil))))
    (pss_cons (ps_set (i := 1) sc_kind.nd rfl (Or.inl rfl) (pe_op op_cat (pv 1) (pe_lst (pa_cons (pe_tup (pa_cons pe_str (pa_cons (pe_callB (U.call_held kd.exc List.mem_cons_self z fl) (by rfl) T.isinstance (by decide +kernel) (pa_cons (pv 0) (pa_cons (U.pe_gref rfl T.gx_BadRow) pa_nil))) pa_nil))) (pa_cons (pe_tup (pa_cons pe_str (pa_cons (pe_callB (U.call_held kd.exc List.mem_cons_self z fl) (by rfl) T.isinstance (by decide +kernel) (pa_cons (pv 0) (pa_cons (U.pe_gref rfl T.gx_BadName) pa_nil))) pa_nil))) pa_nil)))))
    (pss_cons (ps_set (i := 1) sc_kind.nd rfl (Or.inl rfl) (pe_op op_cat (pv 1) (pe_lst (pa_cons (pe_tup (pa_cons pe_str (pa_cons (pe_callB (U.call_held kd.exc List.mem_cons_self z fl) (by rfl) T.isinstance (by decide +kernel) (pa_cons (pv 0) (pa_cons (U.pe_gref rfl T.gx_BadLine) pa_nil))) pa_nil))) (pa_cons (pe_tup (pa_cons pe_str (pa_cons (pe_callB (U.call_held kd.exc List.mem_cons_self z fl) (by rfl) T.isinstance (by decide +kernel) (pa_cons (pv 0) (pa_cons (U.pe_gref rfl T.gx_BadHearers) pa_nil))) pa_nil))) pa_nil)))))
    (pss_cons (ps_set (i := 1) sc_kind.nd rfl (Or.inl rfl) (pe_op op_cat (pv 1) (pe_lst (pa_cons (pe_tup (pa_cons pe_str (pa_cons (pe_callB (U.call_held kd.exc List.mem_cons_self z fl) (by rfl) T.isinstance (by decide +kernel) (pa_cons (pv 0) (pa_cons (U.pe_gref rfl T.gx_BadLoss) pa_nil))) pa_nil))) (pa_cons (pe_tup (pa_cons pe_str (pa_cons (pe_callB (U.call_held kd.exc List.mem_cons_self z fl) (by rfl) T.isinstance (by decide +kernel) (pa_cons (pv 0) (pa_cons (U.pe_gref rfl T.gx_BadPlan) pa_nil))) pa_nil))) pa_nil)))))
    (pss_cons (ps_set (i := 1) sc_kind.nd rfl (Or.inl rfl) (pe_op op_cat (pv 1) (pe_lst (pa_cons (pe_tup (pa_cons pe_str (pa_cons (pe_callB (U.call_held kd.exc List.mem_cons_self z fl) (by rfl) T.isinstance (by decide +kernel) (pa_cons (pv 0) (pa_cons (U.pe_gref rfl T.gx_BadDeed) pa_nil))) pa_nil))) (pa_cons (pe_tup (pa_cons pe_str (pa_cons (pe_callB (U.call_held kd.exc List.mem_cons_self z fl) (by rfl) T.isinstance (by decide +kernel) (pa_cons (pv 0) (pa_cons (U.pe_gref rfl T.gx_BadText) pa_nil))) pa_nil))) pa_nil)))))
    (pss_cons (ps_set (i := 1) sc_kind.nd rfl (Or.inl rfl) (pe_op op_cat (pv 1) (pe_lst (pa_cons (pe_tup (pa_cons pe_str (pa_cons (pe_callB (U.call_held kd.exc List.mem_cons_self z fl) (by rfl) T.isinstance (by decide +kernel) (pa_cons (pv 0) (pa_cons (U.pe_gref rfl T.gx_Ringed) pa_nil))) pa_nil))) (pa_cons (pe_tup (pa_cons pe_str (pa_cons (pe_callB (U.call_held kd.exc List.mem_cons_self z fl) (by rfl) T.isinstance (by decide +kernel) (pa_cons (pv 0) (pa_cons (U.pe_gref rfl T.gx_Short) pa_nil))) pa_nil))) pa_nil)))))
    (pss_cons (ps_set (i := 1) sc_kind.nd rfl (Or.inl rfl) (pe_op op_cat (pv 1) (pe_lst (pa_cons (pe_tup (pa_cons pe_str (pa_cons (pe_callB (U.call_held kd.exc List.mem_cons_self z fl) (by rfl) T.isinstance (by decide +kernel) (pa_cons (pv 0) (pa_cons (U.pe_gref rfl T.gx_Narrow) pa_nil))) pa_nil))) (pa_cons (pe_tup (pa_cons pe_str (pa_cons (pe_callB (U.call_held kd.exc List.mem_cons_self z fl) (by rfl) T.isinstance (by decide +kernel) (pa_cons (pv 0) (pa_cons (U.pe_gref rfl T.gx_Heavy) pa_nil))) pa_nil))) pa_nil)))))
    (pss_cons (ps_set (i := 1) sc_kind.nd rfl (Or.inl rfl) (pe_op op_cat (pv 1) (pe_lst (pa_cons (pe_tup (pa_cons pe_str (pa_cons (pe_callB (U.call_held kd.exc List.mem_cons_self z fl) (by rfl) T.isinstance (by decide +kernel) (pa_cons (pv 0) (pa_cons (U.pe_gref rfl T.gx_Unsolved) pa_nil))) pa_nil))) (pa_cons (pe_tup (pa_cons pe_str (pa_cons (pe_callB (U.call_held kd.exc List.mem_cons_self z fl) (by rfl) T.isinstance (by decide +kernel) (pa_cons (pv 0) (pa_cons (U.pe_gref rfl T.gx_NoHouse) pa_nil))) pa_nil))) pa_nil)))))
    (pss_cons (ps_set (i := 1) sc_kind.nd rfl (Or.inl rfl) (pe_op op_cat (pv 1) (pe_lst (pa_cons (pe_tup (pa_cons pe_str (pa_cons (pe_callB (U.call_held kd.exc List.mem_cons_self z fl) (by rfl) T.isinstance (by decide +kernel) (pa_cons (pv 0) (pa_cons (U.pe_gref rfl T.gx_NoLine) pa_nil))) pa_nil))) (pa_cons (pe_tup (pa_cons pe_str (pa_cons (pe_callB (U.call_held kd.exc List.mem_cons_self z fl) (by rfl) T.isinstance (by decide +kernel) (pa_cons (pv 0) (pa_cons (U.pe_gref rfl T.gx_Taken) pa_nil))) pa_nil))) (pa_cons (pe_tup (pa_cons pe_str (pa_cons (pe_callB (U.call_held kd.exc List.mem_cons_self z fl) (by rfl) T.isinstance (by decide +kernel) (pa_cons (pv 0) (pa_cons (U.pe_gref rfl T.gx_Full) pa_nil))) pa_nil))) pa_nil))))))
    (pss_cons (ps_set (i := 1) sc_kind.nd rfl (Or.inl rfl) (pe_op op_cat (pv 1) (pe_lst (pa_cons (pe_tup (pa_cons pe_str (pa_cons (pe_callB (U.call_held kd.exc List.mem_cons_self z fl) (by rfl) T.isinstance (by decide +kernel) (pa_cons (pv 0) (pa_cons (U.pe_gref rfl T.gx_InUse) pa_nil))) pa_nil))) (pa_cons (pe_tup (pa_cons pe_str (pa_cons (pe_callB (U.call_held kd.exc List.mem_cons_self z fl) (by rfl) T.isinstance (by decide +kernel) (pa_cons (pv 0) (pa_cons (U.pe_gref rfl T.gx_Told) pa_nil))) pa_nil))) pa_nil)))))
    (pss_cons (ps_set (i := 1) sc_kind.nd rfl (Or.inl rfl) (pe_op op_cat (pv 1) (pe_lst (pa_cons (pe_tup (pa_cons pe_str (pa_cons (pe_callB (U.call_held kd.exc List.mem_cons_self z fl) (by rfl) T.isinstance (by decide +kernel) (pa_cons (pv 0) (pa_cons (U.pe_gref rfl T.gx_NothingLeft) pa_nil))) pa_nil))) (pa_cons (pe_tup (pa_cons pe_str (pa_cons (pe_callB (U.call_held kd.exc List.mem_cons_self z fl) (by rfl) T.isinstance (by decide +kernel) (pa_cons (pv 0) (pa_cons (U.pe_gref rfl T.gx_NoShare) pa_nil))) pa_nil))) pa_nil)))))
    (pss_one (ps_ret (pe_join pe_str (U.pe_pickH hotX (pv 1) rfl (by decide) rfl (by decide) rfl rfl (by decide) rfl rfl (fun _ => rfl)))))))))))))))), ?_⟩
  walk_at "kd"
  refine' ⟨⟨_, rfl⟩, _, rfl, _, marks b0 b1 b2 b3 b4 b5 b6 b7 b8 b9 b10 b11 b12 b13 b14 b15 b16 b17 b18 b19 b20 b21 b22, rfl, Prs.pairs (xs := ?xs) ?pa ?hl, fun r hr => ⟨_, _, U.words (marks b0 b1 b2 b3 b4 b5 b6 b7 b8 b9 b10 b11 b12 b13 b14 b15 b16 b17 b18 b19 b20 b21 b22), rfl, rfl, .inl (SqL.of ?_), marks_len b0 b1 b2 b3 b4 b5 b6 b7 b8 b9 b10 b11 b12 b13 b14 b15 b16 b17 b18 b19 b20 b21 b22, q _ ?_⟩⟩
  case hl => walk_at "hp"
  case pa =>
    show U.Prs _ _ ([(("BadSize" : Str), b0), (("BadNumber" : Str), b1)] ++ [(("BadRow" : Str), b2), (("BadName" : Str), b3)] ++ [(("BadLine" : Str), b4), (("BadHearers" : Str), b5)] ++ [(("BadLoss" : Str), b6), (("BadPlan" : Str), b7)] ++ [(("BadDeed" : Str), b8), (("BadText" : Str), b9)] ++ [(("Ringed" : Str), b10), (("Short" : Str), b11)] ++ [(("Narrow" : Str), b12), (("Heavy" : Str), b13)] ++ [(("Unsolved" : Str), b14), (("NoHouse" : Str), b15)] ++ [(("NoLine" : Str), b16), (("Taken" : Str), b17), (("Full" : Str), b18)] ++ [(("InUse" : Str), b19), (("Told" : Str), b20)] ++ [(("NothingLeft" : Str), b21), (("NoShare" : Str), b22)])
    walk_at "prs"
  · rw [← U.picked_words]
    exact upd_same
  · exact L2.Same.trans (by walk_at "sm") (U.same_new hr)

theorem sc_why : FnScope ["_law_ask", "_law_told", "_law_word", "_law_e"] ["_law_ask"] (defScope (top 47)) := ⟨rfl, rfl, rfl, by decide +kernel, rfl, by decide +kernel, by decide +kernel⟩
/-- what _law_why makes of the lambda: its value and no word, or no value and the kind of what it raised -/
def TTwhy (K : PySem.W.Frag) (A : Ad) : (XK → Hp → VK → Prop) → Hp → VK → Prop := fun tl H Q =>
  tl (fun cls d H' => ∃ (D : Addr) (b0 b1 b2 b3 b4 b5 b6 b7 b8 b9 b10 b11 b12 b13 b14 b15 b16 b17 b18 b19 b20 b21 b22 : Bool), Kinds K A D b0 b1 b2 b3 b4 b5 b6 b7 b8 b9 b10 b11 b12 b13 b14 b15 b16 b17 b18 b19 b20 b21 b22 ∧ Told K A D ∧ cls = .ref D ∧ d = none ∧ ∀ p H'', Same H' H'' → H'' p = some (.tup [.non, .str (Txt.join (PySem.Str.ofString " ") (U.words (marks b0 b1 b2 b3 b4 b5 b6 b7 b8 b9 b10 b11 b12 b13 b14 b15 b16 b17 b18 b19 b20 b21 b22)))]) → Q (.ref p) H'') H
    (fun v H' => ∀ p H'', Same H' H'' → H'' p = some (.tup [v, .str (PySem.Str.ofString "")]) → Q (.ref p) H'')
theorem why_taker {X : Cx} {r : Nat} (T : Txt X.prog X.w X.K X.mg A) {g : Addr} {cdg : Value} {q : Str} : U.Taker X (r + 2) ["_law_ask", "_law_told", "_law_word", "_law_e"] "_law_why" (defScope (top 47)) g cdg (defBody (top 47)) "_law_ask" q (TTwhy X.K A) where
  walks s H f c' tl Q act room co h := by
    obtain ⟨fk, fdk, Fk, gk, bk⟩ := T.d_law_kind.ex
    obtain ⟨oc, od, dV, kV, doc, pm, an, cdv, ct, osl, rfl, lk, cd, _, _⟩ := id Fk.ex
    obtain ⟨ds, vd, bd⟩ := bk 0 (Nat.zero_le _)
    cases vd
    refine' ⟨_, pss_cons (ps_set (i := 1) sc_why.nd rfl (Or.inl rfl) pe_non) (pss_cons (ps_set (i := 2) sc_why.nd rfl (Or.inl rfl) pe_str) (pss_cons (U.ps_tryC rfl rfl
      (tb := fun W D σ H => U.tAct f c' q W tl σ H fun v H' => D.nx (σ.set 1 (some v)) H')
      ?hb ?cls) (pss_one (ps_ret (pe_tup (pa_cons (pv 1) (pa_cons (pv 2) pa_nil))))))), ?fin⟩
    case hb =>
      intro W pn xe tk _
      exact pss_one (ps_set (i := 1) sc_why.nd rfl (Or.inl rfl) (act W pn xe _ _ tk))
    case cls =>
      refine' U.clauses_skip (U.decides_name (X := U.getCx X ["_law_ask", "_law_told", "_law_word", "_law_e"] "_law_why" (defScope (top 47)) g cdg s H) (x := "NoHouse") rfl rfl ⟨rfl, rfl, .inl T.gx_NoHouse⟩) ?_
      refine' U.clauses_skip (U.decides_name (X := U.getCx X ["_law_ask", "_law_told", "_law_word", "_law_e"] "_law_why" (defScope (top 47)) g cdg s H) (x := "NoLine") rfl rfl ⟨rfl, rfl, .inl T.gx_NoLine⟩) ?_
      refine' U.clauses_skip (U.decides_name (X := U.getCx X ["_law_ask", "_law_told", "_law_word", "_law_e"] "_law_why" (defScope (top 47)) g cdg s H) (x := "InUse") rfl rfl ⟨rfl, rfl, .inl T.gx_InUse⟩) ?_
      refine' U.clauses_skip (U.decides_name (X := U.getCx X ["_law_ask", "_law_told", "_law_word", "_law_e"] "_law_why" (defScope (top 47)) g cdg s H) (x := "BadText") rfl rfl ⟨rfl, rfl, .inl T.gx_BadText⟩) ?_
      refine' U.clauses_skip (U.decides_name (X := U.getCx X ["_law_ask", "_law_told", "_law_word", "_law_e"] "_law_why" (defScope (top 47)) g cdg s H) (x := "Heavy") rfl rfl ⟨rfl, rfl, .inl T.gx_Heavy⟩) ?_
      refine' U.clauses_as (X := U.getCx X ["_law_ask", "_law_told", "_law_word", "_law_e"] "_law_why" (defScope (top 47)) g cdg s H) (i := 3) rfl rfl sc_why.nd rfl rfl (U.decides_tup4 (X := U.getCx X ["_law_ask", "_law_told", "_law_word", "_law_e"] "_law_why" (defScope (top 47)) g cdg s H) (x1 := "MingleError") (x2 := "Missing") (x3 := "Busy") (x4 := "NoShare") rfl rfl ⟨rfl, rfl, .inl T.gx_MingleError⟩ ⟨rfl, rfl, .inl T.gx_Missing⟩ ⟨rfl, rfl, .inl T.gx_Busy⟩ ⟨rfl, rfl, .inl T.gx_NoShare⟩) (fun a o cls d pn zn fl => pss_one (ps_set (i := 2) sc_why.nd rfl (Or.inl rfl) (U.pe_held (x := "_law_kind") (k := 1) (p := (a, o)) (t := fun v H Q => v = .ref a ∧ ∃ (D : Addr) (b0 b1 b2 b3 b4 b5 b6 b7 b8 b9 b10 b11 b12 b13 b14 b15 b16 b17 b18 b19 b20 b21 b22 : Bool), Kinds X.K A D b0 b1 b2 b3 b4 b5 b6 b7 b8 b9 b10 b11 b12 b13 b14 b15 b16 b17 b18 b19 b20 b21 b22 ∧ cls = .ref D ∧ d = none ∧ ∀ H', Same H H' → Q (.str (Txt.join (PySem.Str.ofString " ") (U.words (marks b0 b1 b2 b3 b4 b5 b6 b7 b8 b9 b10 b11 b12 b13 b14 b15 b16 b17 b18 b19 b20 b21 b22)))) H') List.mem_cons_self rfl gk Fk.kp lk cd sc_kind bd ⟨(room.mono (Nat.le_add_left 2 r)).dp, (room.mono (Nat.le_add_left 2 r)).un⟩ (pv 3) rfl rfl (by
      rintro s1 H1 v Q1 ⟨rfl, D, b0, b1, b2, b3, b4, b5, b6, b7, b8, b9, b10, b11, b12, b13, b14, b15, b16, b17, b18, b19, b20, b21, b22, kd, rfl, rfl, q1⟩ room1
      have hot : L2H.Hot1 ((U.getCx X ["_law_ask", "_law_told", "_law_word", "_law_e"] "_law_why" (defScope (top 47)) g cdg s H).A.mark (some (.ref a))) (a, o) := ⟨rfl, fl.elim fun vs e => ⟨vs, e, zn.2.2 vs e⟩⟩
      exact held_kind T kd zn.zc fl hot q1)))) (U.clauses_nil rfl U.takesF)

    case fin =>
      walk_at "rd"
      refine ⟨rfl, co, _, _, ?er, ?ok, h⟩
      case ok =>
        intro v H' r
        walk_at "rd"
        exact r _ _ (by assumption) (by assumption)
      case er =>
        rintro cls d H' ⟨D, b0, b1, b2, b3, b4, b5, b6, b7, b8, b9, b10, b11, b12, b13, b14, b15, b16, b17, b18, b19, b20, b21, b22, kd, td, rfl, rfl, k⟩
        refine ⟨td.n0, td.n1, td.n2, td.n3, td.n4, true, td.any, fun _ a na => ?_, fun z => nomatch z⟩
        refine U.i_asg ⟨_, rfl, rfl, D, b0, b1, b2, b3, b4, b5, b6, b7, b8, b9, b10, b11, b12, b13, b14, b15, b16, b17, b18, b19, b20, b21, b22, kd, rfl, rfl, fun H'' st => ?_⟩
        walk_at "rd"
        unfold U.goneE
        walk_at "rd"
        exact k _ _ (st.trans (by assumption)) (by assumption)
theorem sc_shared : FnScope ["seed", "turn", "line", "place", "size", "number"] ["seed", "turn", "line", "place", "size"] (defScope (top 37)) := ⟨rfl, rfl, rfl, by decide +kernel, rfl, by decide +kernel, by decide +kernel⟩
theorem ok_shared (T : Txt P w K mg A) : U.Cl P w K mg base 1 "share_dealt" spShareD [] := by
  refine T.d_share_dealt.ok sc_shared (fun vs H Q E h => ?_) (fun f cdv Ar outer s H vs Q E hr h => ?_)
  · obtain ⟨s, t, l, p, n, rfl, hn, k⟩ := h
    rfl
  · obtain ⟨s, t, l, p, n, rfl, hn, k⟩ := h
    refine ⟨_, (pss_cons (ps_set (i := 5) sc_shared.nd rfl (Or.inl rfl) (pe_op U.u_mod (pe_op U.u_add (pe_op U.u_add (pe_op U.u_add (pe_op U.u_add (pe_op U.u_mul (pv 0) pe_int) (pe_op U.u_mul (pv 1) pe_int)) (pe_op U.u_mul (pv 2) pe_int)) (pe_op U.u_mul (pv 3) pe_int)) pe_int) (U.pe_gval rfl T.g_MODULUS)))
    (pss_one (ps_ret (pe_op U.u_mod (pe_op U.u_fdiv (pe_op U.u_mod (pe_op U.u_mul (pv 5) (pv 5)) (U.pe_gval rfl T.g_MODULUS)) pe_int) (pv 4))))), ?_⟩
    have e0 := Int.emod_nonneg (s * 48271 + t * 7919 + l * 104729 + p * 1299709 + 11) (show (2147483647 : Int) ≠ 0 by decide)
    have e1 := Int.emod_lt_of_pos (s * 48271 + t * 7919 + l * 104729 + p * 1299709 + 11) (show (0 : Int) < 2147483647 by decide)
    walk_at "rd"
    exact k

theorem sc_ldealt : FnScope ["_law_grain", "_law_turn", "_law_line", "_law_place", "_law_big", "_law_found"] ["_law_grain", "_law_turn", "_law_line", "_law_place", "_law_big"] (defScope (top 42)) := ⟨rfl, rfl, rfl, by decide +kernel, rfl, by decide +kernel, by decide +kernel⟩
theorem ok_ldealt (T : Txt P w K mg A) : U.Cl P w K mg base 1 "_law_dealt" spShareD [] := by
  refine T.d_law_dealt.ok sc_ldealt (fun vs H Q E h => ?_) (fun f cdv Ar outer s H vs Q E hr h => ?_)
  · obtain ⟨s, t, l, p, n, rfl, hn, k⟩ := h
    rfl
  · obtain ⟨s, t, l, p, n, rfl, hn, k⟩ := h
    refine ⟨_, (pss_cons (ps_set (i := 5) sc_ldealt.nd rfl (Or.inl rfl) (pe_op U.u_mod (pe_op U.u_add (pe_op U.u_add (pe_op U.u_add (pe_op U.u_add (pe_op U.u_mul (pv 0) pe_int) (pe_op U.u_mul (pv 1) pe_int)) (pe_op U.u_mul (pv 2) pe_int)) (pe_op U.u_mul (pv 3) pe_int)) pe_int) pe_int))
    (pss_one (ps_ret (pe_op U.u_mod (pe_op U.u_fdiv (pe_op U.u_mod (pe_op U.u_mul (pv 5) (pv 5)) pe_int) pe_int) (pv 4))))), ?_⟩
    have e0 := Int.emod_nonneg (s * 48271 + t * 7919 + l * 104729 + p * 1299709 + 11) (show (2147483647 : Int) ≠ 0 by decide)
    have e1 := Int.emod_lt_of_pos (s * 48271 + t * 7919 + l * 104729 + p * 1299709 + 11) (show (0 : Int) < 2147483647 by decide)
    walk_at "rd"
    exact k

theorem sc_dealt : FnScope ["seed", "turn", "line", "place", "size"] ["seed", "turn", "line", "place", "size"] (defScope (top 38)) := ⟨rfl, rfl, rfl, by decide +kernel, rfl, by decide +kernel, by decide +kernel⟩
theorem ok_dealt (T : Txt P w K mg A) : U.ClK P w K mg base 4 "dealt" ["seed", "turn", "line", "place", "size"] (spDealt A) (fun fd => U.BP K fd ["seed", "turn", "line", "place", "size"] [V.int 16] ∧ U.BN K fd ["seed", "turn", "line", "place", "size"] 4 ["size"] (fun vs zs => vs ++ zs)) := by
  obtain ⟨_, _, _, F_shared, g_shared, k_shared, bd_shared⟩ := (ok_shared (P := P) (w := w) (base := base) T).ex
  obtain ⟨_, d_shared, b_shared⟩ := bd_shared 0 (by decide)
  obtain ⟨_, _, _, F_init, M_init, g_init, bd_init⟩ := (ok_init (P := P) (w := w) (base := base) T).ex
  obtain ⟨_, d_init, b_init⟩ := bd_init 1 (by decide)
  obtain ⟨_, _, _, F_fsize, c_fsize, m_fsize, bd_fsize⟩ := (ok_fsize (P := P) (w := w) (base := base) T).ex
  obtain ⟨_, d_fsize, b_fsize⟩ := bd_fsize 0 (by decide)
  refine T.d_dealt.ok sc_dealt (fun vs H Q E h => ?_) (fun f cdv Ar outer s H vs Q E hr h => ?_)
  · obtain ⟨s, t, l, p, n, rfl, kq, ke⟩ := h
    rfl
  · obtain ⟨s, t, l, p, n, rfl, kq, ke⟩ := h
    refine ⟨_, (pss_one (ps_ret (pe_call F_shared (hr.mono (by decide)) rfl g_shared k_shared b_shared d_shared (passE (L2N.takes_of rfl rfl rfl rfl)) (pa_cons (pv 0) (pa_cons (pv 1) (pa_cons (pv 2) (pa_cons (pv 3) (pa_cons (pe_meth0 (pe_make M_init F_init (hr.mono (by decide)) rfl g_init b_init d_init (passE (L2N.takes_of rfl rfl rfl rfl)) (pa_cons (pv 4) pa_nil)) c_fsize m_fsize F_fsize (hr.mono (by decide)) b_fsize d_fsize (passE (L2N.takes_of rfl rfl rfl rfl))) pa_nil)))))))), ?_⟩
    walk_at "rd"
    refine U.i_make ?_
    walk_at "rd"
    intro x dx np ndx nep
    refine ⟨x, dx, n, rfl, upd_same, fun hn H5 kp fa => ⟨rfl, ?_⟩, fun hn => ke hn _ (fun b o e => by rw [upd_ne (ne_of_none e np), upd_ne (ne_of_none e ndx)]; exact e)⟩
    have s5 := Same.made np ndx kp
    have sr := FM.size_rng hn
    obtain ⟨_, dx5, hp5⟩ := id fa
    walk_at "rd"
    refine ⟨x, n, rfl, fa, ?_⟩
    walk_at "rd"
    exact ⟨s, t, l, p, n, rfl, by omega, kq hn _ s5⟩

end
end Lw


set_option Elab.async false
set_option linter.all false
set_option maxRecDepth 100000
set_option maxHeartbeats 4000000
/-! ### own steps (local) -/
local macro_rules | `(tactic| walk_at "hp") => `(tactic| first
  | assumption
  | exact L2.upd_same
  | ((with_reducible refine U.upd_new ?_ ?_); (focus (first | assumption | done)); walk_at "hp")
  | ((with_reducible refine U.upd_ne'' ?_ ?_); (focus (first | assumption | (apply Ne.symm; assumption))); walk_at "hp")
  | ((with_reducible refine' U.Same.get ?hx ?hy); (case hx => assumption); (case hy => walk_at "hp"))
  | ((with_reducible refine' U.ExtN.lst ?hx ?hy); (case hx => assumption); (case hy => walk_at "hp"))
  | ((with_reducible refine' U.ExtN.tup ?hx ?hy); (case hx => assumption); (case hy => walk_at "hp"))
  | ((with_reducible refine' U.ExtN.ins ?hx ?hy); (case hx => assumption); (case hy => walk_at "hp"))
  | fail "hp")
local macro_rules | `(tactic| walk_at "lay") => `(tactic| (intro p hn; generalize hg : L2.upd _ p _ = H'; have hs := U.same_of hg hn; have ho := U.at_of hg; clear hg))
local macro_rules | `(tactic| walk_at "sz") => `(tactic| first | decide | (show _ ≤ PySem.sizeLine; rw [PySem.sizeLine_eq]; (try simp only [List.length_cons, List.length_nil, List.length_map]); omega))
local macro_rules | `(tactic| walk_at "ref'") => `(tactic| skip)
local macro_rules | `(tactic| walk_at "rd1") => `(tactic| first
  | (with_reducible refine' U.i_seq ?_)
  | (with_reducible refine' U.i_asg ?_)
  | (with_reducible refine' U.i_ret ?_)
  | (with_reducible refine' U.i_ifS ?_)
  | (with_reducible refine' U.i_drop ?_)
  | ((with_reducible refine' U.i_var ?hx ?_); (case hx => rfl))
  | (with_reducible refine' U.i_c ?_)
  | (with_reducible refine' U.i_op ?_)
  | (with_reducible refine' U.i_un ?_)
  | (with_reducible refine' U.i_name ?_)
  | (with_reducible refine' U.i_gsub ?_)
  | (with_reducible refine' U.i_test ?_)
  | (with_reducible refine' U.i_tB ?_)
  | (with_reducible refine' U.i_bl ?_)
  | (with_reducible refine' U.i_not ?_)
  | (with_reducible refine' U.i_nil ?_)
  | (with_reducible refine' U.i_cons ?_)
  | (with_reducible refine' U.i_cb ?_)
  | (with_reducible refine' U.i_call ?_)
  | (with_reducible refine' U.i_fld ?_)
  | ((with_reducible refine' U.i_fld' ?hx ?hy ?hz ?hw ?_); (case hx => walk_at "hp"); (case hy => assumption); (case hz => assumption); (case hw => rfl))
  | (with_reducible refine' U.i_meth ?_)
  | ((with_reducible refine' U.i_meth' ?hx ?hy ?_); (case hx => walk_at "hp"); (case hy => rfl))
  | (with_reducible refine' U.i_add ?_)
  | (with_reducible refine' U.i_sub ?_)
  | ((with_reducible refine' U.i_mul ?hx ?_); (case hx => (first | (left; constructor <;> omega) | (right; constructor <;> omega))))
  | ((with_reducible refine' U.i_mod ?hx ?_); (case hx => omega))
  | ((with_reducible refine' U.i_fdiv ?hx ?_); (case hx => (constructor <;> omega)))
  | ((with_reducible refine' U.i_pow ?hx ?_); (case hx => (refine ⟨?_, ?_, ?_⟩ <;> decide)))
  | (with_reducible refine' U.i_lt ?_)
  | (with_reducible refine' U.i_le ?_)
  | (with_reducible refine' U.i_gt ?_)
  | (with_reducible refine' U.i_ge ?_)
  | (with_reducible refine' U.i_eqI ?_)
  | (with_reducible refine' U.i_neI ?_)
  | (with_reducible refine' U.i_rU ?_)
  | (with_reducible refine' U.i_abs ?_)
  | (with_reducible refine' U.i_callN ?_)
  | ((with_reducible refine' U.i_lens ?hx ?hy ?_); (case hx => rfl); (case hy => rfl))
  | ((with_reducible refine' U.i_ixL ?hx ?hy ?_); (case hx => exact L2.SqL.of (by walk_at "hp")); (case hy => rfl))
  | ((with_reducible refine' U.i_lenL ?hx ?_); (case hx => exact L2.SqL.of (by walk_at "hp")))
  | ((with_reducible refine' U.i_setL ?hx ?hy ?_); (case hx => walk_at "hp"); (case hy => rfl))
  | (with_reducible refine' U.i_augS ?_)
  | ((with_reducible refine' U.i_aug ?hx ?_); (case hx => rfl))
  | (with_reducible refine' U.i_ipI ?_)
  | ((with_reducible refine' U.i_ipMul ?hx ?_); (case hx => (first | (left; constructor <;> omega) | (right; constructor <;> omega))))
  | ((with_reducible refine' U.i_gtup ?hx ?hy ?_); (case hx => exact L2.SqT.of (by walk_at "hp")); (case hy => rfl))
  | (with_reducible refine' U.i_gcons ?_)
  | (with_reducible refine' U.i_gnil ?_)
  | ((with_reducible refine' U.i_divmod ?hx ?_); (case hx => (constructor <;> omega)); walk_at "lay")
  | (with_reducible refine' U.i_tup ?_)
  | (with_reducible refine' U.i_lst ?_)
  | ((with_reducible refine' U.lay_and ?hx ?_); (case hx => walk_at "sz"); walk_at "lay")
  | (with_reducible refine' U.i_sl ?_)
  | (with_reducible refine' U.i_part ?_)
  | (with_reducible refine' U.i_part' ?_)
  | (with_reducible refine' U.i_nopart ?_)
  | ((with_reducible refine' U.i_slL ?hx ?_); (case hx => exact L2.SqL.of (by walk_at "hp")); walk_at "lay")
  | (with_reducible refine' U.i_bm ?_)
  | ((with_reducible refine' U.i_bm' ?hx ?_); (case hx => walk_at "hp"))
  | ((with_reducible refine' U.i_append ?hx ?hy ?_); (case hx => walk_at "hp"); (case hy => walk_at "szl"))
  | ((with_reducible refine' U.i_chLL ?hx ?hy ?_); (case hx => rfl); (case hy => rfl))
  | (with_reducible refine' U.i_chain ?_)
  | (with_reducible refine' U.i_rng1 ?_)
  | ((with_reducible refine' U.i_rng1' ?hx ?hy ?_); (case hx => omega); (case hy => omega))
  | (with_reducible refine' U.i_rng2 ?_)
  | ((with_reducible refine' U.i_rng2' ?hx ?_); (case hx => (refine ⟨?_, ?_, ?_, ?_⟩ <;> omega)))
  | (with_reducible refine' U.i_rng3 ?_)
  | (with_reducible refine' U.i_enum ?_)
  | ((with_reducible refine' U.i_enum' ?hx ?_); (case hx => exact L2.SqL.of (by walk_at "hp")))
  | (with_reducible refine' U.i_enumT ?_)
  | ((with_reducible refine' U.i_enumT' ?hx ?_); (case hx => exact L2.SqT.of (by walk_at "hp")))
  | (with_reducible refine' U.i_rev ?_)
  | ((with_reducible refine' U.i_rev' ?hx ?_); (case hx => exact L2.SqL.of (by walk_at "hp")))
  | (with_reducible refine' U.i_plist ?_)
  | ((with_reducible refine' U.i_plist' ?hx ?_); (case hx => exact L2.SqL.of (by walk_at "hp")))
  | (with_reducible refine' U.i_for ?_)
  | (with_reducible refine' U.i_sfld ?_)
  | ((with_reducible refine' U.i_sfld' ?hx ?hy ?hz ?hw ?_); (case hx => walk_at "hp"); (case hy => assumption); (case hz => assumption); (case hw => exact Nat.le_of_ble_eq_true rfl))
  | (with_reducible refine' U.i_lc ?_)
  | (with_reducible refine' U.i_par3 ?_)
  | (with_reducible refine' U.i_par3' ?_)
  | (with_reducible refine' U.i_par ?_)
  | (with_reducible refine' U.i_par' ?_)
  | (with_reducible refine' U.i_lrg ?_)
  | (with_reducible refine' U.i_rg1 ?_)
  | (with_reducible refine' U.i_rg1' ?_)
  | (with_reducible refine' U.i_pl ?_)
  | ((with_reducible refine' U.i_pl' ?hx ?hy ?_); (case hx => walk_at "hp"); (case hy => exact Nat.le_of_ble_eq_true rfl))
  | (with_reducible refine' U.i_rAdd ?_)
  | ((with_reducible refine' U.i_listOf ?hx ?_); (case hx => exact L2.SqL.of (by walk_at "hp")); walk_at "lay")
  | (with_reducible refine' U.i_intB ?_)
  | (with_reducible refine' U.i_wget ?_)
  | (with_reducible refine' U.i_yes ?_)
  | (with_reducible refine' L2.iteT ?_)
  | (with_reducible refine' U.i_next ?_)
  | fail "rd1")
local macro_rules | `(tactic| walk_at "szl") => `(tactic| first | decide | (refine L2.small1000 ?_; (try simp only [List.length_cons, List.length_nil, List.length_map]); omega))
local macro_rules | `(tactic| walk_at "rd") => `(tactic| (repeat walk_at "rd1"))
local macro_rules | `(tactic| walk_at "ro") => `(tactic| (refine' U.i_or ?_; walk_at "rd"))
local macro_rules | `(tactic| walk_at "ra") => `(tactic| (refine' U.i_pt ?_; walk_at "rd"))
local macro_rules | `(tactic| walk_at "gd") => `(tactic| (repeat (first | walk_at "rd1" | (with_reducible refine' U.i_andV ?_))))

namespace Lw
open PySem L2 U LamX
local macro_rules | `(tactic| walk_at "fa") => `(tactic| first
  | assumption
  | ((with_reducible refine' Lw.FA.same ?hx ?hy); (case hy => assumption); (case hx => walk_at "fa"))
  | fail "fa")
local macro_rules | `(tactic| walk_at "bg") => `(tactic| first
  | assumption
  | ((with_reducible refine' Lw.Bag.same ?hx ?hy); (case hy => assumption); (case hx => walk_at "bg"))
  | fail "bg")
local macro_rules | `(tactic| walk_at "op2") => `(tactic| (refine' Lw.spOp.go ?fa ?ra ?rb ?q; (case fa => walk_at "fa"); (case ra => constructor <;> omega); (case rb => constructor <;> omega); intro H' s'; walk_at "rd"))

local macro_rules | `(tactic| walk_at "kd") => `(tactic| (repeat (first
  | walk_at "rd1"
  | ((with_reducible refine' U.i_isE ?hx ?_); (case hx => assumption))
  | ((with_reducible refine' U.i_cat ?hx ?hy ?hz ?_); (case hx => walk_at "hp"); (case hy => walk_at "hp"); (case hz => (show _ ≤ PySem.sizeLine; rw [PySem.sizeLine_eq]; simp only [List.length_append, List.length_cons, List.length_nil]; omega)); walk_at "lay")
  | fail "kd")))
local macro_rules | `(tactic| walk_at "sm") => `(tactic| first
  | assumption
  | ((with_reducible refine' L2.Same.trans ?hx ?hy); (case hy => assumption); (case hx => walk_at "sm"))
  | fail "sm")
local macro_rules | `(tactic| walk_at "prs") => `(tactic| (repeat (first
  | (with_reducible refine' U.Prs.append ?_ ?_)
  | ((with_reducible refine' U.Prs.con ?hx ?_); (case hx => walk_at "hp"))
  | (with_reducible exact U.Prs.nil)
  | fail "prs")))

local macro_rules | `(tactic| walk_at "ty") => `(tactic| first | exact .base (.int _) | exact .base (.str _) | exact .base (.bl _) | exact .base .non | exact .base (.lst (by walk_at "hp")) | exact .base (.tup (by walk_at "hp")))
local macro_rules | `(tactic| walk_at "al") => `(tactic| (repeat (first
  | walk_at "rd1"
  | (with_reducible refine' U.i_andV ?_)
  | (with_reducible refine' U.i_notV ?_)
  | (with_reducible refine' U.i_truth ?_)
  | (with_reducible refine' U.i_or ?_)
  | (with_reducible refine' U.i_pt ?_)
  | ((with_reducible refine' U.i_isNT ?hx ?_); (case hx => rfl))
  | ((with_reducible refine' U.i_isNF ?hx ?_); (case hx => (intro z; cases z)))
  | ((with_reducible refine' U.i_isiT ?hx ?hy ?_); (case hx => walk_at "ty"); (case hy => decide +kernel))
  | ((with_reducible refine' U.i_isiF ?hx ?hy ?_); (case hx => walk_at "ty"); (case hy => decide +kernel))
  | (with_reducible refine' U.i_neBB ?_)
  | (with_reducible refine' U.i_eqBB ?_)
  | (with_reducible refine' U.i_eqSS ?_)
  | ((with_reducible refine' U.i_lenL ?hx ?_); (case hx => exact L2.SqL.of (by walk_at "hp")))
  | ((with_reducible refine' U.i_lenT ?hx ?_); (case hx => exact L2.SqT.of (by walk_at "hp")))
  | (with_reducible refine' U.iteT' ?_)
  | (with_reducible refine' U.iteF' ?_)
  | fail "al")))

local macro_rules | `(tactic| walk_at "gq") => `(tactic| (repeat (first | ((fail_if_success (with_reducible refine' U.i_seq ?_)); (first | walk_at "rd1" | (with_reducible refine' U.i_andV ?_))) | fail "gq")))
local macro_rules | `(tactic| walk_at "rq") => `(tactic| (repeat (first | ((fail_if_success (with_reducible refine' U.i_seq ?_)); walk_at "rd1") | fail "rq")))

theorem Bag.ext {H H' : Hp} {a c : Addr} (h : Bag H a c) (s : LamX.ExtN H H') : Bag H' a c := by
  obtain ⟨ns, i, l, z, h1, h2, h3⟩ := h
  exact ⟨ns, i, l, z, U.ExtN.lst s h1, U.ExtN.lst s h2, h3⟩
/-- something that is none of the bag's is written -/
theorem Bag.but {H H' : Hp} {a c l : Addr} (h : Bag H a c) (n1 : l ≠ a) (n2 : l ≠ c) (k : But l H H') : Bag H' a c := by
  obtain ⟨ns, i, j, z, h1, h2, h3⟩ := h
  exact ⟨ns, i, j, z, k _ _ h1 n1.symm, k _ _ h2 n2.symm, h3⟩
theorem tabs_lst {T : List (Addr × Str)} {H H' : Hp} {b : Addr} {xs : List V} (t : LamX.Tabs T H) (h1 : H b = some (.lst xs)) (k : But b H H') : LamX.Tabs T H' := by
  intro q m
  obtain ⟨ps, e, tr, cs⟩ := t q m
  refine ⟨ps, k _ _ e (fun y => by rw [y, h1] at e; cases e), tr, fun pos cv h => ?_⟩
  obtain ⟨cc, ec, hc⟩ := cs pos cv h
  exact ⟨cc, ec, k _ _ hc (fun y => by rw [y, h1] at hc; cases hc)⟩
/-- the bag's list is written: tables and code objects stay -/
theorem tabs_but {T : List (Addr × Str)} {H H' : Hp} {b c : Addr} (t : LamX.Tabs T H) (bag : Bag H b c) (k : But b H H') : LamX.Tabs T H' := by
  obtain ⟨ns, i, l, z, h1, _⟩ := bag
  exact tabs_lst t h1 k
section
variable {H : Hp} {b c l : Addr} {xs : List V}
/-- a list that begins otherwise than the bag's two -/
theorem Bag.neN (h : Bag H b c) (o : H l = none) : l ≠ b ∧ l ≠ c := by
  obtain ⟨ns, i, j, z, h1, h2, _⟩ := h
  exact ⟨fun e => (by rw [e, h1] at o; cases o), fun e => (by rw [e, h2] at o; cases o)⟩
theorem Bag.neT (h : Bag H b c) (o : H l = some (.tup xs)) : l ≠ b ∧ l ≠ c := by
  obtain ⟨ns, i, j, z, h1, h2, _⟩ := h
  exact ⟨fun e => (by rw [e, h1] at o; cases o), fun e => (by rw [e, h2] at o; cases o)⟩
end
/-- what a turn without a field keeps -/
structure Bd (Pt b c : Addr) (H : Hp) : Prop where
  bag : Bag H b c
  tab : LamX.Tabs [(Pt, PySem.Str.ofString "law.<locals>." ++ "<lambda>")] H
section
variable {Pt b c : Addr} {H H' : Hp}
theorem Bd.same (w : Bd Pt b c H) (s : Same H H') : Bd Pt b c H' := ⟨w.bag.same s, w.tab.ext s⟩
theorem Bd.ext (w : Bd Pt b c H) (s : LamX.ExtN H H') (t : LamX.Tabs [(Pt, PySem.Str.ofString "law.<locals>." ++ "<lambda>")] H') : Bd Pt b c H' := ⟨w.bag.ext s, t⟩
theorem Bd.but (w : Bd Pt b c H) (h : Bag H' b c) (k : But b H H') : Bd Pt b c H' := ⟨h, tabs_but w.tab w.bag k⟩
theorem Bd.lst {l : Addr} {xs : List V} (w : Bd Pt b c H) (o : H l = some (.lst xs)) (n : l ≠ b ∧ l ≠ c) (k : But l H H') : Bd Pt b c H' := ⟨w.bag.but n.1 n.2 k, tabs_lst w.tab o k⟩
end
local macro_rules | `(tactic| walk_at "bd") => `(tactic| first
  | assumption
  | ((with_reducible refine' Lw.Bd.same ?hx ?hy); (case hy => assumption); (case hx => walk_at "bd"))
  | ((with_reducible refine' Lw.Bd.but ?hx ?hy ?hz); (case hz => assumption); (case hy => assumption); (case hx => walk_at "bd"))
  | fail "bd")

theorem FA.ext {A : Ad} {H H' : Hp} {p : Addr} {n : Int} (h : FA A H p n) (s : LamX.ExtN H H') : FA A H' p n := by
  obtain ⟨h1, dx, h2⟩ := h
  exact ⟨h1, dx, U.ExtN.ins s h2⟩
theorem FA.neL {A : Ad} {H : Hp} {p l : Addr} {n : Int} {xs : List V} (h : FA A H p n) (o : H l = some (.lst xs)) : p ≠ l := fun e => by
  obtain ⟨h1, dx, h2⟩ := h
  rw [e, o] at h2
  cases h2
/-- what a turn with a field keeps -/
structure Wd (A : Ad) (Pt b c p : Addr) (n : Int) (H : Hp) : Prop where
  bd : Bd Pt b c H
  fa : FA A H p n
section
variable {A : Ad} {Pt b c p : Addr} {n : Int} {H H' : Hp}
theorem Wd.bag (w : Wd A Pt b c p n H) : Bag H b c := w.bd.bag
theorem Wd.tab (w : Wd A Pt b c p n H) : LamX.Tabs [(Pt, PySem.Str.ofString "law.<locals>." ++ "<lambda>")] H := w.bd.tab
theorem Wd.same (w : Wd A Pt b c p n H) (s : Same H H') : Wd A Pt b c p n H' := ⟨w.bd.same s, w.fa.same s⟩
theorem Wd.ext (w : Wd A Pt b c p n H) (s : LamX.ExtN H H') (t : LamX.Tabs [(Pt, PySem.Str.ofString "law.<locals>." ++ "<lambda>")] H') : Wd A Pt b c p n H' := ⟨w.bd.ext s t, w.fa.ext s⟩
theorem Wd.but (w : Wd A Pt b c p n H) (h : Bag H' b c) (k : But b H H') : Wd A Pt b c p n H' := ⟨w.bd.but h k, w.fa.but k (fun e => by
  obtain ⟨ns, i, l, z, h1, _⟩ := w.bag
  exact w.fa.neL h1 e)⟩
theorem Wd.lst {l : Addr} {xs : List V} (w : Wd A Pt b c p n H) (o : H l = some (.lst xs)) (ne : l ≠ b ∧ l ≠ c) (k : But l H H') : Wd A Pt b c p n H' := ⟨w.bd.lst o ne k, w.fa.but k (w.fa.neL o)⟩
end
local macro_rules | `(tactic| walk_at "wd") => `(tactic| first
  | assumption
  | ((with_reducible refine' Lw.Wd.same ?hx ?hy); (case hy => assumption); (case hx => walk_at "wd"))
  | ((with_reducible refine' Lw.Wd.but ?hx ?hy ?hz); (case hz => assumption); (case hy => assumption); (case hx => walk_at "wd"))
  | fail "wd")
/-- what is raised is told by that word -/
def WhyOf (K : PySem.W.Frag) (A : Ad) (D : Addr) (wd : Str) : Prop := ∃ b0 b1 b2 b3 b4 b5 b6 b7 b8 b9 b10 b11 b12 b13 b14 b15 b16 b17 b18 b19 b20 b21 b22 : Bool, Kinds K A D b0 b1 b2 b3 b4 b5 b6 b7 b8 b9 b10 b11 b12 b13 b14 b15 b16 b17 b18 b19 b20 b21 b22 ∧ Told K A D ∧ Txt.join (PySem.Str.ofString " ") (U.words (marks b0 b1 b2 b3 b4 b5 b6 b7 b8 b9 b10 b11 b12 b13 b14 b15 b16 b17 b18 b19 b20 b21 b22)) = wd
theorem WhyOf.go {K : PySem.W.Frag} {A : Ad} {D : Addr} {wd : Str} {H' : Hp} {R : Addr → Hp → Prop} (h : WhyOf K A D wd) (q : ∀ p H'', Same H' H'' → H'' p = some (.tup [.non, .str wd]) → R p H'') :
    ∃ (D' : Addr) (b0 b1 b2 b3 b4 b5 b6 b7 b8 b9 b10 b11 b12 b13 b14 b15 b16 b17 b18 b19 b20 b21 b22 : Bool), Kinds K A D' b0 b1 b2 b3 b4 b5 b6 b7 b8 b9 b10 b11 b12 b13 b14 b15 b16 b17 b18 b19 b20 b21 b22 ∧ Told K A D' ∧ (Value.ref D) = .ref D' ∧ (none : Option Addr) = none ∧ ∀ p H'', Same H' H'' → H'' p = some (.tup [.non, .str (Txt.join (PySem.Str.ofString " ") (U.words (marks b0 b1 b2 b3 b4 b5 b6 b7 b8 b9 b10 b11 b12 b13 b14 b15 b16 b17 b18 b19 b20 b21 b22)))]) → R p H'' := by
  obtain ⟨b0, b1, b2, b3, b4, b5, b6, b7, b8, b9, b10, b11, b12, b13, b14, b15, b16, b17, b18, b19, b20, b21, b22, h1, h2, h3⟩ := h
  rw [← h3] at q
  exact ⟨D, b0, b1, b2, b3, b4, b5, b6, b7, b8, b9, b10, b11, b12, b13, b14, b15, b16, b17, b18, b19, b20, b21, b22, h1, h2, rfl, rfl, q⟩

/-- a lambda handed to _law_why: what its body tells or raises (R) comes back as a pair -/
theorem why_lam {K : PySem.W.Frag} {A : Ad} {T : List (Addr × Str)} {t : XK → TE} {σ : L2.St} {H : Hp} {Q : VK} (tb : LamX.Tabs T H) (R : V → Str → Hp → Prop) (st : ∀ v wd H1 H2, R v wd H1 → Same H1 H2 → R v wd H2)
    (q : ∀ H1 E Qv, LamX.ExtN H H1 → LamX.Tabs T H1 → (∀ D wd H2, WhyOf K A D wd → R .non wd H2 → E (.ref D) none H2) → (∀ v H2, R v "" H2 → Qv v H2) → t E σ H1 Qv)
    (rest : ∀ p v wd H2, R v wd H2 → H2 p = some (.tup [v, .str wd]) → Q (.ref p) H2) : LamX.tLam T (TTwhy K A) t σ H Q := by
  refine U.i_lam tb (fun H1 e1 t1 => ?_)
  exact q H1 _ _ e1 t1 (fun D wd H2 h r => WhyOf.go h (fun p H3 s o => rest p _ _ H3 (st _ _ _ _ r s) o)) (fun v H2 r p H3 s o => rest p _ _ H3 (st _ _ _ _ r s) o)
section
variable {P : Program} {w : World} {K : PySem.W.Frag} {mg : Str → Option Value} {base : Heap} {A : Ad}
theorem sc_law : FnScope ["_law_script", "_law_turn", "_law_some", "_law_big", "_law_due", "_law_bag_here", "_law_k"] ["_law_script"] (defScope (top 48)) := ⟨rfl, rfl, rfl, by decide +kernel, rfl, by decide +kernel, by decide +kernel⟩
def spLaw (K : PySem.W.Frag) (Pt : Addr) : Sp := fun vs H Q _ => ∃ (a : Addr) (ns : List Int), vs = [.ref a] ∧ SqL K H a (ns.map V.int) ∧ ns.length ≤ 63 ∧ LamX.Tabs [(Pt, PySem.Str.ofString "law.<locals>." ++ "<lambda>")] H ∧ ∀ H', Q (.bl true) H'
theorem ok_law (T : Txt P w K mg A) {f c Pt : Addr} {oc dV kV dc pm ct : Value} {od an : Option Addr} {sl : Array (Option Value)} (lk : K.lookup f = some ⟨oc, od, .func (PySem.W.fnOf "law" "law" (defArgs (top 48)) (defBody (top 48)) (defScope (top 48)) dV kV dc pm an (.ref c) ct), sl⟩) (cd : PySem.W.codeIn K (.ref c) "law" = true) (TB : LamX.TabB base mg c Pt) (kBS : WhyOf K A A.BadSize "BadSize") :
    FnOk P w K mg base (L2N.CX P w) 8 f (PySem.W.fnOf "law" "law" (defArgs (top 48)) (defBody (top 48)) (defScope (top 48)) dV kV dc pm an (.ref c) ct) ["_law_script"] (spLaw K Pt) := by
  obtain ⟨_, _, _, F_bag, g_bag, k_bag, bd_bag⟩ := (ok_bag (P := P) (w := w) (base := base) T).ex
  obtain ⟨_, d_bag, b_bag⟩ := bd_bag 0 (by decide)
  obtain ⟨_, _, _, F_size, g_size, k_size, bd_size⟩ := (ok_size (P := P) (w := w) (base := base) T).ex
  obtain ⟨_, d_size, b_size⟩ := bd_size 0 (by decide)
  obtain ⟨_, _, _, F_pull, g_pull, k_pull, bd_pull⟩ := (ok_pull (P := P) (w := w) (base := base) T).ex
  obtain ⟨_, d_pull, b_pull⟩ := bd_pull 0 (by decide)
  obtain ⟨_, _, _, F_ldealt, g_ldealt, k_ldealt, bd_ldealt⟩ := (ok_ldealt (P := P) (w := w) (base := base) T).ex
  obtain ⟨_, d_ldealt, b_ldealt⟩ := bd_ldealt 0 (by decide)
  obtain ⟨_, _, _, F_al, g_al, k_al, bd_al⟩ := (ok_alike (P := P) (w := w) (base := base) T 3).ex
  obtain ⟨_, d_al, b_al⟩ := bd_al 0 (by decide)
  obtain ⟨fw, fdw, Fw, g_why, bw⟩ := T.d_law_why.ex
  obtain ⟨_, _, _, _, _, _, _, _, _, _, rfl, lk_why, cd_why, _, _⟩ := id Fw.ex
  obtain ⟨_, vd_why, bd_why⟩ := bw 0 (by decide)
  cases vd_why
  obtain ⟨_, _, F_dealt, g_dealt, k_dealt, B1, B2⟩ := (ok_dealt (P := P) (w := w) (base := base) T).ex
  obtain ⟨_, d_dealt, b_dealt⟩ := B1
  obtain ⟨_, bk_dealt⟩ := B2
  refine fn_of lk cd sc_law (fun vs H Q E h => ?_) (fun Ar outer s H vs Q E hr h => ?_)
  · obtain ⟨a, ns, rfl, _⟩ := h
    rfl
  obtain ⟨a, ns, rfl, hS, hl, hT, k⟩ := h
  refine ⟨_, (pss_cons (ps_set (i := 5) sc_law.nd rfl (Or.inr rfl) (pe_call F_bag (hr.mono (by decide)) rfl g_bag k_bag b_bag d_bag U.passN (pa_cons (pv 0) pa_nil)))
    (pss_cons (ps_for (passes_of (by exact rfl)) (by exact rfl) (pi_range1 (by rfl) T.range (pa_cons pe_int pa_nil)) (pg_name (i := 1) sc_law.nd rfl (Or.inl rfl))
    (pss_cons (ps_setLc (i := 2) (own := [("_law_k", 6)]) (g := (gName 6)) (tt := tYes) (by exact rfl) sc_law.nd rfl rfl (sw_true rfl rfl rfl (by decide +kernel)) (pi_range1 (by rfl) T.range (pa_cons pe_int pa_nil)) (blkOk_by (own := [("_law_k", 6)]) (N := ["_law_script", "_law_turn", "_law_some", "_law_big", "_law_due", "_law_bag_here", "_law_k"]) (sc := defScope (top 48)) (by decide +kernel)) (fun _ _ _ _ _ => (pg_name (i := 6) sc_law.nd rfl (Or.inl rfl))) (fun _ _ _ _ _ => pts_nil) (fun _ _ _ _ _ => (pe_ix (U.ixL K rfl) (pe_lst (pa_cons (pe_call F_pull (hr.mono (by decide)) rfl g_pull k_pull b_pull d_pull U.passN (pa_cons (pv 5) (pa_cons pe_int pa_nil))) (pa_cons (pe_op U.u_add (pe_op U.u_pow pe_int pe_int) (pe_call F_pull (hr.mono (by decide)) rfl g_pull k_pull b_pull d_pull U.passN (pa_cons (pv 5) (pa_cons (pe_op U.u_pow pe_int pe_int) pa_nil)))) pa_nil))) (pe_call F_pull (hr.mono (by decide)) rfl g_pull k_pull b_pull d_pull U.passN (pa_cons (pv 5) (pa_cons pe_int pa_nil))) (fun _ _ => rfl))))
    (pss_cons (ps_set (i := 3) sc_law.nd rfl (Or.inl rfl) (pe_call F_size (hr.mono (by decide)) rfl g_size k_size b_size d_size U.passN (pa_cons (pv 5) pa_nil)))
    (pss_cons (ps_set (i := 4) sc_law.nd rfl (Or.inl rfl) (pe_call F_ldealt (hr.mono (by decide)) rfl g_ldealt k_ldealt b_ldealt d_ldealt U.passN (pa_cons (pe_ix ix_list (pv 2) pe_int (fun _ _ => rfl)) (pa_cons (pe_ix ix_list (pv 2) pe_int (fun _ _ => rfl)) (pa_cons (pe_ix ix_list (pv 2) pe_int (fun _ _ => rfl)) (pa_cons (pe_ix ix_list (pv 2) pe_int (fun _ _ => rfl)) (pa_cons (pv 3) pa_nil)))))))
    (pss_cons (ps_if (pt_not (pt_val (pe_call F_al (hr.mono (by decide)) rfl g_al k_al b_al d_al U.passN (pa_cons (pe_callN F_dealt (hr.mono (by decide)) rfl g_dealt k_dealt bk_dealt U.passN (pa_cons (pe_ix ix_list (pv 2) pe_int (fun _ _ => rfl)) (pa_cons (pe_ix ix_list (pv 2) pe_int (fun _ _ => rfl)) (pa_cons (pe_ix ix_list (pv 2) pe_int (fun _ _ => rfl)) (pa_cons (pe_ix ix_list (pv 2) pe_int (fun _ _ => rfl)) pa_nil)))) (pk_cons (pv 3) pk_nil)) (pa_cons (pv 4) pa_nil)))))
    (pss_one (ps_ret pe_bl))
    pss_nil)
    (pss_cons (ps_set (i := 4) sc_law.nd rfl (Or.inl rfl) (pe_call F_ldealt (hr.mono (by decide)) rfl g_ldealt k_ldealt b_ldealt d_ldealt U.passN (pa_cons (pe_ix ix_list (pv 2) pe_int (fun _ _ => rfl)) (pa_cons (pe_ix ix_list (pv 2) pe_int (fun _ _ => rfl)) (pa_cons (pe_ix ix_list (pv 2) pe_int (fun _ _ => rfl)) (pa_cons (pe_ix ix_list (pv 2) pe_int (fun _ _ => rfl)) (pa_cons pe_int pa_nil)))))))
    (pss_cons (ps_if (pt_not (pt_val (pe_call F_al (hr.mono (by decide)) rfl g_al k_al b_al d_al U.passN (pa_cons (pe_call F_dealt (hr.mono (by decide)) rfl g_dealt k_dealt b_dealt d_dealt U.passN (pa_cons (pe_ix ix_list (pv 2) pe_int (fun _ _ => rfl)) (pa_cons (pe_ix ix_list (pv 2) pe_int (fun _ _ => rfl)) (pa_cons (pe_ix ix_list (pv 2) pe_int (fun _ _ => rfl)) (pa_cons (pe_ix ix_list (pv 2) pe_int (fun _ _ => rfl)) pa_nil))))) (pa_cons (pv 4) pa_nil)))))
    (pss_one (ps_ret pe_bl))
    pss_nil)
    (pss_one (ps_if (pt_cmpR op_ne (pe_ix ix_tup (U.pe_lamto (k := 5) (T := [(Pt, PySem.Str.ofString "law.<locals>." ++ "<lambda>")]) rfl g_why Fw.kp lk_why cd_why bd_why sc_why rfl (Or.inl rfl) (why_taker T) TB rfl List.mem_cons_self (fun p m _ => by cases List.mem_singleton.mp m; rfl) hr (LamX.lamS_by (by rfl)) rfl (fun _ _ _ _ _ => rfl) (fun A outer s H E f c' r => (pe_callN F_dealt (r.mono (by decide)) rfl g_dealt k_dealt bk_dealt (passE (L2N.takes_of rfl rfl rfl rfl)) (pa_cons pe_int (pa_cons pe_int (pa_cons pe_int (pa_cons pe_int pa_nil)))) (pk_cons (pe_ix (U.ixL K rfl) (pe_lst (pa_cons pe_int (pa_cons pe_int (pa_cons pe_int (pa_cons (pe_un un_neg pe_int) pa_nil))))) (pe_call F_pull (r.mono (by decide)) rfl g_pull k_pull b_pull d_pull U.passN (pa_cons (pv 5) (pa_cons pe_int pa_nil))) (fun _ _ => rfl)) pk_nil)))) pe_int (fun _ _ => rfl)) pe_str (nomark _))
    (pss_one (ps_ret pe_bl))
    pss_nil)))))))))
    (pss_one (ps_ret pe_bl)))), ?_⟩
  walk_at "rd"
  refine ⟨a, ns, rfl, hS, hl, fun b cb H1 hb0 hc0 s1 hbag => ?_⟩
  have bd1 : Bd Pt b cb H1 := ⟨hbag, hT.ext s1⟩
  walk_at "rd"
  refine for_it walk_range (fun i σ H' => ∃ v1 v2 v3 v4 v6, σ = [some (.ref a), v1, v2, v3, v4, some (.ref b), v6] ∧ Bd Pt b cb H') ⟨_, _, _, _, _, rfl, bd1⟩ (fun _ _ _ _ _ => trivial) ?_ ?_
  rotate_left
  · rintro σ H2 ⟨v1, v2, v3, v4, v6, rfl, bd2⟩
    walk_at "rd"
    exact k _
  rintro i x σ H2 H3 hi ⟨v1, v2, v3, v4, v6, rfl, bd3⟩ ⟨rfl, rfl⟩
  walk_at "rq"
  with_reducible refine U.i_seqG (fun σ' H' => ∃ l z0 z1 z2 z3, σ' = [some (.ref a), some (.int (0 + (i : Nat))), some (.ref l), v3, v4, some (.ref b), v6] ∧ H' l = some (.lst [V.int z0, V.int z1, V.int z2, V.int z3]) ∧ Bd Pt b cb H' ∧ (l ≠ b ∧ l ≠ cb)) ?rest1 (fun _ rest1 => ?first1)
  case first1 =>
    walk_at "rq"
    intro D hD
    have nD := bd3.bag.neN hD
    refine lc_it (walk_range (n := 4)) (fun j H' => Bd Pt b cb H' ∧ ∃ zs : List Int, zs.length = j ∧ H' D = some (.lst (zs.map V.int))) ⟨bd3.same (same_new hD), [], rfl, upd_same⟩ (fun _ _ _ _ => trivial) ?_ ?_
    · rintro j x H4 H5 hj ⟨bd4, zs, hz, o4⟩ ⟨rfl, rfl⟩
      walk_at "rd"
      refine ⟨rfl, ?_⟩
      walk_at "rd"
      refine spPull.go bd4.bag (by decide) (by decide) (fun g0 H6 p0 p1 hb6 bt6 => ?_)
      have bd6 := bd4.but hb6 bt6
      walk_at "rd"
      refine spPull.go hb6 (by decide) (by decide) (fun g1 H7 p2 p3 hb7 bt7 => ?_)
      have bd7 := bd6.but hb7 bt7
      walk_at "rd"
      rename_i lp hlp H8 s8 o8
      have bd8 := bd7.same s8
      refine spPull.go bd8.bag (by decide) (by decide) (fun g2 H9 p4 p5 hb9 bt9 => ?_)
      have bd9 := bd8.but hb9 bt9
      have o9 := bt9 _ _ o8 (hb7.neN hlp).1
      have oD := bt9 _ _ (s8 _ _ (bt7 _ _ (bt6 _ _ o4 nD.1) nD.1)) nD.1
      have two : g2 = 0 ∨ g2 = 1 := by omega
      have fin : ∀ z : Int, ∃ acc, H9 D = some (.lst acc) ∧ acc.length < PySem.sizeLine ∧ (fun H' => Bd Pt b cb H' ∧ ∃ zs : List Int, zs.length = j + 1 ∧ H' D = some (.lst (zs.map V.int))) (upd H9 D (.lst (acc ++ [.int z]))) := fun z =>
        ⟨_, oD, small1000 (by rw [List.length_map]; omega), bd9.lst oD nD But.of, zs ++ [z], by rw [List.length_append, hz]; rfl, by rw [List.map_append]; exact upd_same⟩
      rcases two with rfl | rfl <;> refine U.i_ixL (SqL.of o9) rfl ?_ <;> exact fin _
    · rintro H4 ⟨bd4, zs, hz, o4⟩
      match zs, hz with
      | [z0, z1, z2, z3], _ =>
        walk_at "rq"
        exact rest1 _ _ ⟨D, z0, z1, z2, z3, rfl, o4, bd4, nD⟩
  case rest1 =>
  rintro σ' H4 ⟨l, z0, z1, z2, z3, rfl, ol, bd4, nl⟩
  clear bd3 bd1
  with_reducible refine U.i_seq ?_
  walk_at "rq"
  refine ⟨b, cb, rfl, bd4.bag, fun n H5 hn hb5 bt5 => ?_⟩
  have bd5 := bd4.but hb5 bt5
  have ol5 := bt5 _ _ ol nl.1
  have sr := FM.size_rng hn
  walk_at "rq"
  with_reducible refine U.i_seq ?_
  walk_at "rq"
  refine ⟨z0, z1, z2, z3, n, rfl, by omega, ?_⟩
  walk_at "rq"
  with_reducible refine U.i_seq ?_
  walk_at "rq"
  refine ⟨z0, z1, z2, z3, n, rfl, fun _ H6 s6 => ?_, fun h => absurd hn h⟩
  have bd6 := bd5.same s6
  have ol6 := s6 _ _ ol5
  walk_at "rq"
  refine ⟨_, _, rfl, .int _, fun H7 s7 => ?_⟩
  have bd7 := bd6.same s7
  have ol7 := s7 _ _ ol6
  walk_at "rq"
  refine U.iteF' ?_
  refine U.i_next ?_
  with_reducible refine U.i_seq ?_
  walk_at "rq"
  refine ⟨z0, z1, z2, z3, 16, rfl, by decide, ?_⟩
  walk_at "rq"
  with_reducible refine U.i_seq ?_
  walk_at "rq"
  refine ⟨z0, z1, z2, z3, 16, rfl, fun _ H8 s8 => ?_, fun h => absurd (by decide) h⟩
  have bd8 := bd7.same s8
  walk_at "rq"
  refine ⟨_, _, rfl, .int _, fun H9 s9 => ?_⟩
  have bd9 := bd8.same s9
  walk_at "rq"
  refine U.iteF' ?_
  refine U.i_next ?_
  walk_at "rq"
  refine why_lam bd9.tab (fun v wd G => v = .non ∧ wd = "BadSize" ∧ Bd Pt b cb G) (fun v wd G1 G2 ⟨e1, e2, e4⟩ s => ⟨e1, e2, e4.same s⟩) (fun Hm E1 Q1 em tbm hE hQ => ?_) ?_
  · have bdm := bd9.ext em tbm
    walk_at "rq"
    rename_i lp hlp Hn sn on
    have bdn := bdm.same sn
    refine spPull.go bdn.bag (by decide) (by decide) (fun g0 Ho p0 p1 hbo bto => ?_)
    have bdo := bdn.but hbo bto
    have oo := bto _ _ on (bdm.bag.neN hlp).1
    have four : g0 = 0 ∨ g0 = 1 ∨ g0 = 2 ∨ g0 = 3 := by omega
    have fin : ∀ m : Int, m ∉ FM.sizes → spDealt A [.int 0, .int 0, .int 1, .int 0, .int m] Ho Q1 E1 := fun m hm => ⟨0, 0, 1, 0, m, rfl, fun h => absurd h hm, fun _ Hp sp => hE _ _ _ kBS ⟨rfl, rfl, bdo.same sp⟩⟩
    rcases four with rfl | rfl | rfl | rfl <;> refine U.i_ixL (SqL.of oo) rfl ?_ <;> walk_at "rq" <;> exact fin _ (by decide)
  rintro q1 y1 y2 H10 ⟨y3, y4, bd10⟩ oq1
  rw [y3, y4] at oq1
  walk_at "rq"
  refine U.i_ixT (SqT.of oq1) rfl ?_
  walk_at "rq"
  refine ⟨rfl, ?_⟩
  refine U.i_bl ?_
  refine U.itedn (fun h => absurd rfl h) (fun _ => ?_)
  refine U.i_next ?_
  exact ⟨_, _, _, _, _, rfl, bd10⟩
end
end Lw


set_option Elab.async false
set_option linter.all false
set_option maxRecDepth 100000
set_option maxHeartbeats 4000000
/-! ### own steps (local) -/
local macro_rules | `(tactic| walk_at "hp") => `(tactic| first
  | assumption
  | exact L2.upd_same
  | ((with_reducible refine U.upd_new ?_ ?_); (focus (first | assumption | done)); walk_at "hp")
  | ((with_reducible refine U.upd_ne'' ?_ ?_); (focus (first | assumption | (apply Ne.symm; assumption))); walk_at "hp")
  | ((with_reducible refine' U.Same.get ?hx ?hy); (case hx => assumption); (case hy => walk_at "hp"))
  | ((with_reducible refine' U.ExtN.lst ?hx ?hy); (case hx => assumption); (case hy => walk_at "hp"))
  | ((with_reducible refine' U.ExtN.tup ?hx ?hy); (case hx => assumption); (case hy => walk_at "hp"))
  | ((with_reducible refine' U.ExtN.ins ?hx ?hy); (case hx => assumption); (case hy => walk_at "hp"))
  | fail "hp")
local macro_rules | `(tactic| walk_at "lay") => `(tactic| (intro p hn; generalize hg : L2.upd _ p _ = H'; have hs := U.same_of hg hn; have ho := U.at_of hg; clear hg))
local macro_rules | `(tactic| walk_at "sz") => `(tactic| first | decide | (show _ ≤ PySem.sizeLine; rw [PySem.sizeLine_eq]; (try simp only [List.length_cons, List.length_nil, List.length_map]); omega))
local macro_rules | `(tactic| walk_at "ref'") => `(tactic| skip)
local macro_rules | `(tactic| walk_at "rd1") => `(tactic| first
  | (with_reducible refine' U.i_seq ?_)
  | (with_reducible refine' U.i_asg ?_)
  | (with_reducible refine' U.i_ret ?_)
  | (with_reducible refine' U.i_ifS ?_)
  | (with_reducible refine' U.i_drop ?_)
  | ((with_reducible refine' U.i_var ?hx ?_); (case hx => rfl))
  | (with_reducible refine' U.i_c ?_)
  | (with_reducible refine' U.i_op ?_)
  | (with_reducible refine' U.i_un ?_)
  | (with_reducible refine' U.i_name ?_)
  | (with_reducible refine' U.i_gsub ?_)
  | (with_reducible refine' U.i_test ?_)
  | (with_reducible refine' U.i_tB ?_)
  | (with_reducible refine' U.i_bl ?_)
  | (with_reducible refine' U.i_not ?_)
  | (with_reducible refine' U.i_nil ?_)
  | (with_reducible refine' U.i_cons ?_)
  | (with_reducible refine' U.i_cb ?_)
  | (with_reducible refine' U.i_call ?_)
  | (with_reducible refine' U.i_fld ?_)
  | ((with_reducible refine' U.i_fld' ?hx ?hy ?hz ?hw ?_); (case hx => walk_at "hp"); (case hy => assumption); (case hz => assumption); (case hw => rfl))
  | (with_reducible refine' U.i_meth ?_)
  | ((with_reducible refine' U.i_meth' ?hx ?hy ?_); (case hx => walk_at "hp"); (case hy => rfl))
  | (with_reducible refine' U.i_add ?_)
  | (with_reducible refine' U.i_sub ?_)
  | ((with_reducible refine' U.i_mul ?hx ?_); (case hx => (first | (left; constructor <;> omega) | (right; constructor <;> omega))))
  | ((with_reducible refine' U.i_mod ?hx ?_); (case hx => omega))
  | ((with_reducible refine' U.i_fdiv ?hx ?_); (case hx => (constructor <;> omega)))
  | ((with_reducible refine' U.i_pow ?hx ?_); (case hx => (refine ⟨?_, ?_, ?_⟩ <;> decide)))
  | (with_reducible refine' U.i_lt ?_)
  | (with_reducible refine' U.i_le ?_)
  | (with_reducible refine' U.i_gt ?_)
  | (with_reducible refine' U.i_ge ?_)
  | (with_reducible refine' U.i_eqI ?_)
  | (with_reducible refine' U.i_neI ?_)
  | (with_reducible refine' U.i_rU ?_)
  | (with_reducible refine' U.i_abs ?_)
  | (with_reducible refine' U.i_callN ?_)
  | ((with_reducible refine' U.i_lens ?hx ?hy ?_); (case hx => rfl); (case hy => rfl))
  | ((with_reducible refine' U.i_ixL ?hx ?hy ?_); (case hx => exact L2.SqL.of (by walk_at "hp")); (case hy => rfl))
  | ((with_reducible refine' U.i_lenL ?hx ?_); (case hx => exact L2.SqL.of (by walk_at "hp")))
  | ((with_reducible refine' U.i_setL ?hx ?hy ?_); (case hx => walk_at "hp"); (case hy => rfl))
  | (with_reducible refine' U.i_augS ?_)
  | ((with_reducible refine' U.i_aug ?hx ?_); (case hx => rfl))
  | (with_reducible refine' U.i_ipI ?_)
  | ((with_reducible refine' U.i_ipMul ?hx ?_); (case hx => (first | (left; constructor <;> omega) | (right; constructor <;> omega))))
  | ((with_reducible refine' U.i_gtup ?hx ?hy ?_); (case hx => exact L2.SqT.of (by walk_at "hp")); (case hy => rfl))
  | (with_reducible refine' U.i_gcons ?_)
  | (with_reducible refine' U.i_gnil ?_)
  | ((with_reducible refine' U.i_divmod ?hx ?_); (case hx => (constructor <;> omega)); walk_at "lay")
  | (with_reducible refine' U.i_tup ?_)
  | (with_reducible refine' U.i_lst ?_)
  | ((with_reducible refine' U.lay_and ?hx ?_); (case hx => walk_at "sz"); walk_at "lay")
  | (with_reducible refine' U.i_sl ?_)
  | (with_reducible refine' U.i_part ?_)
  | (with_reducible refine' U.i_part' ?_)
  | (with_reducible refine' U.i_nopart ?_)
  | ((with_reducible refine' U.i_slL ?hx ?_); (case hx => exact L2.SqL.of (by walk_at "hp")); walk_at "lay")
  | (with_reducible refine' U.i_bm ?_)
  | ((with_reducible refine' U.i_bm' ?hx ?_); (case hx => walk_at "hp"))
  | ((with_reducible refine' U.i_append ?hx ?hy ?_); (case hx => walk_at "hp"); (case hy => walk_at "szl"))
  | ((with_reducible refine' U.i_chLL ?hx ?hy ?_); (case hx => rfl); (case hy => rfl))
  | (with_reducible refine' U.i_chain ?_)
  | (with_reducible refine' U.i_rng1 ?_)
  | ((with_reducible refine' U.i_rng1' ?hx ?hy ?_); (case hx => omega); (case hy => omega))
  | (with_reducible refine' U.i_rng2 ?_)
  | ((with_reducible refine' U.i_rng2' ?hx ?_); (case hx => (refine ⟨?_, ?_, ?_, ?_⟩ <;> omega)))
  | (with_reducible refine' U.i_rng3 ?_)
  | (with_reducible refine' U.i_enum ?_)
  | ((with_reducible refine' U.i_enum' ?hx ?_); (case hx => exact L2.SqL.of (by walk_at "hp")))
  | (with_reducible refine' U.i_enumT ?_)
  | ((with_reducible refine' U.i_enumT' ?hx ?_); (case hx => exact L2.SqT.of (by walk_at "hp")))
  | (with_reducible refine' U.i_rev ?_)
  | ((with_reducible refine' U.i_rev' ?hx ?_); (case hx => exact L2.SqL.of (by walk_at "hp")))
  | (with_reducible refine' U.i_plist ?_)
  | ((with_reducible refine' U.i_plist' ?hx ?_); (case hx => exact L2.SqL.of (by walk_at "hp")))
  | (with_reducible refine' U.i_for ?_)
  | (with_reducible refine' U.i_sfld ?_)
  | ((with_reducible refine' U.i_sfld' ?hx ?hy ?hz ?hw ?_); (case hx => walk_at "hp"); (case hy => assumption); (case hz => assumption); (case hw => exact Nat.le_of_ble_eq_true rfl))
  | (with_reducible refine' U.i_lc ?_)
  | (with_reducible refine' U.i_par3 ?_)
  | (with_reducible refine' U.i_par3' ?_)
  | (with_reducible refine' U.i_par ?_)
  | (with_reducible refine' U.i_par' ?_)
  | (with_reducible refine' U.i_lrg ?_)
  | (with_reducible refine' U.i_rg1 ?_)
  | (with_reducible refine' U.i_rg1' ?_)
  | (with_reducible refine' U.i_pl ?_)
  | ((with_reducible refine' U.i_pl' ?hx ?hy ?_); (case hx => walk_at "hp"); (case hy => exact Nat.le_of_ble_eq_true rfl))
  | (with_reducible refine' U.i_rAdd ?_)
  | ((with_reducible refine' U.i_listOf ?hx ?_); (case hx => exact L2.SqL.of (by walk_at "hp")); walk_at "lay")
  | (with_reducible refine' U.i_intB ?_)
  | (with_reducible refine' U.i_wget ?_)
  | (with_reducible refine' U.i_yes ?_)
  | (with_reducible refine' L2.iteT ?_)
  | (with_reducible refine' U.i_next ?_)
  | fail "rd1")
local macro_rules | `(tactic| walk_at "szl") => `(tactic| first | decide | (refine L2.small1000 ?_; (try simp only [List.length_cons, List.length_nil, List.length_map]); omega))
local macro_rules | `(tactic| walk_at "rd") => `(tactic| (repeat walk_at "rd1"))
local macro_rules | `(tactic| walk_at "ro") => `(tactic| (refine' U.i_or ?_; walk_at "rd"))
local macro_rules | `(tactic| walk_at "ra") => `(tactic| (refine' U.i_pt ?_; walk_at "rd"))
local macro_rules | `(tactic| walk_at "gd") => `(tactic| (repeat (first | walk_at "rd1" | (with_reducible refine' U.i_andV ?_))))

namespace Lw
open PySem L2 U LamX
theorem mkT {P : Program} {w : World} {K : PySem.W.Frag} {h : Heap} {mg : Str → Option Value} (X : K.In h) (G : h.Ns mainGlobals mg)
    {f5 f8 f11 aBadSize aSIZES aBASES ar4 ar8 ar9 ar16 aRULES f26 aField f37 t42 f43 aBadNumber aBadRow aBadName aBadLine aBadHearers aBadLoss aBadPlan aBadDeed aBadText aRinged aShort aNarrow aHeavy aUnsolved aNoHouse aNoLine aTaken aFull aInUse aTold aNothingLeft aNoShare aMingleError aMissing aBusy f74 f77 f85 f88 f91 f95 f98 kD100 : Addr}
    {oc7 dc7 pm7 cd7 ct7 kV7 oc10 dc10 pm10 cd10 ct10 kV10 oc13 dc13 pm13 cd13 ct13 kV13 oc28 dc28 pm28 cd28 ct28 kV28 oc42 dc42 pm42 cd42 ct42 kV42 oc46 dc46 pm46 cd46 ct46 kV46 oc76 dc76 pm76 cd76 ct76 kV76 oc79 dc79 pm79 cd79 ct79 kV79 oc87 dc87 pm87 cd87 ct87 kV87 oc90 dc90 pm90 cd90 ct90 kV90 oc93 dc93 pm93 cd93 ct93 kV93 vg94 oc97 dc97 pm97 cd97 ct97 kV97 oc100 dc100 pm100 cd100 ct100 ku100_0 : Value}
    {od7 an7 od10 an10 od13 an13 od28 an28 od42 an42 od46 an46 od76 an76 od79 an79 od87 an87 od90 an90 od93 an93 od97 an97 od100 an100 : Option Addr}
    {sl7 sl10 sl13 sl28 sl42 sl46 sl76 sl79 sl87 sl90 sl93 sl97 sl100 : Array (Option Value)}
    {olt17 olt19 olt21 olt22 olt23 olt24 olt25 o42 : Obj}
    (z1 : PySem.W.nsIn K mainGlobals "len" = some none)
    (z2 : PySem.W.nsIn K mainGlobals "abs" = some none)
    (z3 : PySem.W.nsIn K mainGlobals "list" = some none)
    (z4 : PySem.W.nsIn K mainGlobals "int" = some none)
    (a6 : PySem.W.nsIn K mainGlobals "_law_bag" = some (some (.ref f5)))
    (l7 : K.lookup f5 = some ⟨oc7, od7, .func (PySem.W.fnOf "_law_bag" "_law_bag" (defArgs (top 41)) (defBody (top 41)) (defScope (top 41)) .none kV7 dc7 pm7 an7 cd7 ct7), sl7⟩)
    (c7 : PySem.W.codeIn K cd7 "_law_bag" = true)
    (k7 : PySem.W.keepIn K (.ref f5) = true)
    (a9 : PySem.W.nsIn K mainGlobals "_law_pull" = some (some (.ref f8)))
    (l10 : K.lookup f8 = some ⟨oc10, od10, .func (PySem.W.fnOf "_law_pull" "_law_pull" (defArgs (top 44)) (defBody (top 44)) (defScope (top 44)) .none kV10 dc10 pm10 an10 cd10 ct10), sl10⟩)
    (c10 : PySem.W.codeIn K cd10 "_law_pull" = true)
    (k10 : PySem.W.keepIn K (.ref f8) = true)
    (a12 : PySem.W.nsIn K mainGlobals "_law_size" = some (some (.ref f11)))
    (l13 : K.lookup f11 = some ⟨oc13, od13, .func (PySem.W.fnOf "_law_size" "_law_size" (defArgs (top 45)) (defBody (top 45)) (defScope (top 45)) .none kV13 dc13 pm13 an13 cd13 ct13), sl13⟩)
    (c13 : PySem.W.codeIn K cd13 "_law_size" = true)
    (k13 : PySem.W.keepIn K (.ref f11) = true)
    (z14 : PySem.W.nsIn K mainGlobals "range" = some none)
    (g15 : PySem.W.nsIn K mainGlobals "BadSize" = some (some (.ref aBadSize)))
    (k15 : PySem.W.keepIn K (.ref aBadSize) = true)
    (q15 : PySem.W.excIn K aBadSize [.type "ValueError", .type "Exception", .type "BaseException", .type "object"] "ValueError.__new__" = true)
    (b15 : PySem.W.subIn K (.ref aBadSize) (.type "BaseException") = some true)
    (t15 : PySem.W.typeIn K (.ref aBadSize) = some (.type "type"))
    (g16 : PySem.W.nsIn K mainGlobals "SIZES" = some (some (.ref aSIZES)))
    (lt17 : K.lookup aSIZES = some olt17)
    (dlt17 : U.TupO olt17 [V.int 2, V.int 3, V.int 4, V.int 5, V.int 7, V.int 8, V.int 9, V.int 11, V.int 13, V.int 16])
    (g18 : PySem.W.nsIn K mainGlobals "BASES" = some (some (.ref aBASES)))
    (lt19 : K.lookup aBASES = some olt19)
    (dlt19 : U.TupO olt19 [V.int 2, V.int 3, V.int 5, V.int 7, V.int 11, V.int 13])
    (g20 : PySem.W.nsIn K mainGlobals "RULES" = some (some (.ref aRULES)))
    (lt21 : K.lookup aRULES = some olt21)
    (dlt21 : U.WDO olt21 [((Sum.inl 4 : Key), V.ref ar4), ((Sum.inl 8 : Key), V.ref ar8), ((Sum.inl 9 : Key), V.ref ar9), ((Sum.inl 16 : Key), V.ref ar16)])
    (lt22 : K.lookup ar4 = some olt22)
    (dlt22 : U.TupO olt22 [V.int 1, V.int 1])
    (lt23 : K.lookup ar8 = some olt23)
    (dlt23 : U.TupO olt23 [V.int 1, V.int 1, V.int 0])
    (lt24 : K.lookup ar9 = some olt24)
    (dlt24 : U.TupO olt24 [V.int 2, V.int 0])
    (lt25 : K.lookup ar16 = some olt25)
    (dlt25 : U.TupO olt25 [V.int 1, V.int 1, V.int 0, V.int 0])
    (a27 : PySem.W.nsIn K mainGlobals "grown" = some (some (.ref f26)))
    (l28 : K.lookup f26 = some ⟨oc28, od28, .func (PySem.W.fnOf "grown" "grown" (defArgs (top 33)) (defBody (top 33)) (defScope (top 33)) .none kV28 dc28 pm28 an28 cd28 ct28), sl28⟩)
    (c28 : PySem.W.codeIn K cd28 "grown" = true)
    (k28 : PySem.W.keepIn K (.ref f26) = true)
    (g29 : PySem.W.nsIn K mainGlobals "Field" = some (some (.ref aField)))
    (pg30 : PySem.W.plainGet K aField Str.empty = true)
    (hd31 : PySem.W.hasDictIn K aField = true)
    (po32 : PySem.W.plainOver K aField = true)
    (sa33 : PySem.W.findIn K (.ref aField) "__setattr__" = some (some (.builtin "object.__setattr__")))
    (na34 : PySem.W.findIn K (.ref aField) "many" = some none)
    (na35 : PySem.W.findIn K (.ref aField) "prime" = some none)
    (na36 : PySem.W.findIn K (.ref aField) "places" = some none)
    (a38 : PySem.W.findIn K (.ref aField) "__init__" = some (some (.ref f37)))
    (i39 : PySem.W.isFn K (.ref f37) = true)
    (mk40 : PySem.W.makesIn K aField = true)
    (kc41 : PySem.W.keepIn K (.ref aField) = true)
    (l42 : K.lookup f37 = some ⟨oc42, od42, .func (PySem.W.fnOf "__init__" "Field.__init__" (defArgs (inClass (top 34) 0)) (defBody (inClass (top 34) 0)) (defScope (inClass (top 34) 0)) (.ref t42) kV42 dc42 pm42 an42 cd42 ct42), sl42⟩)
    (c42 : PySem.W.codeIn K cd42 "Field.__init__" = true)
    (k42 : PySem.W.keepIn K (.ref f37) = true)
    (lt42 : K.lookup t42 = some o42)
    (dt42 : U.DfT o42 [V.int 16])
    (a44 : PySem.W.findIn K (.ref aField) "size" = some (some (.ref f43)))
    (i45 : PySem.W.isFn K (.ref f43) = true)
    (l46 : K.lookup f43 = some ⟨oc46, od46, .func (PySem.W.fnOf "size" "Field.size" (defArgs (inClass (top 34) 5)) (defBody (inClass (top 34) 5)) (defScope (inClass (top 34) 5)) .none kV46 dc46 pm46 an46 cd46 ct46), sl46⟩)
    (c46 : PySem.W.codeIn K cd46 "Field.size" = true)
    (k46 : PySem.W.keepIn K (.ref f43) = true)
    (z47 : PySem.W.nsIn K mainGlobals "isinstance" = some none)
    (g48 : PySem.W.nsIn K mainGlobals "BadSize" = some (some (.ref aBadSize)))
    (g49 : PySem.W.nsIn K mainGlobals "BadNumber" = some (some (.ref aBadNumber)))
    (g50 : PySem.W.nsIn K mainGlobals "BadRow" = some (some (.ref aBadRow)))
    (g51 : PySem.W.nsIn K mainGlobals "BadName" = some (some (.ref aBadName)))
    (g52 : PySem.W.nsIn K mainGlobals "BadLine" = some (some (.ref aBadLine)))
    (g53 : PySem.W.nsIn K mainGlobals "BadHearers" = some (some (.ref aBadHearers)))
    (g54 : PySem.W.nsIn K mainGlobals "BadLoss" = some (some (.ref aBadLoss)))
    (g55 : PySem.W.nsIn K mainGlobals "BadPlan" = some (some (.ref aBadPlan)))
    (g56 : PySem.W.nsIn K mainGlobals "BadDeed" = some (some (.ref aBadDeed)))
    (g57 : PySem.W.nsIn K mainGlobals "BadText" = some (some (.ref aBadText)))
    (g58 : PySem.W.nsIn K mainGlobals "Ringed" = some (some (.ref aRinged)))
    (g59 : PySem.W.nsIn K mainGlobals "Short" = some (some (.ref aShort)))
    (g60 : PySem.W.nsIn K mainGlobals "Narrow" = some (some (.ref aNarrow)))
    (g61 : PySem.W.nsIn K mainGlobals "Heavy" = some (some (.ref aHeavy)))
    (g62 : PySem.W.nsIn K mainGlobals "Unsolved" = some (some (.ref aUnsolved)))
    (g63 : PySem.W.nsIn K mainGlobals "NoHouse" = some (some (.ref aNoHouse)))
    (g64 : PySem.W.nsIn K mainGlobals "NoLine" = some (some (.ref aNoLine)))
    (g65 : PySem.W.nsIn K mainGlobals "Taken" = some (some (.ref aTaken)))
    (g66 : PySem.W.nsIn K mainGlobals "Full" = some (some (.ref aFull)))
    (g67 : PySem.W.nsIn K mainGlobals "InUse" = some (some (.ref aInUse)))
    (g68 : PySem.W.nsIn K mainGlobals "Told" = some (some (.ref aTold)))
    (g69 : PySem.W.nsIn K mainGlobals "NothingLeft" = some (some (.ref aNothingLeft)))
    (g70 : PySem.W.nsIn K mainGlobals "NoShare" = some (some (.ref aNoShare)))
    (g71 : PySem.W.nsIn K mainGlobals "MingleError" = some (some (.ref aMingleError)))
    (g72 : PySem.W.nsIn K mainGlobals "Missing" = some (some (.ref aMissing)))
    (g73 : PySem.W.nsIn K mainGlobals "Busy" = some (some (.ref aBusy)))
    (a75 : PySem.W.nsIn K mainGlobals "_law_kind" = some (some (.ref f74)))
    (l76 : K.lookup f74 = some ⟨oc76, od76, .func (PySem.W.fnOf "_law_kind" "_law_kind" (defArgs (top 43)) (defBody (top 43)) (defScope (top 43)) .none kV76 dc76 pm76 an76 cd76 ct76), sl76⟩)
    (c76 : PySem.W.codeIn K cd76 "_law_kind" = true)
    (k76 : PySem.W.keepIn K (.ref f74) = true)
    (a78 : PySem.W.nsIn K mainGlobals "_law_why" = some (some (.ref f77)))
    (l79 : K.lookup f77 = some ⟨oc79, od79, .func (PySem.W.fnOf "_law_why" "_law_why" (defArgs (top 47)) (defBody (top 47)) (defScope (top 47)) .none kV79 dc79 pm79 an79 cd79 ct79), sl79⟩)
    (c79 : PySem.W.codeIn K cd79 "_law_why" = true)
    (k79 : PySem.W.keepIn K (.ref f77) = true)
    (z80 : PySem.W.nsIn K mainGlobals "bool" = some none)
    (z81 : PySem.W.nsIn K mainGlobals "str" = some none)
    (z82 : PySem.W.nsIn K mainGlobals "dict" = some none)
    (z83 : PySem.W.nsIn K mainGlobals "tuple" = some none)
    (z84 : PySem.W.nsIn K mainGlobals "all" = some none)
    (a86 : PySem.W.nsIn K mainGlobals "_law_whole" = some (some (.ref f85)))
    (l87 : K.lookup f85 = some ⟨oc87, od87, .func (PySem.W.fnOf "_law_whole" "_law_whole" (defArgs (top 46)) (defBody (top 46)) (defScope (top 46)) .none kV87 dc87 pm87 an87 cd87 ct87), sl87⟩)
    (c87 : PySem.W.codeIn K cd87 "_law_whole" = true)
    (k87 : PySem.W.keepIn K (.ref f85) = true)
    (a89 : PySem.W.nsIn K mainGlobals "_law_alike" = some (some (.ref f88)))
    (l90 : K.lookup f88 = some ⟨oc90, od90, .func (PySem.W.fnOf "_law_alike" "_law_alike" (defArgs (top 40)) (defBody (top 40)) (defScope (top 40)) .none kV90 dc90 pm90 an90 cd90 ct90), sl90⟩)
    (c90 : PySem.W.codeIn K cd90 "_law_alike" = true)
    (k90 : PySem.W.keepIn K (.ref f88) = true)
    (a92 : PySem.W.nsIn K mainGlobals "_law_dealt" = some (some (.ref f91)))
    (l93 : K.lookup f91 = some ⟨oc93, od93, .func (PySem.W.fnOf "_law_dealt" "_law_dealt" (defArgs (top 42)) (defBody (top 42)) (defScope (top 42)) .none kV93 dc93 pm93 an93 cd93 ct93), sl93⟩)
    (c93 : PySem.W.codeIn K cd93 "_law_dealt" = true)
    (k93 : PySem.W.keepIn K (.ref f91) = true)
    (g94 : PySem.W.nsIn K mainGlobals "MODULUS" = some (some vg94))
    (rg94 : RelV (.int 2147483647) vg94)
    (a96 : PySem.W.nsIn K mainGlobals "share_dealt" = some (some (.ref f95)))
    (l97 : K.lookup f95 = some ⟨oc97, od97, .func (PySem.W.fnOf "share_dealt" "share_dealt" (defArgs (top 37)) (defBody (top 37)) (defScope (top 37)) .none kV97 dc97 pm97 an97 cd97 ct97), sl97⟩)
    (c97 : PySem.W.codeIn K cd97 "share_dealt" = true)
    (k97 : PySem.W.keepIn K (.ref f95) = true)
    (a99 : PySem.W.nsIn K mainGlobals "dealt" = some (some (.ref f98)))
    (l100 : K.lookup f98 = some ⟨oc100, od100, .func (PySem.W.fnOf "dealt" "dealt" (defArgs (top 38)) (defBody (top 38)) (defScope (top 38)) .none (.ref kD100) dc100 pm100 an100 cd100 ct100), sl100⟩)
    (c100 : PySem.W.codeIn K cd100 "dealt" = true)
    (k100 : PySem.W.keepIn K (.ref f98) = true)
    (kh100_0 : PySem.W.nsIn K kD100 "size" = some (some ku100_0))
    (kr100_0 : RelV (V.int 16) ku100_0)
    : Txt P w K mg ⟨aBadSize, aSIZES, aBASES, ar4, ar8, ar9, ar16, aRULES, aField, aBadNumber, aBadRow, aBadName, aBadLine, aBadHearers, aBadLoss, aBadPlan, aBadDeed, aBadText, aRinged, aShort, aNarrow, aHeavy, aUnsolved, aNoHouse, aNoLine, aTaken, aFull, aInUse, aTold, aNothingLeft, aNoShare, aMingleError, aMissing, aBusy⟩ where
  len := PySem.W.mg_none_of X G z1
  abs := PySem.W.mg_none_of X G z2
  list := PySem.W.mg_none_of X G z3
  int := PySem.W.mg_none_of X G z4
  d_law_bag := (by have F : U.FunA K "_law_bag" "_law_bag" (top 41) [] [] f5 _ := ⟨⟨_, _, _, _, _, _, _, _, _, _, rfl, l7, c7, .inl ⟨rfl, rfl⟩, .inl rfl⟩, k7⟩; exact ⟨f5, _, F, PySem.W.mg_of X G a6, (U.bd0 F fun _ _ _ _ _ _ us hl => match us, hl with | [_], _ => rfl)⟩)
  d_law_pull := (by have F : U.FunA K "_law_pull" "_law_pull" (top 44) [] [] f8 _ := ⟨⟨_, _, _, _, _, _, _, _, _, _, rfl, l10, c10, .inl ⟨rfl, rfl⟩, .inl rfl⟩, k10⟩; exact ⟨f8, _, F, PySem.W.mg_of X G a9, (U.bd0 F fun _ _ _ _ _ _ us hl => match us, hl with | [_, _], _ => rfl)⟩)
  d_law_size := (by have F : U.FunA K "_law_size" "_law_size" (top 45) [] [] f11 _ := ⟨⟨_, _, _, _, _, _, _, _, _, _, rfl, l13, c13, .inl ⟨rfl, rfl⟩, .inl rfl⟩, k13⟩; exact ⟨f11, _, F, PySem.W.mg_of X G a12, (U.bd0 F fun _ _ _ _ _ _ us hl => match us, hl with | [_], _ => rfl)⟩)
  range := PySem.W.mg_none_of X G z14
  e_BadSize := ⟨PySem.W.mg_of X G g15, k15, ⟨_, _, _, _, PySem.F.excBase_ValueError, q15⟩, b15, t15⟩
  g_SIZES := PySem.W.mg_of X G g16
  s_SIZES := fun H => U.sqT_of lt17 dlt17
  g_BASES := PySem.W.mg_of X G g18
  s_BASES := fun H => U.sqT_of lt19 dlt19
  g_RULES := PySem.W.mg_of X G g20
  w_RULES := U.wd_of lt21 dlt21
  s_r4 := fun H => U.sqT_of lt22 dlt22
  s_r8 := fun H => U.sqT_of lt23 dlt23
  s_r9 := fun H => U.sqT_of lt24 dlt24
  s_r16 := fun H => U.sqT_of lt25 dlt25
  d_grown := (by have F : U.FunA K "grown" "grown" (top 33) [] [] f26 _ := ⟨⟨_, _, _, _, _, _, _, _, _, _, rfl, l28, c28, .inl ⟨rfl, rfl⟩, .inl rfl⟩, k28⟩; exact ⟨f26, _, F, PySem.W.mg_of X G a27, (U.bd0 F fun _ _ _ _ _ _ us hl => match us, hl with | [_, _], _ => rfl)⟩)
  c_Field := ⟨pg30, hd31, po32, sa33⟩
  na_Field_many := na34
  na_Field_prime := na35
  na_Field_places := na36
  n_Field := (by have F : U.FunA K "__init__" "Field.__init__" (inClass (top 34) 0) [V.int 16] [] f37 _ := ⟨⟨_, _, _, _, _, _, _, _, _, _, rfl, l42, c42, U.dfl_of lt42 dt42, .inl rfl⟩, k42⟩; exact ⟨f37, _, F, ⟨mk40, a38, i39, kc41⟩, PySem.W.mg_of X G g29, (U.bd1 F (by decide) (fun _ _ _ _ _ _ _ us its hl hm => match us, its, hl, hm with | [_], [_], _, _ => ⟨_, rfl, rfl⟩) (fun _ _ _ _ _ _ _ us its hl hm => match us, its, hl, hm with | [_, _], [_], _, _ => ⟨_, rfl, rfl⟩))⟩)
  m_Field_size := (by have F : U.FunA K "size" "Field.size" (inClass (top 34) 5) [] [] f43 _ := ⟨⟨_, _, _, _, _, _, _, _, _, _, rfl, l46, c46, .inl ⟨rfl, rfl⟩, .inl rfl⟩, k46⟩; exact ⟨f43, _, F, ⟨pg30, hd31, po32, sa33⟩, ⟨a44, i45, k46⟩, (U.bd0 F fun _ _ _ _ _ _ us hl => match us, hl with | [_], _ => rfl)⟩)
  isinstance := PySem.W.mg_none_of X G z47
  gx_BadSize := PySem.W.mg_of X G g48
  gx_BadNumber := PySem.W.mg_of X G g49
  gx_BadRow := PySem.W.mg_of X G g50
  gx_BadName := PySem.W.mg_of X G g51
  gx_BadLine := PySem.W.mg_of X G g52
  gx_BadHearers := PySem.W.mg_of X G g53
  gx_BadLoss := PySem.W.mg_of X G g54
  gx_BadPlan := PySem.W.mg_of X G g55
  gx_BadDeed := PySem.W.mg_of X G g56
  gx_BadText := PySem.W.mg_of X G g57
  gx_Ringed := PySem.W.mg_of X G g58
  gx_Short := PySem.W.mg_of X G g59
  gx_Narrow := PySem.W.mg_of X G g60
  gx_Heavy := PySem.W.mg_of X G g61
  gx_Unsolved := PySem.W.mg_of X G g62
  gx_NoHouse := PySem.W.mg_of X G g63
  gx_NoLine := PySem.W.mg_of X G g64
  gx_Taken := PySem.W.mg_of X G g65
  gx_Full := PySem.W.mg_of X G g66
  gx_InUse := PySem.W.mg_of X G g67
  gx_Told := PySem.W.mg_of X G g68
  gx_NothingLeft := PySem.W.mg_of X G g69
  gx_NoShare := PySem.W.mg_of X G g70
  gx_MingleError := PySem.W.mg_of X G g71
  gx_Missing := PySem.W.mg_of X G g72
  gx_Busy := PySem.W.mg_of X G g73
  d_law_kind := (by have F : U.FunA K "_law_kind" "_law_kind" (top 43) [] [] f74 _ := ⟨⟨_, _, _, _, _, _, _, _, _, _, rfl, l76, c76, .inl ⟨rfl, rfl⟩, .inl rfl⟩, k76⟩; exact ⟨f74, _, F, PySem.W.mg_of X G a75, (U.bd0 F fun _ _ _ _ _ _ us hl => match us, hl with | [_], _ => rfl)⟩)
  d_law_why := (by have F : U.FunA K "_law_why" "_law_why" (top 47) [] [] f77 _ := ⟨⟨_, _, _, _, _, _, _, _, _, _, rfl, l79, c79, .inl ⟨rfl, rfl⟩, .inl rfl⟩, k79⟩; exact ⟨f77, _, F, PySem.W.mg_of X G a78, (U.bd0 F fun _ _ _ _ _ _ us hl => match us, hl with | [_], _ => rfl)⟩)
  bool := PySem.W.mg_none_of X G z80
  str := PySem.W.mg_none_of X G z81
  dict := PySem.W.mg_none_of X G z82
  tuple := PySem.W.mg_none_of X G z83
  all := PySem.W.mg_none_of X G z84
  d_law_whole := (by have F : U.FunA K "_law_whole" "_law_whole" (top 46) [] [] f85 _ := ⟨⟨_, _, _, _, _, _, _, _, _, _, rfl, l87, c87, .inl ⟨rfl, rfl⟩, .inl rfl⟩, k87⟩; exact ⟨f85, _, F, PySem.W.mg_of X G a86, (U.bd0 F fun _ _ _ _ _ _ us hl => match us, hl with | [_], _ => rfl)⟩)
  d_law_alike := (by have F : U.FunA K "_law_alike" "_law_alike" (top 40) [] [] f88 _ := ⟨⟨_, _, _, _, _, _, _, _, _, _, rfl, l90, c90, .inl ⟨rfl, rfl⟩, .inl rfl⟩, k90⟩; exact ⟨f88, _, F, PySem.W.mg_of X G a89, (U.bd0 F fun _ _ _ _ _ _ us hl => match us, hl with | [_, _], _ => rfl)⟩)
  d_law_dealt := (by have F : U.FunA K "_law_dealt" "_law_dealt" (top 42) [] [] f91 _ := ⟨⟨_, _, _, _, _, _, _, _, _, _, rfl, l93, c93, .inl ⟨rfl, rfl⟩, .inl rfl⟩, k93⟩; exact ⟨f91, _, F, PySem.W.mg_of X G a92, (U.bd0 F fun _ _ _ _ _ _ us hl => match us, hl with | [_, _, _, _, _], _ => rfl)⟩)
  g_MODULUS := ⟨_, PySem.W.mg_of X G g94, rg94⟩
  d_share_dealt := (by have F : U.FunA K "share_dealt" "share_dealt" (top 37) [] [] f95 _ := ⟨⟨_, _, _, _, _, _, _, _, _, _, rfl, l97, c97, .inl ⟨rfl, rfl⟩, .inl rfl⟩, k97⟩; exact ⟨f95, _, F, PySem.W.mg_of X G a96, (U.bd0 F fun _ _ _ _ _ _ us hl => match us, hl with | [_, _, _, _, _], _ => rfl)⟩)
  d_dealt := (by have F : U.FunA K "dealt" "dealt" (top 38) [] [("size", V.int 16)] f98 _ := ⟨⟨_, _, _, _, _, _, _, _, _, _, rfl, l100, c100, .inl ⟨rfl, rfl⟩, .inr ⟨_, rfl, (List.forall_mem_cons.mpr ⟨⟨_, kh100_0, kr100_0⟩, (fun _ m => nomatch m)⟩)⟩⟩, k100⟩; exact ⟨f98, _, F, PySem.W.mg_of X G a99, F.binds0 4 (by decide) (by decide) (fun D doc pm an cdv ct us ks l1 l2 => match us, ks, l1, l2 with | [_, _, _, _], [_], _, _ => ⟨_, _, _, _, _, _, rfl, rfl, rfl⟩), U.bnAll0 F (by decide) (fun vs zs => vs ++ zs) (fun a b => a.append b) (fun D doc pm an cdv ct us ws l1 l2 => match us, ws, l1, l2 with | [_, _, _, _], [_], _, _ => rfl)⟩)

theorem fin {P : Program} {w : World} {K : PySem.W.Frag} {h : Heap} {mg : Str → Option Value} (X : K.In h) (G : h.Ns mainGlobals mg) {fa f : Addr} (hfa : mg "law" = some (.ref fa)) {A : Ad} (T : Txt P w K mg A) (kBS : WhyOf K A A.BadSize "BadSize")
    {oc kV dc pm ct : Value} {c Pt : Addr} {od an : Option Addr} {sl : Array (Option Value)} (a : PySem.W.nsIn K mainGlobals "law" = some (some (.ref f)))
    (l : K.lookup f = some ⟨oc, od, .func (PySem.W.fnOf "law" "law" (defArgs (top 48)) (defBody (top 48)) (defScope (top 48)) .none kV dc pm an (.ref c) ct), sl⟩) (cc : PySem.W.codeIn K (.ref c) "law" = true) (k : PySem.W.keepIn K (.ref f) = true)
    (t0 : h.get? Pt = some { cls := .none, data := .fields #[] }) (t1 : K.lookup Pt = none) (t2 : PySem.W.codeHdIn K c Pt = true) :
    LamX.LawAtS' P w K (fun _ => L2N.CX P w) 8 fa h mg Pt c (spLaw K Pt) := by
  have e := hfa.symm.trans (PySem.W.mg_of X G a)
  cases e
  exact ⟨PySem.W.fnOf "law" "law" (defArgs (top 48)) (defBody (top 48)) (defScope (top 48)) .none kV dc pm an (.ref c) ct, t0, t1, PySem.W.codeHd_of_K X t2, fun s v => .of_eq rfl, fun base _ _ TB => ok_law T l cc TB kBS⟩
theorem walk {l : PySem.W.OpenLaw} {q : Program} {loose : List Str} {XP : (Str → Option Value) → Heap → Prop} {YP : World → Heap → Prop} {d : DefRec} {K : Params → PySem.W.Frag} (hn : l.most = some 63) (hdf : d.params.defaults = [])
    (hY : ∀ (w : World) (h : Heap), YP w h → (K w.params).In h)
    (F : ∀ (w : World) (mg : Str → Option Value) (fa : Addr) (h : Heap), YP w h → (K w.params).In h → h.Ns mainGlobals mg → mg d.name = some (.ref fa) →
      ∃ c Pt : Addr, LamX.LawAtS' l.prog w (K w.params) (fun _ => L2N.CX l.prog w) 8 fa h mg Pt c (spLaw (K w.params) Pt)) :
    PySem.W.WalkO q loose XP YP l.row.toRowW d [] (fun f vs => PySem.call f vs) :=
  LamX.walk_ofTs (n := 63) (k := 8) (x := "_law_script") (CX := fun w => L2N.CX l.prog w) hn (by decide) hdf ⟨rfl, by decide, by decide⟩ hY (fun w mg fa h Y KX G hmg => by
    obtain ⟨c, Pt, fd, h1, h2, h3, hb, hF⟩ := F w mg fa h Y KX G hmg
    have one : ∀ {R : Addr × Addr → Prop}, R (c, Pt) → ∀ p ∈ [(c, Pt)], R p := fun r p m => by
      cases List.mem_singleton.mp m
      exact r
    exact ⟨fd, [(c, Pt)], spLaw (K w.params) Pt, one h1, one h2, one h3, hb, fun H a ns hl _ tt hS => ⟨a, ns, rfl, hS, hl, fun p m => by
      cases List.mem_singleton.mp m
      exact LamX.TabS.nil (tt _ List.mem_cons_self), fun _ => rfl⟩, fun base b1 b2 tb => hF base b1 b2 (tb _ List.mem_cons_self)⟩)
    fun _ _ _ _ _ z => by
      obtain ⟨_, _, _, _, _, _, _, _, _, _, _, _, z⟩ := z
      exact z
end Lw
open PySem PySem.W PyProof.Rows
set_option maxRecDepth 100000 in
set_option maxHeartbeats 0 in
theorem PySem.Challenge.cw_mingleway_k41_shares_dealt_holds : PySem.Challenge.rw_mingleway_k41_shares_dealt.Holds := by
  w_on; o_law; k_head; (case hw => w_witness2)
  k_fill
  refine Lw.walk (l := PySem.Challenge.rw_mingleway_k41_shares_dealt) rfl rfl (fun w h Y => PySem.W.km_in_of Y) ?F
  case F =>
    intro w mg fa h Y KX G hmg
    refine' ⟨_, _, Lw.fin KX G hmg (Lw.mkT KX G ?z1 ?z2 ?z3 ?z4 ?a6 ?l7 ?c7 ?k7 ?a9 ?l10 ?c10 ?k10 ?a12 ?l13 ?c13 ?k13 ?z14 ?g15 ?k15 ?q15 ?b15 ?t15 ?g16 ?lt17 ?dlt17 ?g18 ?lt19 ?dlt19 ?g20 ?lt21 ?dlt21 ?lt22 ?dlt22 ?lt23 ?dlt23 ?lt24 ?dlt24 ?lt25 ?dlt25 ?a27 ?l28 ?c28 ?k28 ?g29 ?pg30 ?hd31 ?po32 ?sa33 ?na34 ?na35 ?na36 ?a38 ?i39 ?mk40 ?kc41 ?l42 ?c42 ?k42 ?lt42 ?dt42 ?a44 ?i45 ?l46 ?c46 ?k46 ?z47 ?g48 ?g49 ?g50 ?g51 ?g52 ?g53 ?g54 ?g55 ?g56 ?g57 ?g58 ?g59 ?g60 ?g61 ?g62 ?g63 ?g64 ?g65 ?g66 ?g67 ?g68 ?g69 ?g70 ?g71 ?g72 ?g73 ?a75 ?l76 ?c76 ?k76 ?a78 ?l79 ?c79 ?k79 ?z80 ?z81 ?z82 ?z83 ?z84 ?a86 ?l87 ?c87 ?k87 ?a89 ?l90 ?c90 ?k90 ?a92 ?l93 ?c93 ?k93 ?g94 ?rg94 ?a96 ?l97 ?c97 ?k97 ?a99 ?l100 ?c100 ?k100 ?kh100_0 ?kr100_0) ?kBS ?lawa ?lawl ?lawc ?lawk ?tab0 ?tab1 ?tab2⟩
    (case z1 => k_is)
    (case z2 => k_is)
    (case z3 => k_is)
    (case z4 => k_is)
    (case a6 => k_is)
    (case l7 => k_is)
    (case c7 => k_is)
    (case k7 => k_is)
    (case a9 => k_is)
    (case l10 => k_is)
    (case c10 => k_is)
    (case k10 => k_is)
    (case a12 => k_is)
    (case l13 => k_is)
    (case c13 => k_is)
    (case k13 => k_is)
    (case z14 => k_is)
    (case g15 => k_is)
    (case k15 => k_is)
    (case q15 => k_exc)
    (case b15 => k_is)
    (case t15 => k_is)
    (case g16 => k_is)
    (case lt17 => k_is)
    (case dlt17 => exact U.tupO rfl rfl (by decide) (.cons ⟨_, rfl⟩ (.cons ⟨_, rfl⟩ (.cons ⟨_, rfl⟩ (.cons ⟨_, rfl⟩ (.cons ⟨_, rfl⟩ (.cons ⟨_, rfl⟩ (.cons ⟨_, rfl⟩ (.cons ⟨_, rfl⟩ (.cons ⟨_, rfl⟩ (.cons ⟨_, rfl⟩ .nil)))))))))))
    (case g18 => k_is)
    (case lt19 => k_is)
    (case dlt19 => exact U.tupO rfl rfl (by decide) (.cons ⟨_, rfl⟩ (.cons ⟨_, rfl⟩ (.cons ⟨_, rfl⟩ (.cons ⟨_, rfl⟩ (.cons ⟨_, rfl⟩ (.cons ⟨_, rfl⟩ .nil)))))))
    (case g20 => k_is)
    (case lt21 => k_is)
    (case dlt21 => exact ⟨[(4, _, _), (8, _, _), (9, _, _), (16, _, _)], _, ⟨rfl, rfl, rfl⟩, rfl, by decide, (.cons ⟨rfl, rfl⟩ (.cons ⟨rfl, rfl⟩ (.cons ⟨rfl, rfl⟩ (.cons ⟨rfl, rfl⟩ .nil))))⟩)
    (case lt22 => k_is)
    (case dlt22 => exact U.tupO rfl rfl (by decide) (.cons ⟨_, rfl⟩ (.cons ⟨_, rfl⟩ .nil)))
    (case lt23 => k_is)
    (case dlt23 => exact U.tupO rfl rfl (by decide) (.cons ⟨_, rfl⟩ (.cons ⟨_, rfl⟩ (.cons ⟨_, rfl⟩ .nil))))
    (case lt24 => k_is)
    (case dlt24 => exact U.tupO rfl rfl (by decide) (.cons ⟨_, rfl⟩ (.cons ⟨_, rfl⟩ .nil)))
    (case lt25 => k_is)
    (case dlt25 => exact U.tupO rfl rfl (by decide) (.cons ⟨_, rfl⟩ (.cons ⟨_, rfl⟩ (.cons ⟨_, rfl⟩ (.cons ⟨_, rfl⟩ .nil)))))
    (case a27 => k_is)
    (case l28 => k_is)
    (case c28 => k_is)
    (case k28 => k_is)
    (case g29 => k_is)
    (case pg30 => k_is)
    (case hd31 => k_is)
    (case po32 => k_is)
    (case sa33 => k_is)
    (case na34 => k_is)
    (case na35 => k_is)
    (case na36 => k_is)
    (case a38 => k_is)
    (case i39 => k_is)
    (case mk40 => k_is)
    (case kc41 => k_is)
    (case l42 => k_is)
    (case c42 => k_is)
    (case k42 => k_is)
    (case lt42 => k_is)
    (case dt42 => exact U.dfT rfl (.cons ⟨_, rfl⟩ .nil) (by simp))
    (case a44 => k_is)
    (case i45 => k_is)
    (case l46 => k_is)
    (case c46 => k_is)
    (case k46 => k_is)
    (case z47 => k_is)
    (case g48 => k_is)
    (case g49 => k_is)
    (case g50 => k_is)
    (case g51 => k_is)
    (case g52 => k_is)
    (case g53 => k_is)
    (case g54 => k_is)
    (case g55 => k_is)
    (case g56 => k_is)
    (case g57 => k_is)
    (case g58 => k_is)
    (case g59 => k_is)
    (case g60 => k_is)
    (case g61 => k_is)
    (case g62 => k_is)
    (case g63 => k_is)
    (case g64 => k_is)
    (case g65 => k_is)
    (case g66 => k_is)
    (case g67 => k_is)
    (case g68 => k_is)
    (case g69 => k_is)
    (case g70 => k_is)
    (case g71 => k_is)
    (case g72 => k_is)
    (case g73 => k_is)
    (case a75 => k_is)
    (case l76 => k_is)
    (case c76 => k_is)
    (case k76 => k_is)
    (case a78 => k_is)
    (case l79 => k_is)
    (case c79 => k_is)
    (case k79 => k_is)
    (case z80 => k_is)
    (case z81 => k_is)
    (case z82 => k_is)
    (case z83 => k_is)
    (case z84 => k_is)
    (case a86 => k_is)
    (case l87 => k_is)
    (case c87 => k_is)
    (case k87 => k_is)
    (case a89 => k_is)
    (case l90 => k_is)
    (case c90 => k_is)
    (case k90 => k_is)
    (case a92 => k_is)
    (case l93 => k_is)
    (case c93 => k_is)
    (case k93 => k_is)
    (case g94 => k_is)
    (case rg94 => exact ⟨_, rfl⟩)
    (case a96 => k_is)
    (case l97 => k_is)
    (case c97 => k_is)
    (case k97 => k_is)
    (case a99 => k_is)
    (case l100 => k_is)
    (case c100 => k_is)
    (case k100 => k_is)
    (case kh100_0 => k_is)
    (case kr100_0 => exact ⟨_, rfl⟩)
    (case kBS => exact ⟨true, false, false, false, false, false, false, false, false, false, false, false, false, false, false, false, false, false, false, false, false, false, false, ⟨⟨by k_is, by k_is, by k_is, by k_is, by k_is, by k_is, by k_is, by k_is⟩, by kernel_rfl, by kernel_rfl, by kernel_rfl, by kernel_rfl, by kernel_rfl, by kernel_rfl, by kernel_rfl, by kernel_rfl, by kernel_rfl, by kernel_rfl, by kernel_rfl, by kernel_rfl, by kernel_rfl, by kernel_rfl, by kernel_rfl, by kernel_rfl, by kernel_rfl, by kernel_rfl, by kernel_rfl, by kernel_rfl, by kernel_rfl, by kernel_rfl, by kernel_rfl⟩, ⟨by kernel_rfl, by kernel_rfl, by kernel_rfl, by kernel_rfl, by kernel_rfl, by kernel_rfl⟩, by decide +kernel⟩)
    (case lawa => k_is)
    (case lawl => k_is)
    (case lawc => k_is)
    (case lawk => k_is)
    (case tab0 => exact PySem.W.km_tabs_of Y _ List.mem_cons_self)
    (case tab1 => first | k_is | rfl | decide +kernel)
    (case tab2 => first | k_is | rfl | decide +kernel)

