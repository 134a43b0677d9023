import PyProof.Rows.All
import Wide.All
import OpenK.AllK
import Wide.FinOn
import HandS.ForMost
import HandS.ForExc
import HandS.Walk
import HandS.Codes
import HandS.Conv
import HandS.SortInts
import HandS.Defaults
import HandS.Style
import HandS.Steps
import HandS.Evl
import KE.GoesMore
import KE.GoesEnum
import PySem.Challenge.RW_mingleway_k04_whole_fields_are_fields
set_option Elab.async false
set_option linter.all false
set_option maxRecDepth 100000
set_option maxHeartbeats 4000000
set_option Elab.async false
set_option linter.all false
set_option maxRecDepth 100000
set_option maxHeartbeats 4000000
/-! # U: own layer over the hand layer: readings by introduction, heaps as they grow -/
namespace U
open PySem L2
/-! ### named readings -/
def rMul : R2 := rI CMul fun i j => .int (i * j)
def rMod : R2 := rI (fun _ j => 0 < j) fun i j => .int (i % j)
def rFdiv : R2 := rI CDiv fun i j => .int (i / j)
def rPow : R2 := rI CPow fun i j => .int (i ^ j.toNat)
def rIAdd : R2 := rI0 fun i j => .int (i + j)
def rISub : R2 := rI0 fun i j => .int (i - j)
def rLt : R2 := rI0 fun i j => .bl (decide (i < j))
def rLe : R2 := rI0 fun i j => .bl (decide (i ≤ j))
def rAbs : List V → Hp → VK → Prop := fun xs H Q => ∃ i, xs = [.int i] ∧ Q (.int (if i < 0 then -i else i)) H
def rListOf (K : PySem.W.Frag) : List V → Hp → VK → Prop := fun xs H Q => ∃ p ys, xs = [.ref p] ∧ (SqL K H p ys ∨ SqT K H p ys) ∧ ∀ q, H q = none → Q (.ref q) (upd H q (.lst ys))
def rIntB : List V → Hp → VK → Prop := fun xs H Q => ∃ b, xs = [.bl b] ∧ Q (.int (if b then 1 else 0)) H
def rDivmod : List V → Hp → VK → Prop := fun xs H Q => ∃ i j, xs = [.int i, .int j] ∧ CDiv i j ∧ ∀ p, H p = none → Q (.ref p) (upd H p (.tup [.int (i / j), .int (i % j)]))
section
variable {X : Cx}
theorem u_mul : OpR X (binaryOp .Mult) rMul := op_mul
theorem u_mod : OpR X (binaryOp .Mod) rMod := op_mod
theorem u_fdiv : OpR X (binaryOp .FloorDiv) rFdiv := op_fdiv
theorem u_pow : OpR X (binaryOp .Pow) rPow := op_pow
theorem u_add : OpR X (binaryOp .Add) rIAdd := op_add
theorem u_sub : OpR X (binaryOp .Sub) rISub := op_sub
theorem u_lt : OpR X (compareOp .Lt) rLt := op_lt
theorem u_le : OpR X (compareOp .LtE) rLe := op_le
theorem u_gt : OpR X (compareOp .Gt) rGt := op_gt
theorem u_ge : OpR X (compareOp .GtE) rGe := op_ge
theorem u_abs : CallR X (.builtin "abs") rAbs := call_abs
theorem u_len : CallR X (.builtin "len") (Evl.rLenS X.K) := call_len_seq
theorem u_divmod : CallR X (.builtin "divmod") rDivmod := call_divmod
end
/-! ### introduction: one lemma a reading -/
section
variable {σ : St} {H : Hp} {Q : VK} {ta tb tc : TE} {v x y : V} {K : PySem.W.Frag} {D : Ends} {t u : TS}
theorem i_var {i : Nat} (h : σ[i]? = some (some v)) (q : Q v H) : tVar i σ H Q := ⟨v, h, q⟩
theorem i_c (q : Q v H) : tC v σ H Q := q
theorem i_op {r : R2} (q : ta σ H fun x H1 => tb σ H1 fun y H2 => r x y H2 Q) : tOp r ta tb σ H Q := q
theorem i_un {r : V → Hp → VK → Prop} (q : ta σ H fun x H1 => r x H1 Q) : tUn r ta σ H Q := q
theorem i_rU {g : Int → V} {i : Int} (q : Q (g i) H) : rU g (.int i) H Q := ⟨i, rfl, q⟩
theorem i_mul {i j : Int} (c : CMul i j) (q : Q (.int (i * j)) H) : rMul (.int i) (.int j) H Q := ⟨i, j, rfl, rfl, c, q⟩
theorem i_mod {i j : Int} (c : 0 < j) (q : Q (.int (i % j)) H) : rMod (.int i) (.int j) H Q := ⟨i, j, rfl, rfl, c, q⟩
theorem i_fdiv {i j : Int} (c : CDiv i j) (q : Q (.int (i / j)) H) : rFdiv (.int i) (.int j) H Q := ⟨i, j, rfl, rfl, c, q⟩
theorem i_pow {i j : Int} (c : CPow i j) (q : Q (.int (i ^ j.toNat)) H) : rPow (.int i) (.int j) H Q := ⟨i, j, rfl, rfl, c, q⟩
theorem i_add {i j : Int} (q : Q (.int (i + j)) H) : rIAdd (.int i) (.int j) H Q := ⟨i, j, rfl, rfl, q⟩
theorem i_sub {i j : Int} (q : Q (.int (i - j)) H) : rISub (.int i) (.int j) H Q := ⟨i, j, rfl, rfl, q⟩
theorem i_lt {i j : Int} (q : Q (.bl (decide (i < j))) H) : rLt (.int i) (.int j) H Q := ⟨i, j, rfl, rfl, q⟩
theorem i_le {i j : Int} (q : Q (.bl (decide (i ≤ j))) H) : rLe (.int i) (.int j) H Q := ⟨i, j, rfl, rfl, q⟩
theorem i_gt {i j : Int} (q : Q (.bl (decide (j < i))) H) : rGt (.int i) (.int j) H Q := ⟨i, j, rfl, rfl, q⟩
theorem i_ge {i j : Int} (q : Q (.bl (decide (j ≤ i))) H) : rGe (.int i) (.int j) H Q := ⟨i, j, rfl, rfl, q⟩
theorem dInt {i j : Int} : decide (V.int i = V.int j) = decide (i = j) := by
  by_cases h : i = j
  · rw [decide_eq_true h, decide_eq_true (by rw [h])]
  · rw [decide_eq_false h, decide_eq_false (fun q => h (V.int.inj q))]
theorem i_eqI {i j : Int} (q : Q (.bl (decide (i = j))) H) : rEq (.int i) (.int j) H Q := ⟨rfl, by rw [dInt]; exact q⟩
theorem i_neI {i j : Int} (q : Q (.bl (!decide (i = j))) H) : rNe (.int i) (.int j) H Q := ⟨rfl, by rw [dInt]; exact q⟩
theorem i_test (q : ta σ H fun x H' => ∃ k, x = .bl k ∧ R k H') : tTest ta σ H R := q
theorem i_tB (q : ta σ H fun x H' => ∃ k, x = .bl k ∧ R k H') : tB ta σ H R := q
theorem i_bl {k : Bool} {R : Bool → Prop} (q : R k) : ∃ k', V.bl k = .bl k' ∧ R k' := ⟨k, rfl, q⟩
theorem i_not {a : TT} {R : Bool → Hp → Prop} (q : a σ H fun c H1 => R (!c) H1) : tNot a σ H R := q
theorem i_nil {R : List V → Hp → Prop} (q : R [] H) : tNil σ H R := q
theorem i_cons {ts : TA} {R : List V → Hp → Prop} (q : ta σ H fun x H1 => ts σ H1 fun xs H2 => R (x :: xs) H2) : tCons ta ts σ H R := q
theorem i_cb {r : List V → Hp → VK → Prop} {ts : TA} (q : ts σ H fun vs H1 => r vs H1 Q) : tCB r ts σ H Q := q
theorem i_call {sp : Sp} {dvs : List V} {E : XK} {ts : TA} (q : ts σ H fun vs H1 => sp (vs ++ dvs) H1 Q E) : tCall sp dvs E ts σ H Q := q
theorem i_abs {i : Int} (q : Q (.int (if i < 0 then -i else i)) H) : rAbs [.int i] H Q := ⟨i, rfl, q⟩
theorem i_lenL {p : Addr} {ys : List V} (h : SqL K H p ys) (q : Q (.int ys.length) H) : Evl.rLenS K [.ref p] H Q := ⟨p, ys, rfl, .inl h, q⟩
theorem i_lenT {p : Addr} {ys : List V} (h : SqT K H p ys) (q : Q (.int ys.length) H) : Evl.rLenS K [.ref p] H Q := ⟨p, ys, rfl, .inr h, q⟩
theorem i_ixL {p : Addr} {xs : List V} {i : Int} (h : SqL K H p xs) (e : atI xs i = some v) (q : Q v H) : rIxL K (.ref p) (.int i) H Q := ⟨p, xs, i, v, rfl, rfl, h, e, q⟩
theorem i_ixT {p : Addr} {xs : List V} {i : Int} (h : SqT K H p xs) (e : atI xs i = some v) (q : Q v H) : rIxT K (.ref p) (.int i) H Q := ⟨p, xs, i, v, rfl, rfl, h, e, q⟩
theorem i_setL {p : Addr} {xs : List V} {i : Int} {j : Nat} {R : Hp → Prop} (h : H p = some (.lst xs)) (e : ixN xs.length i = some j) (q : R (upd H p (.lst (xs.set j v)))) : rSetL (.ref p) (.int i) v H R := ⟨p, xs, i, j, rfl, rfl, h, e, q⟩
theorem i_divmod {i j : Int} (c : CDiv i j) (q : ∀ p, H p = none → Q (.ref p) (upd H p (.tup [.int (i / j), .int (i % j)]))) : rDivmod [.int i, .int j] H Q := ⟨i, j, rfl, c, q⟩
theorem i_ifE {c : TT} (q : c σ H fun b H1 => if b = true then ta σ H1 Q else tb σ H1 Q) : tIf c ta tb σ H Q := q
/-- one way behind a fork: what follows is shown once, for all values that come -/
theorem i_cut {te : TE} (P : V → Prop) (rest : ∀ x, P x → Q x H) (q : (∀ x, P x → Q x H) → te σ H Q) : te σ H Q := q rest
/-! statements -/
theorem i_seq (q : t { D with nx := u D } σ H) : tSeq t u D σ H := q
theorem i_next (q : D.nx σ H) : tNext D σ H := q
theorem i_ret (q : ta σ H D.rt) : tRet ta D σ H := q
theorem i_drop (q : ta σ H fun _ H1 => D.nx σ H1) : tDrop ta D σ H := q
theorem i_asg {g : TG} (q : ta σ H fun x H1 => g x σ H1 D.nx) : tAsg ta g D σ H := q
theorem i_name {i : Nat} {R : St → Hp → Prop} (q : R (σ.set i (some v)) H) : gName i v σ H R := q
theorem i_gsub {r : TSet} {R : St → Hp → Prop} (q : ta σ H fun o H1 => tb σ H1 fun i H2 => r o i v H2 fun H3 => R σ H3) : gSub ta tb r v σ H R := q
theorem i_ifS {c : TT} (q : c σ H fun b H1 => if b = true then t D σ H1 else u D σ H1) : tIfS c t u D σ H := q
theorem ited {p A B : Prop} {_ : Decidable p} (h1 : p → A) (h2 : ¬ p → B) : if decide p = true then A else B := by
  by_cases h : p
  · rw [if_pos (decide_eq_true h)]; exact h1 h
  · rw [if_neg (by rw [decide_eq_false h]; exact Bool.false_ne_true)]; exact h2 h
theorem itedn {p A B : Prop} {_ : Decidable p} (h1 : ¬ p → A) (h2 : p → B) : if (!decide p) = true then A else B := by
  by_cases h : p
  · rw [if_neg (by rw [decide_eq_true h]; exact Bool.false_ne_true)]; exact h2 h
  · rw [if_pos (by rw [decide_eq_false h]; rfl)]; exact h1 h
theorem iteTd {p A B : Prop} {_ : Decidable p} (h : p) (q : A) : if decide p = true then A else B := by rw [if_pos (decide_eq_true h)]; exact q
theorem iteFd {p A B : Prop} {_ : Decidable p} (h : ¬ p) (q : B) : if decide p = true then A else B := by
  rw [if_neg (by rw [decide_eq_false h]; exact Bool.false_ne_true)]; exact q
end
theorem upd_same' {H : Hp} {p : Addr} {o : HO} : upd H p o p = some o := upd_same
theorem upd_ne'' {H : Hp} {a p : Addr} {o u : HO} (n : a ≠ p) (h : H a = some u) : upd H p o a = some u := (upd_ne n).trans h
/-- all but what stands at a is as it was -/
def But (a : Addr) (H H' : Hp) : Prop := ∀ b o, H b = some o → b ≠ a → H' b = some o
theorem But.of {a : Addr} {H : Hp} {o : HO} : But a H (upd H a o) := fun b u e n => (upd_ne n).trans e
theorem But.up {a : Addr} {H H' : Hp} {o : HO} (k : But a H H') : But a H (upd H' a o) := fun b u e n => (upd_ne n).trans (k b u e n)
theorem atI_of {xs : List V} {i : Int} {j : Nat} {v : V} (e : i = (j : Int)) (h : xs[j]? = some v) : atI xs i = some v := by rw [e]; exact atI_nat h
theorem atI_ints {ns : List Int} {i : Int} (h0 : 0 ≤ i) (h1 : i < (ns.length : Int)) : ∃ z, atI (ns.map V.int) i = some (V.int z) ∧ ns[i.toNat]? = some z := by
  have hl : i.toNat < ns.length := by omega
  refine ⟨ns[i.toNat], ?_, by simp [hl]⟩
  refine atI_of (j := i.toNat) (by omega) ?_
  rw [List.getElem?_map]
  simp [hl]
/-! ### heaps that grow: new things laid, what stood stands -/
section
variable {H H' : Hp} {p : Addr} {o : HO}
theorem same_new (h : H p = none) : Same H (upd H p o) := fun b u e => by rw [upd_ne (ne_of_none e h)]; exact e
/-- something new is laid: go on with a heap that is only known to hold it -/
theorem lay {A' : Addr → Hp → Prop} (q : ∀ p H', H p = none → Same H H' → H' p = some o → A' p H') : ∀ p, H p = none → A' p (upd H p o) := fun p h => q p _ h (same_new h) upd_same
end
end U

set_option Elab.async false
set_option linter.all false
set_option maxRecDepth 100000
set_option maxHeartbeats 4000000
/-! # U, second part: defs, methods and makers as one thing each; more readings -/
namespace U
open PySem L2
/-- how a def binds what it is given, any number of its defaults left out -/
def BD (K : PySem.W.Frag) (fd : FuncData) (ps : List Str) (dv : List V) : Prop := ∀ j, j ≤ dv.length → ∃ ds, Vals (dv.drop j) ds ∧ Binds K fd ps ds
abbrev FunA (K : PySem.W.Frag) (x q : Str) (st : Stmt) (dv : List V) (kws : List (Str × V)) (f : Addr) (fd : FuncData) : Prop := FunD K x q (defArgs st) (defBody st) (defScope st) dv kws f fd
structure DA (K : PySem.W.Frag) (mg : Str → Option Value) (x : Str) (st : Stmt) (ps : List Str) (dv : List V) : Prop where
  ex : ∃ (f : Addr) (fd : FuncData), FunA K x x st dv [] f fd ∧ mg x = some (.ref f) ∧ BD K fd ps dv
structure MA (K : PySem.W.Frag) (C : Addr) (m q : Str) (st : Stmt) (ps : List Str) (dv : List V) : Prop where
  ex : ∃ (f : Addr) (fd : FuncData), FunA K m q st dv [] f fd ∧ Cls K C ∧ Meth K C m f ∧ BD K fd ps dv
structure NA (K : PySem.W.Frag) (mg : Str → Option Value) (x : Str) (C : Addr) (q : Str) (st : Stmt) (ps : List Str) (dv : List V) : Prop where
  ex : ∃ (f : Addr) (fd : FuncData), FunA K "__init__" q st dv [] f fd ∧ Mk K C f ∧ mg x = some (.ref C) ∧ BD K fd ps dv
section
variable (P : Program) (w : World) (K : PySem.W.Frag) (mg : Str → Option Value) (base : Heap)
structure Cl (k : Nat) (x : Str) (sp : Sp) (dv : List V) : Prop where
  ex : ∃ (f : Addr) (fd : FuncData) (ps : List Str), FnOk P w K mg base (L2.CX P w) k f fd ps sp ∧ mg x = some (.ref f) ∧ PySem.W.keepIn K (.ref f) = true ∧ BD K fd ps dv
structure Mt (k : Nat) (C : Addr) (m : Str) (sp : Sp) (dv : List V) : Prop where
  ex : ∃ (f : Addr) (fd : FuncData) (ps : List Str), FnOk P w K mg base (L2.CX P w) k f fd ps sp ∧ Cls K C ∧ Meth K C m f ∧ BD K fd ps dv
structure Nw (k : Nat) (x : Str) (C : Addr) (sp : Sp) (dv : List V) : Prop where
  ex : ∃ (f : Addr) (fd : FuncData) (ps : List Str), FnOk P w K mg base (L2.CX P w) k f fd ps sp ∧ Mk K C f ∧ mg x = some (.ref C) ∧ BD K fd ps dv
end
section
variable {P : Program} {w : World} {K : PySem.W.Frag} {mg : Str → Option Value} {base : Heap}
theorem DA.ok {x : Str} {st : Stmt} {ps N : List Str} {dv : List V} {k : Nat} {sp : Sp} (F : DA K mg x st ps dv) (S : FnScope N ps (defScope st)) (len : ∀ vs H Q E, sp vs H Q E → vs.length = ps.length)
    (hbody : ∀ (f : Addr) (cdv : Value) (A : Around) (outer : List Env) (s : Shared) (H : Hp) (vs : List V) (Q : VK) (E : XK), Room k (A.deeper (PyProof.Rows.envOfC x (defScope st) s.heap.objs.size f cdv)) → sp vs H Q E →
      ∃ t, PSs (cxOf (L2.CX P w) P w K mg base N x (defScope st) f cdv A outer s H E) (defBody st) t ∧ t { nx := fun _ H' => Q .non H', rt := Q } (start N vs) H) : Cl P w K mg base (k + 1) x sp dv := by
  obtain ⟨f, fd, F, hm, b⟩ := F.ex
  exact ⟨f, fd, ps, F.ok S len fun cdv A outer s H vs Q E => hbody f cdv A outer s H vs Q E, hm, F.kp, b⟩
theorem MA.ok {C : Addr} {m q : Str} {st : Stmt} {ps N : List Str} {dv : List V} {k : Nat} {sp : Sp} (F : MA K C m q st ps dv) (S : FnScope N ps (defScope st)) (len : ∀ vs H Q E, sp vs H Q E → vs.length = ps.length)
    (hbody : ∀ (f : Addr) (cdv : Value) (A : Around) (outer : List Env) (s : Shared) (H : Hp) (vs : List V) (Q : VK) (E : XK), Room k (A.deeper (PyProof.Rows.envOfC q (defScope st) s.heap.objs.size f cdv)) → sp vs H Q E →
      ∃ t, PSs (cxOf (L2.CX P w) P w K mg base N q (defScope st) f cdv A outer s H E) (defBody st) t ∧ t { nx := fun _ H' => Q .non H', rt := Q } (start N vs) H) : Mt P w K mg base (k + 1) C m sp dv := by
  obtain ⟨f, fd, F, c, hm, b⟩ := F.ex
  exact ⟨f, fd, ps, F.ok S len fun cdv A outer s H vs Q E => hbody f cdv A outer s H vs Q E, c, hm, b⟩
theorem NA.ok {x : Str} {C : Addr} {q : Str} {st : Stmt} {ps N : List Str} {dv : List V} {k : Nat} {sp : Sp} (F : NA K mg x C q st ps dv) (S : FnScope N ps (defScope st)) (len : ∀ vs H Q E, sp vs H Q E → vs.length = ps.length)
    (hbody : ∀ (f : Addr) (cdv : Value) (A : Around) (outer : List Env) (s : Shared) (H : Hp) (vs : List V) (Q : VK) (E : XK), Room k (A.deeper (PyProof.Rows.envOfC q (defScope st) s.heap.objs.size f cdv)) → sp vs H Q E →
      ∃ t, PSs (cxOf (L2.CX P w) P w K mg base N q (defScope st) f cdv A outer s H E) (defBody st) t ∧ t { nx := fun _ H' => Q .non H', rt := Q } (start N vs) H) : Nw P w K mg base (k + 1) x C sp dv := by
  obtain ⟨f, fd, F, M, hm, b⟩ := F.ex
  exact ⟨f, fd, ps, F.ok S len fun cdv A outer s H vs Q E => hbody f cdv A outer s H vs Q E, M, hm, b⟩
/-! making them from what the top has left -/
theorem bd0 {x q : Str} {params : Arguments} {body : List Stmt} {scope : Scope} {f : Addr} {fd : FuncData} {ps : List Str} (F : FunD K x q params body scope [] [] f fd)
    (h : ∀ (a b c : Value) (d : Option Addr) (e g : Value) (us : List Value), us.length = ps.length → bindArgs (PySem.W.fnOf x q params body scope .none a b c d e g) ⟨us, []⟩ = pure (ps.zip us)) : BD K fd ps [] :=
  fun j _ => ⟨[], (List.drop_nil (i := j)).symm ▸ .nil, F.bindsN h⟩
theorem bd1 {x q : Str} {params : Arguments} {body : List Stmt} {scope : Scope} {f : Addr} {fd : FuncData} {ps : List Str} {v : V} (F : FunD K x q params body scope [v] [] f fd) (hp : 0 < ps.length)
    (h0 : ∀ (T : Addr) (kV doc pm : Value) (an : Option Addr) (cdv ct : Value) (us its : List Value), us.length = ps.length - 1 → its.length = [v].length →
      ∃ k, bindArgs (PySem.W.fnOf x q params body scope (.ref T) kV doc pm an cdv ct) ⟨us, []⟩ = seqItems? (.ref T) >>= k ∧ k (some its.toArray) = pure (ps.zip (us ++ its.drop 0)))
    (h1 : ∀ (T : Addr) (kV doc pm : Value) (an : Option Addr) (cdv ct : Value) (us its : List Value), us.length = ps.length → its.length = [v].length →
      ∃ k, bindArgs (PySem.W.fnOf x q params body scope (.ref T) kV doc pm an cdv ct) ⟨us, []⟩ = seqItems? (.ref T) >>= k ∧ k (some its.toArray) = pure (ps.zip (us ++ its.drop 1))) : BD K fd ps [v] := by
  intro j hj
  match j with
  | 0 => exact F.binds1 (ps.length - 1) 0 (by simp) (by show ps.length - 1 + (1 - 0) = _; omega) h0
  | 1 => exact F.binds1 ps.length 1 (by simp) (by show ps.length + (1 - 1) = _; omega) h1
  | j + 2 => exact absurd hj (by show ¬ j + 2 ≤ 1; omega)
end
section
variable {X : Cx} {E : XK}
/-- what a callee raises leaves this def, too -/
theorem passE (tk : Takes X (fun cls d _ H => E cls d H)) : Passes (L2.CX X.prog X.w) X E := passes_call tk fun _ _ _ _ h => h
end
/-! ### a written dict with int keys, read -/
structure WD (P : Program) (w : World) (K : PySem.W.Frag) (d : Addr) (kvs : List (Key × V)) : Prop where
  ex : ∃ (o : Obj) (es : Array DictEntry) (ep : Nat) (vs : List (Key × Value)), K.lookup d = some o ∧ o.ExactDict ∧ o.data = .dict es ep ∧ KeysOf (mixKind P w) es ∧ Pairs (mixKind P w) es.toList vs ∧ (vs.map (·.1)).Nodup ∧ KV kvs vs
def tWGet (P : Program) (w : World) (K : PySem.W.Frag) (td ty : TE) : TE := fun σ H Q => td σ H fun x H1 => ty σ H1 fun y H2 => ∃ d kvs k v, x = .ref d ∧ y = kV k ∧ WD P w K d kvs ∧ valV kvs k = some v ∧ Q v H2
/-- the value that a written dict holds at a key -/
theorem wd_get {X : Cx} {pins : List (Addr × Obj)} {σ : L2.St} {H : Hp} {s : Shared} {d : Addr} {kvs : List (Key × V)} {k : Key} {v : V} {iv : Value} {A : Around} {E Q : Value → Shared → Prop} (I : Inv X pins σ H s) (W : WD X.prog X.w X.K d kvs) (rk : RelV (kV k) iv) (at_ : valV kvs k = some v)
    (go : ∀ u s', RelV v u → Inv X pins σ H s' → Q u s') : s.TypeIs (.ref d) "dict" ∧ wpAny (model X.prog X.w) A (getItem (.ref d) iv) Q E s := by
  rcases W.ex with ⟨ob, es, ep, vs, here, exact_, data_, keys, pairs, once, rel⟩
  have is : s.heap.DictOf (mixKind X.prog X.w) d vs := ⟨ob, es, ep, I.kIn d ob here, exact_, data_, keys, pairs, once⟩
  have both := rel.val k
  rw [at_] at both
  rcases both.some_of with ⟨u, eu, ru⟩
  exact ⟨is.typeIs, wpAny_getItem_of (kV_is rk) is.mapOf eu (go u _ ru (I.tok _))⟩
theorem pe_wget {X : Cx} {o i : Expr} {pos : Pos} {td ty : TE} (po : PE X o td) (pi : PE X i ty) (pl : NoSl i) : PE X (.Subscript o i pos) (tWGet X.prog X.w X.K td ty) where
  run pins s σ H Q I h := subD_of PySem.F.slot_dict_getitem.lookup pl (thn (po.run pins s σ H _ I h) (by
    rintro u s1 ⟨x, H1, I1, rx, h1⟩
    refine thn (pi.run pins s1 σ H1 _ I1 h1) ?_
    rintro iv s2 ⟨y, H2, I2, ry, d, kvs, k, v, rfl, rfl, W, at_, q⟩
    cases rx
    exact wd_get I2 W ry at_ fun w' s' rw' I' => ⟨v, H2, I', rw', q⟩))
/-! ### things of the top, read off their objects -/
def DfT (o : Obj) (dv : List V) : Prop := dv ≠ [] ∧ ∃ (its : List Value) (n : Nat), o.data = .seq its.toArray n ∧ Vals dv its
theorem dfT {o : Obj} {dv : List V} {its : List Value} {n : Nat} (h : o.data = .seq its.toArray n) (v : Vals dv its) (ne : dv ≠ []) : DfT o dv := ⟨ne, its, n, h, v⟩
theorem dfl_of {K : PySem.W.Frag} {t : Addr} {o : Obj} {dv : List V} (l : K.lookup t = some o) (d : DfT o dv) : DflV K (.ref t) dv := by
  obtain ⟨ne, its, n, h, v⟩ := d
  exact .inr ⟨ne, t, o, its, n, rfl, l, h, v⟩
def TupO (o : Obj) (xs : List V) : Prop := ∃ (its : List Value) (n : Nat), o.cls = .type "tuple" ∧ o.data = .seq its.toArray n ∧ its.length ≤ sizeLine ∧ Vals xs its
theorem tupO {o : Obj} {xs : List V} {its : List Value} {n : Nat} (c : o.cls = .type "tuple") (h : o.data = .seq its.toArray n) (l : its.length ≤ sizeLine) (v : Vals xs its) : TupO o xs := ⟨its, n, c, h, l, v⟩
theorem sqT_of {K : PySem.W.Frag} {H : Hp} {a : Addr} {o : Obj} {xs : List V} (l : K.lookup a = some o) (d : TupO o xs) : SqT K H a xs := by
  obtain ⟨its, n, c, h, z, v⟩ := d
  exact .inr ⟨o, its.toArray, n, l, c, h, by simpa using z, by simpa using v⟩
def entI (x : Int × Tok × Value) : DictEntry := ⟨hashInt x.1, .int x.1 x.2.1, x.2.2⟩
def WDO (o : Obj) (kvs : List (Key × V)) : Prop := ∃ (l : List (Int × Tok × Value)) (ep : Nat), o.ExactDict ∧ o.data = .dict (l.map entI).toArray ep ∧ (l.map (·.1)).Nodup ∧ KV kvs (l.map fun x => ((Sum.inl x.1 : Key), x.2.2))
theorem wd_of {P : Program} {w : World} {K : PySem.W.Frag} {a : Addr} {o : Obj} {kvs : List (Key × V)} (h : K.lookup a = some o) (d : WDO o kvs) : WD P w K a kvs := by
  obtain ⟨l, ep, x, e, nd, kv⟩ := d
  refine ⟨o, _, ep, l.map fun x => ((Sum.inl x.1 : Key), x.2.2), h, x, e, ?_, ?_, ?_, kv⟩
  · intro y hy
    have hy' : y ∈ l.map entI := by simpa using hy
    obtain ⟨z, hz, rfl⟩ := List.mem_map.mp hy'
    exact ⟨Sum.inl z.1, mixKind_int P w z.1 z.2.1, rfl⟩
  · have : ∀ l : List (Int × Tok × Value), Pairs (mixKind P w) (l.map entI) (l.map fun x => ((Sum.inl x.1 : Key), x.2.2)) := by
      intro l
      induction l with
      | nil => exact .nil
      | cons z r ih => exact .cons (mixKind_int P w z.1 z.2.1) rfl ih
    simpa using this l
  · have e2 : (l.map fun x => ((Sum.inl x.1 : Key), x.2.2)).map (·.1) = (l.map (·.1)).map Sum.inl := by simp [List.map_map, Function.comp_def]
    rw [e2]
    exact List.Pairwise.map _ (fun a b h z => h (Sum.inl.inj z)) nd
section
open PySem PySem.Spec PyProof.Rows L2
/-! ### raise X() of an own class without own __init__ -/
/-- an own exception made with no argument, by its class -/
theorem own_made0 {X : Cx} {C : Addr} {bmB : List Value} {B newId initId : String} {pins : List (Addr × Obj)} {σ : L2.St} {H : Hp} {Q : XK} {E : Value → Shared → Prop} {s : Shared} (F : ExcBaseFacts B newId initId bmB) (is : PySem.W.excIn X.K C bmB newId = true) (r : Raises X (.ref C))
    (I : Inv X pins σ H s) (q : Q (.ref C) none H) : wpAny (model X.prog X.w) X.A (call (.ref C) []) (MkP X pins σ Q) E s :=
  match exc_obj I.kIn is with
  | ⟨_, _, _, _, _, _, _, _, _, _, _, _, _, _, _, _, _, here, names, plain, tail⟩ => wpAny_call_exc_subT F tail here names plain fun _ _ new => mk_of I new r q (I.hok.gone new.new)
theorem pmk_own0 {X : Cx} {C : Addr} {bmB : List Value} {B newId initId : String} {x : Str} {p pos : Pos} (F : ExcBaseFacts B newId initId bmB) (is : PySem.W.excIn X.K C bmB newId = true) (gC : X.mg x = some (.ref C)) (kept : PySem.W.keepIn X.K (.ref C) = true) (r : Raises X (.ref C)) (gl : Gl X x)
    (nd : (x == ("__debug__" : Str)) = false := by decide) : PMk X (.Call (.Name x p) [] [] pos) (fun _ H Q => Q (.ref C) none H) := fun _ _ _ _ _ I q => wpAny_Call_Name_kw (ld_glob I gl gC (PySem.W.callWith_K0 I.kIn kept (own_made0 F is r I q)) nd)
structure EA (K : PySem.W.Frag) (mg : Str → Option Value) (x : Str) (C : Addr) : Prop where
  g : mg x = some (.ref C)
  k : PySem.W.keepIn K (.ref C) = true
  q : ∃ (bmB : List Value) (B newId initId : String), ExcBaseFacts B newId initId bmB ∧ PySem.W.excIn K C bmB newId = true
  b : PySem.W.subIn K (.ref C) (.type "BaseException") = some true
  t : PySem.W.typeIn K (.ref C) = some (.type "type")
theorem ps_raise0 {X : Cx} {W : WX} {x : Str} {C : Addr} {p pos pos2 : Pos} (hc : X.calm = true) (tk : Takes X W) (T : EA X.K X.mg x C) (hg : Gl X x := by rfl) (hdb : (x == ("__debug__" : Str)) = false := by decide) :
    PS X (.Raise (some (.Call (.Name x p) [] [] pos)) none pos2) (fun _ σ H => W (.ref C) none σ H) := by
  obtain ⟨bmB, B, newId, initId, F, q⟩ := T.q
  exact ps_raise hc tk (pmk_own0 F q T.g T.k (raises_own T.b T.t) hg hdb)
end
/-! ### xs[i] op= e -/
def rGetL (K : PySem.W.Frag) : V → V → Hp → VK → Prop := fun o i H Q => ∃ p xs k v, o = .ref p ∧ i = .int k ∧ 0 ≤ k ∧ k < 2 ^ 63 ∧ SqL K H p xs ∧ xs[k.toNat]? = some v ∧ Q v H
theorem get_list {X : Cx} : PGet X (rGetL X.K) := fun pins s σ H o i ov iv Q I ro ri ⟨p, xs, k, v, eo, ei, k0, k1, sq, at_, q⟩ => by
  cases eo
  cases ei
  cases ro
  rcases ri with ⟨tk, rfl⟩
  rcases I.list sq with ⟨us, vs, plain, _⟩
  rcases vs.get at_ with ⟨u, eu, ru⟩
  refine wpAny_getItem_list plain.isList k0 k1 ?_ ⟨v, H, I, ru, q⟩
  rw [List.getElem?_toArray]
  exact eu
def ipMul : TIp := fun x y H Q => ∃ i j, x = .int i ∧ y = .int j ∧ CMul i j ∧ Q (.int (i * j)) H
theorem ip_mul {X : Cx} : PIp X .Mult ipMul := fun _ s _ H _ _ _ _ _ I rx ry ⟨i, j, ex, ey, small, q⟩ => by
  cases ex
  cases ey
  rcases rx with ⟨ti, rfl⟩
  rcases ry with ⟨tj, rfl⟩
  exact PyProof.Rows.imul_int ⟨.int (i * j), H, I.tok _, ⟨_, rfl⟩, q⟩ small.ok
section
variable {X : Cx}
theorem u_listOf : CallR X (.type "list") (rListOf X.K) := call_list_of
theorem u_intB : CallR X (.type "int") rIntB := fun pins s σ H xs us Q I r ⟨b, e, q⟩ => call_int1 pins s σ H xs us Q I r (.inr ⟨b, e, q⟩)
end
section
variable {X : Cx} {x : Str} {pos : Pos}
theorem pe_gref {a : Addr} (hg : Gl X x) (hm : X.mg x = some (.ref a)) (hd : (x == ("__debug__" : Str)) = false := by decide) : PE X (.Name x pos) (tC (.ref a)) := pe_glob hg hm rfl hd
theorem pe_gval {v : V} (hg : Gl X x) (h : ∃ u, X.mg x = some u ∧ RelV v u) (hd : (x == ("__debug__" : Str)) = false := by decide) : PE X (.Name x pos) (tC v) := by
  obtain ⟨u, hm, r⟩ := h
  exact pe_glob hg hm r hd
end
/-! ### rules with the written part named (within comprehensions) -/
section
variable {X : Cx} {e o : Expr} {te : TE} {f : Str} {pos : Pos}
theorem ixL (K : PySem.W.Frag) (h : X.K = K) : IxR X (rIxL K) := h ▸ ix_list
theorem ixT (K : PySem.W.Frag) (h : X.K = K) : IxR X (rIxT K) := h ▸ ix_tup
theorem lenK (K : PySem.W.Frag) (h : X.K = K) : CallR X (.builtin "len") (Evl.rLenS K) := h ▸ u_len
theorem pe_fldK (K : PySem.W.Frag) (h : X.K = K) (he : PE X o te) (hb : attributeBase o f X.env (eval o X.env) = eval o X.env) : PE X (.Attribute o f pos) (tFld K te f) := h ▸ pe_fld he hb
theorem inK (K : PySem.W.Frag) (h : X.K = K) : OpR X (compareOp .In) (rIn K false) := h ▸ op_in_seq
theorem notInK (K : PySem.W.Frag) (h : X.K = K) : OpR X (compareOp .NotIn) (rIn K true) := h ▸ op_notIn_seq
end
/-! ### more introductions -/
section
variable {σ : St} {H : Hp} {Q : VK} {ta tb tc : TE} {v x y : V} {K : PySem.W.Frag} {D : Ends} {t u : TS}
theorem i_getL {p : Addr} {xs : List V} {k : Int} (h0 : 0 ≤ k) (h1 : k < 2 ^ 63) (h : SqL K H p xs) (e : xs[k.toNat]? = some v) (q : Q v H) : rGetL K (.ref p) (.int k) H Q := ⟨p, xs, k, v, rfl, rfl, h0, h1, h, e, q⟩
theorem i_augS {to ti te : TE} {tget : V → V → Hp → VK → Prop} {tip : TIp} {tset : TSet} (q : to σ H fun o H1 => ti σ H1 fun i H2 => tget o i H2 fun x H3 => te σ H3 fun y H4 => tip x y H4 fun z H5 => tset o i z H5 fun H6 => D.nx σ H6) : tAugS to ti te tget tip tset D σ H := q
theorem i_aug {i : Nat} {ti : TIp} (h : σ[i]? = some (some x)) (q : ta σ H fun y H1 => ti x y H1 fun z H2 => D.nx (σ.set i (some z)) H2) : tAug i ta ti D σ H := ⟨x, h, q⟩
theorem i_ipI {f : Int → Int → Int} {i j : Int} (q : Q (.int (f i j)) H) : ipI f (.int i) (.int j) H Q := ⟨i, j, rfl, rfl, q⟩
theorem i_ipMul {i j : Int} (c : CMul i j) (q : Q (.int (i * j)) H) : ipMul (.int i) (.int j) H Q := ⟨i, j, rfl, rfl, c, q⟩
theorem i_fld {f : Str} (q : ta σ H fun x H1 => ∃ a C dx fs v, x = .ref a ∧ H1 a = some (.ins C dx fs) ∧ Cls K C ∧ NoAttr K C f ∧ fs.lookup f = some v ∧ Q v H1) : tFld K ta f σ H Q := q
theorem i_fld' {a C dx : Addr} {fs : List (Str × V)} {f : Str} {R : Addr → Addr → Addr → List (Str × V) → V → Prop} (h : H a = some (.ins C dx fs)) (c : Cls K C) (n : NoAttr K C f) (l : fs.lookup f = some v) (q : R a C dx fs v) :
    ∃ a' C dx fs v, V.ref a = .ref a' ∧ H a' = some (.ins C dx fs) ∧ Cls K C ∧ NoAttr K C f ∧ fs.lookup f = some v ∧ R a' C dx fs v := ⟨a, C, dx, fs, v, rfl, h, c, n, l, q⟩
theorem i_sfld {f : Str} (q : tb σ H fun y H1 => ta σ H1 fun x H2 => ∃ a C dx fs, x = .ref a ∧ H2 a = some (.ins C dx fs) ∧ Cls K C ∧ NoAttr K C f ∧ fs.length < 1000 ∧ D.nx σ (upd H2 a (.ins C dx (putF f y fs)))) : sFld K ta tb f D σ H := q
theorem i_sfld' {a C dx : Addr} {fs : List (Str × V)} {f : Str} {R : Addr → Addr → Addr → List (Str × V) → Prop} (h : H a = some (.ins C dx fs)) (c : Cls K C) (n : NoAttr K C f) (l : fs.length < 1000) (q : R a C dx fs) :
    ∃ a' C dx fs, V.ref a = .ref a' ∧ H a' = some (.ins C dx fs) ∧ Cls K C ∧ NoAttr K C f ∧ fs.length < 1000 ∧ R a' C dx fs := ⟨a, C, dx, fs, rfl, h, c, n, l, q⟩
theorem i_meth {C : Addr} {m : Str} {sp : Sp} {dvs : List V} {E : XK} {ts : TA} (q : ta σ H fun x H1 => ∃ a dx fs, x = .ref a ∧ H1 a = some (.ins C dx fs) ∧ fs.lookup m = none ∧ ts σ H1 fun vs H2 => sp (x :: (vs ++ dvs)) H2 Q E) : tMeth C m sp dvs E ta ts σ H Q := q
theorem i_meth' {a C dx : Addr} {fs : List (Str × V)} {m : Str} {R : Prop} (h : H a = some (.ins C dx fs)) (l : fs.lookup m = none) (q : R) : ∃ a' dx fs, V.ref a = .ref a' ∧ H a' = some (.ins C dx fs) ∧ fs.lookup m = none ∧ R := ⟨a, dx, fs, rfl, h, l, q⟩
theorem i_make {C : Addr} {sp : Sp} {dvs : List V} {E : XK} {ts : TA} (q : ts σ H fun vs H1 => ∀ x dx, H1 x = none → H1 dx = none → dx ≠ x → sp (.ref x :: (vs ++ dvs)) (upd (upd H1 dx (.own x)) x (.ins C dx [])) (fun v H2 => v = .non ∧ Q (.ref x) H2) E) : tMake C sp dvs E ts σ H Q := q
theorem i_tup {ts : TA} (q : ts σ H fun xs H1 => xs.length ≤ sizeLine ∧ ∀ p, H1 p = none → Q (.ref p) (upd H1 p (.tup xs))) : tTup ts σ H Q := q
theorem i_lst {ts : TA} (q : ts σ H fun xs H1 => xs.length ≤ sizeLine ∧ ∀ p, H1 p = none → Q (.ref p) (upd H1 p (.lst xs))) : tLst ts σ H Q := q
theorem i_wget {P : Program} {w : World} (q : ta σ H fun x H1 => tb σ H1 fun y H2 => ∃ d kvs k v, x = .ref d ∧ y = kV k ∧ WD P w K d kvs ∧ valV kvs k = some v ∧ Q v H2) : tWGet P w K ta tb σ H Q := q
theorem i_sl {r : V → Option Int → Option Int → Hp → VK → Prop} {tl th : TO} (q : ta σ H fun x H1 => tl σ H1 fun l H2 => th σ H2 fun u H3 => r x l u H3 Q) : tSl r ta tl th σ H Q := q
theorem i_part {R : Option Int → Hp → Prop} (q : ta σ H fun x H1 => ∃ i, x = .int i ∧ R (some i) H1) : tPart ta σ H R := q
theorem i_part' {i : Int} {R : Int → Prop} (q : R i) : ∃ i', V.int i = .int i' ∧ R i' := ⟨i, rfl, q⟩
theorem i_nopart {R : Option Int → Hp → Prop} (q : R none H) : tNoPart σ H R := q
theorem i_slL {a : Addr} {xs : List V} {lo hi : Option Int} (h : SqL K H a xs) (q : ∀ p, H p = none → Q (.ref p) (upd H p (.lst (cutV xs lo hi)))) : rSlL K (.ref a) lo hi H Q := ⟨a, xs, rfl, h, q⟩
theorem i_bm {T : String} {r : V → List V → Hp → VK → Prop} {ts : TA} (q : ta σ H fun x H1 => tyV K T x H1 ∧ ts σ H1 fun xs H2 => r x xs H2 Q) : tBM K T r ta ts σ H Q := q
theorem i_append {l : Addr} {xs : List V} (h : H l = some (.lst xs)) (hl : xs.length < sizeLine) (q : Q .non (upd H l (.lst (xs ++ [y])))) : rAppend (.ref l) [y] H Q := ⟨l, xs, y, rfl, rfl, h, hl, q⟩
theorem tyL {l : Addr} {xs : List V} (h : H l = some (.lst xs)) : tyV K "list" (.ref l) H := Or.inl ⟨rfl, _, SqL.of h⟩
theorem i_chain {r r' : R2} (q : ta σ H fun x H1 => tb σ H1 fun y H2 => r x y H2 fun z H3 => ∃ k, z = .bl k ∧ (if k = true then tc σ H3 fun w' H4 => r' y w' H4 Q else Q (.bl false) H3)) : tChain r r' ta tb tc σ H Q := q
theorem i_pt {a : TT} {b : TT} {R : Bool → Hp → Prop} (q : a σ H fun c H1 => if c = true then b σ H1 R else R false H1) : tAnd a b σ H R := q
theorem i_or {a : TT} {b : TT} {R : Bool → Hp → Prop} (q : a σ H fun c H1 => if c = true then R true H1 else b σ H1 R) : tOr a b σ H R := q
theorem i_for {wi : TI} {g : TG} {tb : TS} (q : wi σ H fun J H1 => ∃ W : Nat → Nat → St → Hp → Prop, (∃ m, W 0 m σ H1) ∧ ∀ i m σ H, W i m σ H →
      (J.stop i H ∧ D.nx σ H) ∨ (J.go i H ∧ ∃ N : St → Hp → Prop, (∀ σ' H', N σ' H' → ∃ m', m' < m ∧ W (i + 1) m' σ' H') ∧ ∀ x H', J.yld i H x H' → g x σ H' fun σ2 H2 => tb { D with nx := N, ct := N, bk := D.nx } σ2 H2)) : tFor wi g tb D σ H := q
theorem i_lc {wi : TI} {g : TG} {tt : TT} {te : TE} {vs : List Nat} (q : wi σ H fun J H1 => ∀ D, H1 D = none → ∃ W : Nat → Nat → Hp → Prop, (∃ m, W 0 m (upd H1 D (.lst []))) ∧ ∀ i m H, W i m H →
      (J.stop i H ∧ Q (.ref D) H) ∨ (J.go i H ∧ ∃ N : Hp → Prop, (∀ H', N H' → ∃ m', m' < m ∧ W (i + 1) m' H') ∧ ∀ x H', J.yld i H x H' → g x (wipe σ vs) H' fun σ2 H2 => wipe σ2 vs = wipe σ vs ∧ tt σ2 H2 fun b H3 =>
        if b = true then te σ2 H3 fun y H4 => ∃ acc, H4 D = some (.lst acc) ∧ acc.length < sizeLine ∧ N (upd H4 D (.lst (acc ++ [y]))) else N H3)) : tLc wi g tt te vs σ H Q := q
theorem i_yes {R : Bool → Hp → Prop} (q : R true H) : tYes σ H R := q
theorem i_rep {l : Addr} {k : Int} {xs : List V} (h : H l = some (.lst xs)) (h0 : -(2 ^ 63) ≤ k) (h1 : k < 2 ^ 63) (hz : xs.length * k.toNat ≤ sizeLine) (q : ∀ p, H p = none → Q (.ref p) (upd H p (.lst (List.replicate k.toNat xs).flatten))) : rRep (.ref l) (.int k) H Q := ⟨l, k, xs, rfl, rfl, h, h0, h1, hz, q⟩
theorem i_pl (q : ta σ H fun x H1 => ∃ a C dx fs v, x = .ref a ∧ H1 a = some (.ins C dx fs) ∧ Cls K C ∧ NoAttr K C f ∧ fs.lookup f = some v ∧
    tb σ H1 fun y H2 => r v y H2 fun z H3 => ∃ dx' fs', H3 a = some (.ins C dx' fs') ∧ fs'.length < 1000 ∧ D.nx σ (upd H3 a (.ins C dx' (putF f z fs')))) : sFldAug K ta tb r f D σ H := q
theorem i_pl' {a C dx : Addr} {fs : List (Str × V)} {R : Addr → List (Str × V) → Prop} (h : H a = some (.ins C dx fs)) (hl : fs.length < 1000) (q : R dx fs) : ∃ dx' fs', H a = some (.ins C dx' fs') ∧ fs'.length < 1000 ∧ R dx' fs' := ⟨dx, fs, h, hl, q⟩
theorem i_rAdd {i j : Int} (q : Q (.int (i + j)) H) : rAdd (.int i) (.int j) H Q := ⟨i, j, rfl, rfl, q⟩
theorem i_listOf {p : Addr} {ys : List V} (h : SqL K H p ys) (q : ∀ l, H l = none → Q (.ref l) (upd H l (.lst ys))) : rListOf K [.ref p] H Q := ⟨p, ys, rfl, .inl h, q⟩
theorem i_intB {b : Bool} (q : Q (.int (if b then 1 else 0)) H) : rIntB [.bl b] H Q := ⟨b, rfl, q⟩
theorem i_in {p : Addr} {xs : List V} {neg : Bool} (h : SqL K H p xs ∨ SqT K H p xs) (hf : flatV x = true) (ha : xs.all flatV = true) (q : Q (.bl (if neg then !inV x xs else inV x xs)) H) : rIn K neg x (.ref p) H Q := ⟨p, xs, rfl, h, hf, ha, q⟩
theorem i_cutH {te : TE} (P : V → Hp → Prop) (rest : ∀ x H', P x H' → Q x H') (q : (∀ x H', P x H' → Q x H') → te σ H Q) : te σ H Q := q rest
theorem i_cutB {c : TT} {R : Bool → Hp → Prop} (b : Bool) (P : Hp → Prop) (rest : ∀ H', P H' → R b H') (q : (∀ H', P H' → R b H') → c σ H R) : c σ H R := q rest
theorem i_par3 {i j l : Nat} {ts : TA} (q : ts σ H fun vs H1 => ∃ u v w, vs = [u, v, w] ∧ D.nx (((σ.set i (some u)).set j (some v)).set l (some w)) H1) : tPar3 i j l ts D σ H := q
theorem i_par3' {z : V} {R : V → V → V → Prop} (q : R x y z) : ∃ u v w, [x, y, z] = [u, v, w] ∧ R u v w := ⟨x, y, z, rfl, q⟩
theorem i_par {i j : Nat} {ts : TA} (q : ts σ H fun vs H1 => ∃ v w, vs = [v, w] ∧ D.nx ((σ.set i (some v)).set j (some w)) H1) : tPar i j ts D σ H := q
theorem i_par' {R : V → V → Prop} (q : R x y) : ∃ v w, [x, y] = [v, w] ∧ R v w := ⟨x, y, rfl, q⟩
theorem i_lrg {te : L2.St → Hp → (Int → Int → Hp → Prop) → Prop} (q : te σ H fun a b H1 => RgOk a b ∧ ∀ q, H1 q = none → Q (.ref q) (upd H1 q (.lst (rgV a b)))) : tLstRg te σ H Q := q
theorem i_rg1 {R : Int → Int → Hp → Prop} (q : ta σ H fun x H1 => ∃ n, x = .int n ∧ R 0 n H1) : tRg1 ta σ H R := q
theorem i_rg1' {n : Int} {R : Int → Prop} (q : R n) : ∃ n', V.int n = .int n' ∧ R n' := ⟨n, rfl, q⟩
theorem i_sorted {a : Addr} {ns : List Int} (h : SqL K H a (ns.map V.int)) (q : ∀ (ns' : List Int) (p : Addr), ns'.Perm ns → ns'.Pairwise (· ≤ ·) → H p = none → Q (.ref p) (upd H p (.lst (ns'.map V.int)))) : rSortedI K [.ref a] H Q := ⟨a, ns, rfl, h, q⟩
theorem i_gtup {a : Addr} {xs : List V} {n : Nat} {g : TGs} {R : St → Hp → Prop} (h : SqT K H a xs) (l : xs.length = n) (q : g xs σ H R) : gTup K n g (.ref a) σ H R := ⟨a, xs, rfl, h, l, q⟩
theorem i_gcons {g : TG} {gs : TGs} {vs : List V} {R : St → Hp → Prop} (q : g v σ H fun σ' H' => gs vs σ' H' R) : gCons g gs (v :: vs) σ H R := ⟨v, vs, rfl, q⟩
theorem i_gnil {R : St → Hp → Prop} (q : R σ H) : gNil [] σ H R := ⟨rfl, q⟩
theorem i_bm' {l : Addr} {xs : List V} {R : Prop} (h : H l = some (.lst xs)) (q : R) : tyV K "list" (.ref l) H ∧ R := ⟨tyL h, q⟩
theorem i_rng1 {ts : TA} {R : It → Hp → Prop} (q : ts σ H fun vs H1 => ∃ j : Int, vs = [.int j] ∧ -(2 ^ 62) ≤ j ∧ j < 2 ^ 62 ∧ R (Itr 0 j.toNat) H1) : iRng1 ts σ H R := q
theorem i_rng1' {j : Int} {R : Int → Prop} (h0 : -(2 ^ 62) ≤ j) (h1 : j < 2 ^ 62) (q : R j) : ∃ j' : Int, [V.int j] = [.int j'] ∧ -(2 ^ 62) ≤ j' ∧ j' < 2 ^ 62 ∧ R j' := ⟨j, rfl, h0, h1, q⟩
theorem i_rng2 {ts : TA} {R : It → Hp → Prop} (q : ts σ H fun vs H1 => ∃ i j : Int, vs = [.int i, .int j] ∧ (-(2 ^ 62) ≤ i ∧ i < 2 ^ 62 ∧ -(2 ^ 62) ≤ j ∧ j < 2 ^ 62) ∧ R (Itr i (j - i).toNat) H1) : iRng2 ts σ H R := q
theorem i_rng2' {i j : Int} {R : Int → Int → Prop} (h : -(2 ^ 62) ≤ i ∧ i < 2 ^ 62 ∧ -(2 ^ 62) ≤ j ∧ j < 2 ^ 62) (q : R i j) : ∃ i' j' : Int, [V.int i, V.int j] = [.int i', .int j'] ∧ (-(2 ^ 62) ≤ i' ∧ i' < 2 ^ 62 ∧ -(2 ^ 62) ≤ j' ∧ j' < 2 ^ 62) ∧ R i' j' := ⟨i, j, rfl, h, q⟩
theorem i_rng3 {ts : TA} {R : It → Hp → Prop} (q : ts σ H fun vs H1 => ∃ (i j c : Int) (n : Nat), vs = [.int i, .int j, .int c] ∧ RgC i j c n ∧ R (Itc i c n) H1) : iRng3 ts σ H R := q
theorem i_rng3' {i j c : Int} {n : Nat} {R : Int → Int → Int → Nat → Prop} (h : RgC i j c n) (q : R i j c n) : ∃ (i' j' c' : Int) (n : Nat), [V.int i, V.int j, V.int c] = [.int i', .int j', .int c'] ∧ RgC i' j' c' n ∧ R i' j' c' n := ⟨i, j, c, n, rfl, h, q⟩
theorem i_enum {ts : TA} {R : It → Hp → Prop} (q : ts σ H fun vs H1 => ∃ a xs, vs = [.ref a] ∧ SqL K H1 a xs ∧ R (Ite K a) H1) : iEnum K ts σ H R := q
theorem i_enum' {a : Addr} {xs : List V} {R : Addr → Prop} (h : SqL K H a xs) (q : R a) : ∃ a' xs, [V.ref a] = [.ref a'] ∧ SqL K H a' xs ∧ R a' := ⟨a, xs, rfl, h, q⟩
theorem i_rev {ts : TA} {R : It → Hp → Prop} (q : ts σ H fun vs H1 => ∃ (a : Addr) (xs : List V), vs = [.ref a] ∧ SqL K H1 a xs ∧ R (Itv K a xs.length) H1) : iRev K ts σ H R := q
theorem i_rev' {a : Addr} {xs : List V} {R : Addr → List V → Prop} (h : SqL K H a xs) (q : R a xs) : ∃ (a' : Addr) (xs : List V), [V.ref a] = [.ref a'] ∧ SqL K H a' xs ∧ R a' xs := ⟨a, xs, rfl, h, q⟩
theorem i_plist {R : It → Hp → Prop} (q : ta σ H fun x H1 => ∃ a, x = .ref a ∧ (∃ xs, SqL K H1 a xs) ∧ R (Itl K a) H1) : iList K ta σ H R := q
theorem i_plist' {a : Addr} {xs : List V} {R : Addr → Prop} (h : SqL K H a xs) (q : R a) : ∃ a', V.ref a = .ref a' ∧ (∃ xs, SqL K H a' xs) ∧ R a' := ⟨a, rfl, ⟨xs, h⟩, q⟩
theorem i_ptup {R : It → Hp → Prop} (q : ta σ H fun x H1 => ∃ a, x = .ref a ∧ (∃ xs, SqT K H1 a xs) ∧ R (Itt K a) H1) : iTup K ta σ H R := q
theorem i_ptup' {a : Addr} {xs : List V} {R : Addr → Prop} (h : SqT K H a xs) (q : R a) : ∃ a', V.ref a = .ref a' ∧ (∃ xs, SqT K H a' xs) ∧ R a' := ⟨a, rfl, ⟨xs, h⟩, q⟩
end
/-! ### heaps: what stood stands -/
section
variable {H H' H2 : Hp} {a p : Addr} {o u : HO}
theorem upd_new (n : H p = none) (h : H a = some u) : upd H p o a = some u := (upd_ne (ne_of_none h n)).trans h
theorem Same.get (s : Same H H') (h : H a = some u) : H' a = some u := s _ _ h
theorem same_own (s : Same H H') (n : H p = none) : Same H (upd H' p o) := fun b v e => by rw [upd_ne (ne_of_none e n)]; exact s b v e
theorem same_of (e : upd H p o = H') (n : H p = none) : Same H H' := e ▸ same_new n
theorem at_of (e : upd H p o = H') : H' p = some o := e ▸ upd_same
theorem Same.sqL {K : PySem.W.Frag} {xs : List V} (s : Same H H') (h : SqL K H a xs) : SqL K H' a xs := s.seq h
theorem Same.sqT {K : PySem.W.Frag} {xs : List V} (s : Same H H') (h : SqT K H a xs) : SqT K H' a xs := by
  refine h.imp (fun rd => ?_) id
  exact rd.imp (s _ _) fun fz => fz.elim fun o k => ⟨o, s _ _ k⟩
theorem lay_and {n : Nat} {R : Addr → Prop} (h : n ≤ sizeLine) (q : ∀ p, R p) : n ≤ sizeLine ∧ ∀ p, R p := ⟨h, q⟩
theorem take_succ_of {α : Type} {l : List α} {i : Nat} {x : α} (h : l[i]? = some x) : l.take (i + 1) = l.take i ++ [x] := by
  rw [List.take_add_one, h]
  rfl
theorem rep_ints (n : Nat) (z : Int) : (List.replicate n [V.int z]).flatten = (List.replicate n z).map V.int := by
  induction n with
  | zero => rfl
  | succ n ih => rw [List.replicate_succ, List.replicate_succ, List.flatten_cons, ih]; rfl
theorem map_set_int (ns : List Int) (j : Nat) (z : Int) : (ns.map V.int).set j (.int z) = (ns.set j z).map V.int := by rw [List.map_set]
theorem ixN_of {n : Nat} {i : Int} {j : Nat} (e : i = (j : Int)) (h : j < n) : ixN n i = some j := by
  unfold ixN
  rw [if_pos (by omega), if_pos (by omega), e]
  rfl
theorem cut_take {xs : List V} {q : Nat} (h : q ≤ xs.length) : cutV xs none (some (q : Int)) = xs.take q := by
  unfold cutV
  rw [HT.sIx_none, HT.sIx_nat, List.drop_zero, Nat.min_eq_left h]
  rfl
theorem cut_take' {xs : List V} {q : Nat} (h : xs.length ≤ q) : cutV xs none (some (q : Int)) = xs := by
  unfold cutV
  rw [HT.sIx_none, HT.sIx_nat, List.drop_zero, Nat.min_eq_right h]
  exact List.take_length
theorem rgV0 (n : Int) : rgV 0 n = ((List.range n.toNat).map fun (i : Nat) => (i : Int)).map V.int := by
  unfold rgV
  rw [List.map_map, Int.sub_zero]
  exact List.map_congr_left fun i _ => by show V.int (0 + (i : Int)) = V.int i; rw [Int.zero_add]
theorem mig {ns : List Int} {i : Nat} {z : V} (h : (ns.map V.int)[i]? = some z) : z = V.int (ns.getD i 0) ∧ i < ns.length := by
  rw [List.getElem?_map] at h
  cases e : ns[i]? with
  | none => simp [e] at h
  | some y =>
    rw [e] at h
    rw [show ns.getD i 0 = y by simp [List.getD_eq_getElem?_getD, e]]
    exact ⟨(Option.some.inj h).symm, (List.getElem?_eq_some_iff.mp e).1⟩
theorem mig' {ns : List Int} {i : Nat} (h : i < ns.length) : (ns.map V.int)[i]? = some (V.int (ns.getD i 0)) := by
  rw [List.getElem?_map, List.getD_eq_getElem?_getD, List.getElem?_eq_getElem h]
  rfl
theorem lt_of_len {α : Type} {l : List α} {k n : Nat} (h : l.length = k) (hk : k < n) : l.length < n := h ▸ hk
theorem But.same {a : Addr} (k : But a H H') (n : H2 a = none) (s : Same H2 H) : Same H2 H' := fun b v e => k b v (s b v e) (ne_of_none e n)
end
/-! ### lists of ints as data -/
theorem eqvAll_ints (ns : List Int) : ∀ ms : List Int, PyData.eqvAll (ns.map .int) (ms.map .int) = decide (ns = ms) := by
  induction ns with
  | nil => intro ms; cases ms <;> simp [PyData.eqvAll]
  | cons n r ih =>
    intro ms
    cases ms with
    | nil => simp [PyData.eqvAll]
    | cons m s =>
      have := ih s
      by_cases h : n = m <;> simp [PyData.eqvAll, PyData.eqv, this, h]
theorem eqv_ints (ns ms : List Int) : PyData.eqv (.list (ns.map .int)) (.list (ms.map .int)) = decide (ns = ms) := by
  rw [← eqvAll_ints]
  simp only [PyData.eqv]
theorem dpAll_ints {K : PySem.W.Frag} {H : Hp} : ∀ (ns : List Int), DpAll K H (ns.map V.int) (ns.map PyData.int)
  | [] => .nil
  | n :: r => .cons (.int n) (dpAll_ints r)
theorem sh_ints (ns : List Int) : SeqAt.shaped (.list (ns.map PyData.int)) = true := PySem.W.shaped_ints ns
section
variable {K : PySem.W.Frag} {H : Hp} {Q : VK}
/-- two lists of ints, != -/
theorem i_neInts {a b : Addr} {ns ms : List Int} (h : SqL K H a (ns.map V.int)) (g : SqL K H b (ms.map V.int)) (q : Q (.bl (!decide (ns = ms))) H) : rNeD K (.ref a) (.ref b) H Q :=
  ⟨_, _, .lst h (dpAll_ints ns), .lst g (dpAll_ints ms), sh_ints ns, sh_ints ms, by rw [eqv_ints]; exact q⟩
theorem i_eqInts {a b : Addr} {ns ms : List Int} (h : SqL K H a (ns.map V.int)) (g : SqL K H b (ms.map V.int)) (q : Q (.bl (decide (ns = ms))) H) : rEqD K (.ref a) (.ref b) H Q :=
  ⟨_, _, .lst h (dpAll_ints ns), .lst g (dpAll_ints ms), sh_ints ns, sh_ints ms, by rw [eqv_ints]; exact q⟩
end
end U

set_option Elab.async false
set_option linter.all false
set_option maxRecDepth 100000
set_option maxHeartbeats 4000000
/-! # U: enumerate over anything that begins an iterator (here: a tuple) -/
namespace U
open PySem PySem.Spec PyProof.Rows L2
/-- the record that enumerate(v) makes over the iterator at k -/
def enumRec (k : Addr) : Obj := { cls := .type "enumerate", data := .fields #[.none, .bool false, .ref k, rawInt 0, .none, .none] }
def enumHeap (h : Heap) (o : Obj) : Heap := (h.push o).push (enumRec h.objs.size)
theorem enum_made {v : Value} {o : Obj} {G : Heap → Prop} (B : Begins v o G) :
    Meets (Builtin.«enumerate.__new__» ⟨[.type "enumerate", v], []⟩) (fun _ R s => G s.heap ∧ R (.ok (.ret (.ref (s.heap.push o).objs.size))) { s with heap := enumHeap s.heap o }) := by
  refine .of_wp ?_
  intro prog w A R s pre
  have g := pre.1
  have post := pre.2
  have sub := sub_enumerate
  have begin_ : ∀ {A₁ : Around} {E₁ Q₁ : Value → Shared → Prop}, Q₁ (.ref s.heap.objs.size) { s with heap := s.heap.push o } → wpAny (model prog w) A₁ (pyIter v) Q₁ E₁ s := fun z => B.iter prog w _ _ s _ g z
  wp_walk using begin_
  apply wpAny_stack_any
  intro frames
  apply wpAny_pure
  dsimp only
  repeat' split
  all_goals (wp_walk using begin_; exact ⟨_, rfl, post⟩)
section
variable {prog : Program} {w : World} {A : Around} {E : Value → Shared → Prop} {s : Shared}
/-- what enumerate(v) leaves: its record at the second new place, the iterator at the first -/
theorem enum_call {v : Value} {o : Obj} {G : Heap → Prop} {Q : Value → Shared → Prop} (B : Begins v o G) (g : G s.heap) (q : Q (.ref (s.heap.push o).objs.size) { s with heap := enumHeap s.heap o }) :
    wpAny (model prog w) A (call (.type "enumerate") [v]) Q E s :=
  callType_new F.called_enumerate (by decide) (F.typeCall_enumerate_1 v) (F.newCall_enumerate_1 v) (fun ob => F.args_object_init_2 ob v) F.entry_enumerate_new (enum_made B)
    ⟨g, ⟨enumRec s.heap.objs.size, Heap.get?_push_size (s.heap.push o) rfl, rfl⟩, q⟩
end
section
variable {X : Cx} {pins : List (Addr × Obj)} {σ : L2.St} {H : Hp} {s : Shared} {a e it : Addr} {i : Nat} {xs : List V}
/-- the tuple's objects at this state, one for each of its values -/
theorem tupAt (I : Inv X pins σ H s) (q : SqT X.K H a xs) : ∃ us : List Value, Vals xs us ∧ s.heap.IsTuple a us.toArray ∧ us.length = xs.length :=
  (I.tuple q).elim fun us p => ⟨us, p.1, p.2.1, p.1.length.symm⟩
/-- one more pair (place, value): a new tuple, laid and told -/
theorem pair_next {x : V} {z : Value} {E : Value → Shared → Prop} {elts : List Expr} {kk : Nat} {tp : Pos} (cool : X.A.handled = none) (I : Inv X pins σ H s) (ff : ∀ b ∈ [e, it], FpOk X pins H b)
    (re : IsEnum s.heap e it ((i : Nat) : Int) z) (ri : s.heap.IsTupleIter it a i) (d1 : e ≠ it) (d2 : a ≠ e) (d3 : a ≠ it) (q : SqT X.K H a xs) (at_ : xs[i]? = some x) :
    wpAny (model X.prog X.w) X.A (pyNext (.ref e)) (fun r s1 => ∃ u, r = some u ∧ wpAny (model X.prog X.w) X.A (letOwnedTupleGo (.Tuple elts kk tp) (.ref e) u) (fun _ s2 =>
      ∃ T, u = .ref T ∧ H T = none ∧ Inv X pins σ (upd H T (.tup [.int (i : Nat), x])) s2 ∧ (∃ z', IsEnum s2.heap e it ((i + 1 : Nat) : Int) z') ∧ s2.heap.IsTupleIter it a (i + 1) ∧ ∀ b ∈ [e, it], b ≠ T) E s1) E s := by
  rcases tupAt I q with ⟨us, vu, isT, len⟩
  rcases vu.get at_ with ⟨u, au, ru⟩
  have room : i < us.toArray.size := by
    rw [List.size_toArray]
    exact (List.getElem?_eq_some_iff.mp au).1
  have old : e < s.heap.objs.size ∧ it < s.heap.objs.size := ⟨Heap.lt_size re, ri.elim fun _ p => Heap.lt_size p.1⟩
  apply wpAny_pyNext_enum_itemD (PySem.Draws.tuple (w := X.w) (A := X.A.in1) cool it a d3 us.toArray) re ⟨ri, isT⟩ room d1
  · intro m
    rcases List.mem_cons.mp m with m | m
    · exact d1 m
    · exact d2 (List.mem_singleton.mp m).symm
  · intro u' g tk pu out st pair _ kept
    have same_u : u' = u := by
      have k : us[i]? = some u' := by simpa using pu
      exact Option.some.inj (k.symm.trans au)
    subst same_u
    refine ⟨_, rfl, ?_⟩
    apply wpAny_letOwnedTupleGo_enum (s := { s with heap := g, toks := tk + 1 }) out
    intro g2 re2 but
    have there : g2.get? s.heap.objs.size = some { cls := .type "tuple", data := .seq #[.int i tk, u'] } := (but.2 _ (Nat.ne_of_gt old.1)).trans pair
    refine ⟨s.heap.objs.size, rfl, I.hok.fresh (Nat.le_refl _), ?_, ⟨u', ?_⟩, st.1.at fun o w => (but.2 it d1.symm).trans w, ?_⟩
    · refine I.turnedNew (ch := [e, it]) ?_ ff (Nat.le_refl _) ⟨?_, [.int i tk, u'], .cons ⟨tk, rfl⟩ (.cons ru .nil), _, there, rfl, 0, rfl⟩
      · intro b o nb w
        have nbe : b ≠ e := fun y => nb (y ▸ List.mem_cons_self)
        have nbi : b ≠ it := fun y => nb (y ▸ List.mem_cons_of_mem _ List.mem_cons_self)
        exact (but.2 b nbe).trans (kept b o nbe nbi w)
      · show 2 ≤ sizeLine
        rw [sizeLine_eq]
        decide
    · rw [show ((i + 1 : Nat) : Int) = ((i : Nat) : Int) + 1 from Int.natCast_succ i]
      exact re2
    · intro b m
      rcases List.mem_cons.mp m with m | m
      · exact m ▸ Nat.ne_of_lt old.1
      · exact (List.mem_singleton.mp m) ▸ Nat.ne_of_lt old.2
/-- no more of them -/
theorem pair_stop {z : Value} {E : Value → Shared → Prop} (cool : X.A.handled = none) (I : Inv X pins σ H s) (ff : FpOk X pins H it) (re : IsEnum s.heap e it ((i : Nat) : Int) z) (ri : s.heap.IsTupleIter it a i) (d3 : a ≠ it)
    (q : SqT X.K H a xs) (out : xs.length = i) : wpAny (model X.prog X.w) X.A (pyNext (.ref e)) (fun r s1 => r = none ∧ Inv X pins σ H s1) E s := by
  rcases tupAt I q with ⟨us, _, isT, len⟩
  have n_ : us.toArray.size = i := by rw [List.size_toArray, len, out]
  have D := PySem.Draws.tuple (prog := X.prog) (w := X.w) (A := X.A.in1) cool it a d3 us.toArray
  rw [n_] at D
  exact wpAny_pyNext_enum_endD D re ⟨ri, isT⟩ fun g k => ⟨rfl, I.turned (t' := s.toks) (fun b o nb w => k b o nb w) ff.1 ff.2.1 ff.2.2.2.1 ff.2.2.2.2.1 ff.2.2.2.2.2⟩
end
/-! ### the walk over the pairs -/
/-- turn i gives the pair of i and the tuple's i-th -/
def Ite2 (K : PySem.W.Frag) (a : Addr) : It where
  go i H := ∃ xs x, SqT K H a xs ∧ xs[i]? = some x
  yld i H v H' := ∃ T, H T = none ∧ v = .ref T ∧ ∃ x, H' = upd H T (.tup [.int (i : Nat), x]) ∧ ∀ ys, SqT K H a ys → ys[i]? = some x
  stop i H := ∃ xs, SqT K H a xs ∧ xs.length = i
/-- the two iterators at turn i: the pairs' at e, the tuple's at it -/
def At2 (a e it : Addr) (i : Nat) (h : Heap) : Prop := h.IsTupleIter it a i ∧ ∃ z, IsEnum h e it ((i : Nat) : Int) z
theorem pairs_turn {P : Program} {w : World} {K : PySem.W.Frag} {elts : List Expr} {kk : Nat} {tp : Pos} {a e it : Addr} (d1 : e ≠ it) (d2 : a ≠ e) (d3 : a ≠ it) : Turn P w K (.Tuple elts kk tp) (Ite2 K a) [e, it] e (At2 a e it) where
  mem := List.mem_cons_self
  obj i h := by
    rintro ⟨⟨o, g, _, dat⟩, z, re⟩ b m
    rcases List.mem_cons.mp m with m | m
    · refine ⟨_, m ▸ re, fun v k => ?_⟩
      nomatch k
    · refine ⟨o, List.mem_singleton.mp m ▸ g, fun v k => ?_⟩
      rw [dat] at k
      nomatch k
  keep i h h' := by
    rintro ⟨ri, z, re⟩ same
    exact ⟨ri.at fun o g => same it (List.mem_cons_of_mem _ List.mem_cons_self) o g, z, same e List.mem_cons_self _ re⟩
  item X := by
    rintro rfl rfl rfl calm i pins s σ H E I ff ⟨ri, z, re⟩ ⟨xs, x, q, at_⟩
    refine thn (pair_next (elts := elts) (kk := kk) (tp := tp) (I.ok.hd calm) I ff re ri d1 d2 d3 q at_) ?_
    rintro r s1 ⟨u, eu, more⟩
    refine ⟨u, eu, thn more ?_⟩
    rintro _ s2 ⟨T, eT, fresh, I2, re2, ri2, apart⟩
    refine ⟨.ref T, _, I2, eT, ⟨T, fresh, rfl, x, rfl, fun ys q' => I.tuple_inj q q' ▸ at_⟩, ⟨ri2, re2⟩, fun b m => ?_⟩
    rw [upd_ne (apart b m)]
    exact (ff b m).1
  done X := by
    rintro rfl rfl rfl calm i pins s σ H E I ff ⟨ri, z, re⟩ ⟨xs, q, out⟩
    exact pair_stop (I.ok.hd calm) I (ff it (List.mem_cons_of_mem _ List.mem_cons_self)) re ri d3 q out
  self A i s Q E st q := st.2.elim fun _ re => wpAny_pyIter_enum re q
theorem walk_enumT {K : PySem.W.Frag} {a : Addr} {xs : List V} : Walk (Ite2 K a) xs.length (fun H => SqT K H a xs) (YPair (fun i => some (.int (i : Nat))) (fun i => xs[i]?)) where
  goes i H lt q := ⟨xs, xs[i], q, List.getElem?_eq_getElem lt⟩
  stops H q := ⟨xs, q, rfl⟩
  yields i H v H' _ q y := by
    rcases y with ⟨T, fresh, ev, x, eH, all⟩
    exact ⟨T, .int i, x, ev, fresh, eH, rfl, all xs q⟩
def iEnumT (K : PySem.W.Frag) (ts : TA) : TI := fun σ H R => ts σ H fun vs G => ∃ a xs, vs = [.ref a] ∧ SqT K G a xs ∧ R (Ite2 K a) G
theorem i_enumT {K : PySem.W.Frag} {σ : L2.St} {H : Hp} {ts : TA} {R : It → Hp → Prop} (q : ts σ H fun vs H1 => ∃ a xs, vs = [.ref a] ∧ SqT K H1 a xs ∧ R (Ite2 K a) H1) : iEnumT K ts σ H R := q
theorem i_enumT' {K : PySem.W.Frag} {H : Hp} {a : Addr} {xs : List V} {R : Addr → Prop} (h : SqT K H a xs) (q : R a) : ∃ a' xs, [V.ref a] = [.ref a'] ∧ SqT K H a' xs ∧ R a' := ⟨a, xs, rfl, h, q⟩
section
variable {X : Cx} {e : Expr} {ts : TA} {p pos : Pos}
/-- a call of a builtin type by its name, of one argument: up to the call itself -/
theorem name_call1 {x : Str} {T : String} {pins : List (Addr × Obj)} {σ : L2.St} {H : Hp} {s : Shared} {Q : Value → Shared → Prop} {Q' : List V → Hp → Prop} (gl : Gl X x) (no : X.mg x = none) (ar : PA X [e] ts) (one : starEach [e] X.env = [(false, eval e X.env)])
    (bt : bootBuiltins x = some (.type T)) (n1 : x ≠ "__name__") (n2 : (x == ("__debug__" : Str)) = false) (I : Inv X pins σ H s) (h : ts σ H Q')
    (go : ∀ us s1, AP X pins σ Q' us s1 → wpAny (model X.prog X.w) X.A (call (.type T) us) Q X.xe s1) : wpAny (model X.prog X.w) X.A (eval (.Call (.Name x p) [e] [] pos) X.env) Q X.xe s :=
  Call_ (ld_blt I gl no bt (callWith_type1 (thn (ar.run pos pins s σ H Q' I h) go) one rfl) n1 n2)
theorem pi_enumT {elts : List Expr} {kk : Nat} {tp : Pos} (gl : Gl X "enumerate") (no : X.mg "enumerate" = none) (ar : PA X [e] ts) (one : starEach [e] X.env = [(false, eval e X.env)] := by rfl) : PI X (.Tuple elts kk tp) (.Call (.Name "enumerate" p) [e] [] pos) (iEnumT X.K ts) where
  run pins s σ H R I h := by
    refine name_call1 gl no ar one boot_enumerate (by decide) (by decide) I h ?_
    rintro us s1 ⟨vs, H1, I1, rs, a, xs, rfl, q, r⟩
    rcases rs with _ | ⟨ra, _ | _⟩
    rcases tupAt I1 q with ⟨its, _, isT, _⟩
    have lt : a < s1.heap.objs.size := isT.elim fun _ k => Heap.lt_size k.1
    have hold : ∀ b o, s1.heap.get? b = some o → (enumHeap s1.heap { cls := .type "tuple_iterator", data := .fields #[.ref a, .int 0 0] }).get? b = some o := fun b o k => Heap.get?_push_of_some _ (Heap.get?_push_of_some _ k)
    have fst : (enumHeap s1.heap { cls := .type "tuple_iterator", data := .fields #[.ref a, .int 0 0] }).get? s1.heap.objs.size = some { cls := .type "tuple_iterator", data := .fields #[.ref a, .int 0 0] } := Heap.get?_push_of_some _ (Heap.get?_push_size s1.heap rfl)
    cases ra
    refine enum_call (begins_tuple a its.toArray) isT ?_
    have snd : (enumHeap s1.heap { cls := .type "tuple_iterator", data := .fields #[.ref a, .int 0 0] }).get? (s1.heap.push { cls := .type "tuple_iterator", data := .fields #[.ref a, .int 0 0] }).objs.size = some (enumRec s1.heap.objs.size) := Heap.get?_push_size _ rfl
    have two : (s1.heap.push { cls := .type "tuple_iterator", data := .fields #[.ref a, .int 0 0] }).objs.size = s1.heap.objs.size + 1 := Array.size_push _
    rw [two] at snd ⊢
    refine wpAny_pyIter_enum (i := 0) (it := s1.heap.objs.size) (old := .none) snd ?_
    refine ⟨s1.heap.objs.size + 1, [s1.heap.objs.size + 1, s1.heap.objs.size], At2 a (s1.heap.objs.size + 1) s1.heap.objs.size, Ite2 X.K a, H1, rfl, I1.kept hold, pairs_turn (Nat.succ_ne_self _) (Nat.ne_of_lt (Nat.lt_succ_of_lt lt)) (Nat.ne_of_lt lt), ⟨⟨_, fst, rfl, rfl⟩, .none, snd⟩, fun b m => ?_, r⟩
    have old : s1.heap.objs.size ≤ b := by
      rcases List.mem_cons.mp m with m | m
      · exact m ▸ Nat.le_succ _
      · exact Nat.le_of_eq (List.mem_singleton.mp m).symm
    exact I1.fpOk old (I1.hok.fresh old)
end
end U

set_option maxRecDepth 100000
/-! # Fields in plain Lean: what the program's defs compute, and what holds of that -/
namespace FM
def sizes : List Int := [2, 3, 4, 5, 7, 8, 9, 11, 13, 16]
def base (n : Int) : Int := if n = 4 ∨ n = 8 ∨ n = 16 then 2 else if n = 9 then 3 else n
def places (n : Int) : Nat := if n = 4 ∨ n = 9 then 2 else if n = 8 then 3 else if n = 16 then 4 else 1
def rule (n : Int) : List Int := if n = 4 then [1, 1] else if n = 8 then [1, 1, 0] else if n = 9 then [2, 0] else [1, 1, 0, 0]
/-- the figures of a number, the lowest first -/
def figs (p : Int) : Nat → Int → List Int
  | 0, _ => []
  | k + 1, x => x % p :: figs p k (x / p)
/-- what is left of it behind k figures -/
def rest (p : Int) : Nat → Int → Int
  | 0, x => x
  | k + 1, x => rest p k (x / p)
theorem figs_len (p : Int) : ∀ (k : Nat) (x : Int), (figs p k x).length = k
  | 0, _ => rfl
  | k + 1, x => by show (figs p k (x / p)).length + 1 = k + 1; rw [figs_len p k]
theorem rest_succ (p : Int) : ∀ (k : Nat) (x : Int), rest p (k + 1) x = rest p k x / p
  | 0, _ => rfl
  | k + 1, x => rest_succ p k (x / p)
theorem figs_succ (p : Int) : ∀ (k : Nat) (x : Int), figs p (k + 1) x = figs p k x ++ [rest p k x % p]
  | 0, _ => rfl
  | k + 1, x => by
    show x % p :: figs p (k + 1) (x / p) = x % p :: figs p k (x / p) ++ [rest p k (x / p) % p]
    rw [figs_succ p k]; rfl
/-- the number with these figures -/
def comp (p : Int) (fs : List Int) : Int := fs.reverse.foldl (fun acc f => acc * p + f % p) 0
def addL (p : Int) (k : Nat) (a b s : Int) : List Int := (List.range k).map fun i => (figs p k a).getD i 0 + s * (figs p k b).getD i 0
def addF (n a b s : Int) : Int := if places n = 1 then (a + s * b) % base n else comp (base n) (addL (base n) (places n) a b s)
/-- L[at + j] += left * right, for the first j of fb -/
def mulIn (at_ : Nat) (left : Int) (fb : List Int) (L : List Int) : Nat → List Int
  | 0 => L
  | j + 1 => (mulIn at_ left fb L j).set (at_ + j) ((mulIn at_ left fb L j).getD (at_ + j) 0 + left * fb.getD j 0)
def mulOut (fa fb : List Int) (k : Nat) : Nat → List Int
  | 0 => List.replicate (2 * k) 0
  | i + 1 => mulIn i (fa.getD i 0) fb (mulOut fa fb k i) fb.length
/-- long[at - k + to] += long[at] * figure, for the first j of the rule -/
def redIn (at_ k : Nat) (r : List Int) (L : List Int) : Nat → List Int
  | 0 => L
  | j + 1 => (redIn at_ k r L j).set (at_ - k + j) ((redIn at_ k r L j).getD (at_ - k + j) 0 + (redIn at_ k r L j).getD at_ 0 * r.getD j 0)
def redOut (k : Nat) (r : List Int) (L : List Int) : Nat → List Int
  | 0 => L
  | i + 1 => (redIn (2 * k - 1 - i) k r (redOut k r L i) r.length).set (2 * k - 1 - i) 0
def mulF (n a b : Int) : Int := if places n = 1 then a * b % base n else
  comp (base n) ((redOut (places n) (rule n) (mulOut (figs (base n) (places n) a) (figs (base n) (places n) b) (places n) (places n)) (places n)).take (places n))
theorem mulIn_len (at_ : Nat) (left : Int) (fb L : List Int) : ∀ j, (mulIn at_ left fb L j).length = L.length
  | 0 => rfl
  | j + 1 => by rw [mulIn, List.length_set, mulIn_len at_ left fb L j]
theorem mulOut_len (fa fb : List Int) (k : Nat) : ∀ i, (mulOut fa fb k i).length = 2 * k
  | 0 => by rw [mulOut, List.length_replicate]
  | i + 1 => by rw [mulOut, mulIn_len, mulOut_len fa fb k i]
theorem redIn_len (at_ k : Nat) (r L : List Int) : ∀ j, (redIn at_ k r L j).length = L.length
  | 0 => rfl
  | j + 1 => by rw [redIn, List.length_set, redIn_len at_ k r L j]
theorem redOut_len (k : Nat) (r L : List Int) : ∀ i, (redOut k r L i).length = L.length
  | 0 => rfl
  | i + 1 => by rw [redOut, List.length_set, redIn_len, redOut_len k r L i]
def invL (n a : Int) : List Int := ((List.range (n - 1).toNat).map fun (i : Nat) => (1 : Int) + i).filter fun b => mulF n a b == 1
def invF (n a : Int) : Int := (invL n a).headD 0
def overF (n a b : Int) : Int := mulF n a (invF n b)
/-- powers, by halving -/
def powGo (n : Int) : Nat → Int → Nat → Int → Int
  | 0, found, _, _ => found
  | fuel + 1, found, many, part => if many = 0 then found else powGo n fuel (if many % 2 = 1 then mulF n found part else found) (many / 2) (mulF n part part)
def powF (n a : Int) (m : Nat) : Int := powGo n m 1 m a
/-! ### checked for all sizes and numbers -/
def allN (n : Int) (p : Int → Bool) : Bool := (List.range n.toNat).all fun (i : Nat) => p i
theorem of_allN {n : Int} {p : Int → Bool} (h : allN n p = true) {a : Int} (h0 : 0 ≤ a) (h1 : a < n) : p a = true := by
  have := List.all_eq_true.mp h a.toNat (by rw [List.mem_range]; omega)
  have e : ((a.toNat : Nat) : Int) = a := by omega
  rw [← e]; exact this
def okMul (n : Int) : Bool := allN n fun a => allN n fun b => decide (0 ≤ mulF n a b ∧ mulF n a b < n)
def okAdd (n : Int) : Bool := allN n fun a => allN n fun b => decide (0 ≤ addF n a b 1 ∧ addF n a b 1 < n) && decide (0 ≤ addF n a b (-1) ∧ addF n a b (-1) < n)
def okInv (n : Int) : Bool := allN n fun a => decide (a = 0) || (decide ((invL n a).length ≠ 0) && decide (0 ≤ invF n a ∧ invF n a < n))
theorem okMul_all : sizes.all okMul = true := by decide +kernel
theorem okAdd_all : sizes.all okAdd = true := by decide +kernel
theorem okInv_all : sizes.all okInv = true := by decide +kernel
theorem of_sizes {p : Int → Bool} (h : sizes.all p = true) {n : Int} (hn : n ∈ sizes) : p n = true := List.all_eq_true.mp h n hn
section
variable {n a b : Int}
theorem mul_rng (hn : n ∈ sizes) (a0 : 0 ≤ a) (a1 : a < n) (b0 : 0 ≤ b) (b1 : b < n) : 0 ≤ mulF n a b ∧ mulF n a b < n := of_decide_eq_true (of_allN (of_allN (of_sizes okMul_all hn) a0 a1) b0 b1)
theorem add_rng (hn : n ∈ sizes) (a0 : 0 ≤ a) (a1 : a < n) (b0 : 0 ≤ b) (b1 : b < n) : 0 ≤ addF n a b 1 ∧ addF n a b 1 < n := by
  have := of_allN (of_allN (of_sizes okAdd_all hn) a0 a1) b0 b1
  rw [Bool.and_eq_true] at this
  exact of_decide_eq_true this.1
theorem sub_rng (hn : n ∈ sizes) (a0 : 0 ≤ a) (a1 : a < n) (b0 : 0 ≤ b) (b1 : b < n) : 0 ≤ addF n a b (-1) ∧ addF n a b (-1) < n := by
  have := of_allN (of_allN (of_sizes okAdd_all hn) a0 a1) b0 b1
  rw [Bool.and_eq_true] at this
  exact of_decide_eq_true this.2
theorem inv_ok (hn : n ∈ sizes) (a0 : 0 < a) (a1 : a < n) : (invL n a).length ≠ 0 ∧ 0 ≤ invF n a ∧ invF n a < n := by
  have := of_allN (of_sizes okInv_all hn) (Int.le_of_lt a0) a1
  rw [Bool.or_eq_true, Bool.and_eq_true] at this
  rcases this with h | ⟨h1, h2⟩
  · have := of_decide_eq_true h
    omega
  · exact ⟨of_decide_eq_true h1, of_decide_eq_true h2⟩
end
theorem size_cases {n : Int} (hn : n ∈ sizes) : n = 2 ∨ n = 3 ∨ n = 4 ∨ n = 5 ∨ n = 7 ∨ n = 8 ∨ n = 9 ∨ n = 11 ∨ n = 13 ∨ n = 16 := by simpa [sizes] using hn
theorem size_rng {n : Int} (hn : n ∈ sizes) : 2 ≤ n ∧ n ≤ 16 := by rcases size_cases hn with h | h | h | h | h | h | h | h | h | h <;> omega
theorem base_rng {n : Int} (hn : n ∈ sizes) : 2 ≤ base n ∧ base n ≤ 13 := by rcases size_cases hn with h | h | h | h | h | h | h | h | h | h <;> subst h <;> decide
theorem places_rng {n : Int} (hn : n ∈ sizes) : 1 ≤ places n ∧ places n ≤ 4 := by rcases size_cases hn with h | h | h | h | h | h | h | h | h | h <;> subst h <;> decide
theorem rule_len {n : Int} (hn : n ∈ sizes) (h : places n ≠ 1) : (rule n).length = places n := by rcases size_cases hn with h | h | h | h | h | h | h | h | h | h <;> subst h <;> first | decide | exact absurd (by decide) h
theorem addL_len {p : Int} {k : Nat} {a b s : Int} : (addL p k a b s).length = k := by simp [addL]
/-- the first i candidates of an inverse -/
def invP (n a : Int) (i : Nat) : List Int := ((List.range i).map fun (i : Nat) => (1 : Int) + i).filter fun b => mulF n a b == 1
theorem invP_succ (n a : Int) (i : Nat) : invP n a (i + 1) = if mulF n a (1 + i) = 1 then invP n a i ++ [1 + (i : Int)] else invP n a i := by
  unfold invP
  rw [List.range_succ, List.map_append, List.filter_append]
  show _ ++ List.filter _ [1 + (i : Int)] = _
  by_cases h : mulF n a (1 + i) = 1
  · rw [if_pos h, List.filter_cons_of_pos (by simpa using h), List.filter_nil]
  · rw [if_neg h, List.filter_cons_of_neg (by simpa using h), List.filter_nil, List.append_nil]
theorem invP_len (n a : Int) (i : Nat) : (invP n a i).length ≤ i := by
  unfold invP
  refine Nat.le_trans (List.length_filter_le _ _) ?_
  rw [List.length_map, List.length_range]
  exact Nat.le_refl _
def basesL : List Int := [2, 3, 5, 7, 11, 13]
def basP (n : Int) (i : Nat) : List Int := (basesL.take i).filter fun b => n % b == 0
theorem basP_len (n : Int) (i : Nat) : (basP n i).length ≤ 6 := by
  unfold basP
  refine Nat.le_trans (List.length_filter_le _ _) ?_
  rw [List.length_take]
  exact Nat.le_trans (Nat.min_le_right _ _) (by decide)
theorem basP_end {n : Int} (hn : n ∈ sizes) : (basP n 6)[0]? = some (base n) := by
  rcases size_cases hn with h | h | h | h | h | h | h | h | h | h <;> subst h <;> decide
theorem pow_lt {n : Int} (hn : n ∈ sizes) {k : Nat} (h1 : 1 ≤ k) (h2 : k ≤ places n) : (base n ^ k < n ↔ k < places n) := by
  have h4 := (places_rng hn).2
  have hk : k = 1 ∨ k = 2 ∨ k = 3 ∨ k = 4 := by omega
  rcases size_cases hn with h | h | h | h | h | h | h | h | h | h <;> subst h <;> rcases hk with e | e | e | e <;> subst e <;> first | decide | exact absurd h2 (by decide)
theorem powGo0 (n : Int) (fuel : Nat) (found part : Int) : powGo n fuel found 0 part = found := by
  cases fuel with
  | zero => rfl
  | succ f => rfl
theorem powGo1 (n : Int) (fuel m : Nat) (found part : Int) (h : m ≠ 0) : powGo n (fuel + 1) found m part = powGo n fuel (if m % 2 = 1 then mulF n found part else found) (m / 2) (mulF n part part) := by
  show (if m = 0 then _ else _) = _
  rw [if_neg h]
theorem figs_rng {p : Int} (hp : 0 < p) : ∀ (k : Nat) (x : Int) (i : Nat), 0 ≤ (figs p k x).getD i 0 ∧ (figs p k x).getD i 0 < p
  | 0, x, i => by simpa [figs] using hp
  | k + 1, x, 0 => by
    show 0 ≤ x % p ∧ x % p < p
    exact ⟨Int.emod_nonneg _ (by omega), Int.emod_lt_of_pos _ hp⟩
  | k + 1, x, i + 1 => figs_rng hp k (x / p) i
theorem rule_rng (n : Int) (i : Nat) : 0 ≤ (rule n).getD i 0 ∧ (rule n).getD i 0 ≤ 2 := by
  have : ∀ l : List Int, l ∈ [[1, 1], [1, 1, 0], [2, 0], [1, 1, 0, 0]] → ∀ i : Nat, 0 ≤ l.getD i 0 ∧ l.getD i 0 ≤ 2 := by
    intro l hl i
    have h4 : l.length ≤ 4 := by
      rcases (by simpa using hl : l = [1, 1] ∨ l = [1, 1, 0] ∨ l = [2, 0] ∨ l = [1, 1, 0, 0]) with h | h | h | h <;> subst h <;> decide
    by_cases hi : i < 4
    · have hi' : i = 0 ∨ i = 1 ∨ i = 2 ∨ i = 3 := by omega
      rcases (by simpa using hl : l = [1, 1] ∨ l = [1, 1, 0] ∨ l = [2, 0] ∨ l = [1, 1, 0, 0]) with h | h | h | h <;> subst h <;> rcases hi' with e | e | e | e <;> subst e <;> decide
    · rw [List.getD_eq_getElem?_getD, List.getElem?_eq_none (by omega)]
      decide
  refine this _ ?_ i
  unfold rule
  split
  · simp
  · split
    · simp
    · split <;> simp
theorem comp1 (n : Int) (h : places n ≠ 1) (h' : n ∈ sizes) : n = 4 ∨ n = 8 ∨ n = 9 ∨ n = 16 := by
  rcases size_cases h' with e | e | e | e | e | e | e | e | e | e <;> subst e <;> first | exact absurd (by decide) h | omega
end FM

set_option maxRecDepth 100000
/-! # The fields' laws, checked by tables -/
namespace FM
def tabM (n : Int) : Nat :=
  if n = 2 then 295147905179352825856 else
  if n = 3 then 98001321673230277487191767811267888152576 else
  if n = 4 then 53330256343845239771214889408017248588558707406201035998363648 else
  if n = 5 then 8633458173534295531708957194668506359272841672193293788818684081649949418234839040 else
  if n = 7 then 752134494153338365622163830121678227156171018913178456748888587115968116127437694089971613802901525030371665776032251641856 else
  if n = 8 then 638732648260906949777959678038565379125696596219037394524801015071477239970190909606175165633671146960191918252948923319017128185934182682198016 else
  if n = 9 then 350271593073168926145148751542696170272942420121852288454124347193083665193360404733703433787666620839746384371830655548203159746643362737104589857648376464715808768 else
  if n = 11 then 5707612740341513482889274215300219212607810937975125163326021618047279574149327542673081591604818746784293751015793188419071153316961378705602856340041906233280890908852574691014268478255257506201311641600 else
  if n = 13 then 497203193029057548978455390703706481544668932005568052453289575683692794108682690124607659936678962065035569766277507777915876887660390400113997489778725659446389730475565544531550620901614322287356732407761353473585146035747697513696149221933056 else
  116196760129267793630862849262464326346044543732748708940920453221664288556434379745879494961270582141731748813355742142288220638766218855867759359510984593843506004200114943278699875244065120512813025380665946106619127097398772031257643617143689515450995722003729973585221105779229319991106539050771048038400
def tabA (n : Int) : Nat :=
  if n = 2 then 18446744073709551632 else
  if n = 3 then 87792850665602123574159391271828613759504 else
  if n = 4 then 1826636604997524103687025415407641796770237830395656339993104 else
  if n = 5 then 23744325819004059034406350039066560157511542246644346540764386605092696850526646800 else
  if n = 7 then 3478623690343450189344135562249338476532584588467764427001429982800215446745271625268546827762217480443917131115877490766352 else
  if n = 8 then 13874437610526695973432030937281792794508753341615275460032961883811228700950539972536064596195808715573671356327488034696840624189815766921744 else
  if n = 9 then 242280702199725469974352990928395429226526593484772418668161944328841606494906220325586153284455581685689327813808656503597945483892057202906626319625518304218853904 else
  if n = 11 then 47801256700862043884254755031597379698302990695283899141412257882146020190621083950061315865283666969764863811388089464880391574791307388108407416765586075869961916621518697839661709194056553661440086782480 else
  if n = 13 then 5096332728548082069550025266041584509188004531269844101955021339290952149362303233226047325008983535190781031862781861491610551473830180381547968324462846126141658343850264751256541395366141382817658748651597524911171831391961899910866176572666384 else
  798974726605473726946832238011593618400339158202517049033210936078539962612148351302787556971974837864606271200763683943951953866025539096785282858647326000342156170857478456413950631519959977197563975844721619162716127815821009475742892049151496040916675244806998969647283770674449648040311876430683451920
def tabS (n : Int) : Nat :=
  if n = 2 then 18446744073709551632 else
  if n = 3 then 6125082604576892351803922643584827785504 else
  if n = 4 then 1826636604997524103687025415407641796770237830395656339993104 else
  if n = 5 then 539591135845893472321171984066689216925967072799218066438690850816917581846356800 else
  if n = 7 then 47008405884583648061467424797718584759945791232612042288631768981257414823882029296160509060924983202698854755891344000352 else
  if n = 8 then 13874437610526695973432030937281792794508753341615275460032961883811228700950539972536064596195808715573671356327488034696840624189815766921744 else
  if n = 9 then 4095011303551043298381458892634582099661919021127691590168361890825419730600297983608501207060755564031003343017753233465183726221160828082437653171683206079471904 else
  if n = 11 then 356725796271344595362538697544313619467488421369493498037371366550617322162310163111120231790700680003529965624301981853184719610088996951904922053270643896404871333048989141424242719323225739706285656480 else
  if n = 13 then 31075199564316097092164123159986678234084653062908532215099406960826074416817190105457162947172925869819060714816167685174817539909593556569676637595108693817430559743853949985054494722265734731669003308448100526216960918092851998983265129704384 else
  798974726605473726946832238011593618400339158202517049033210936078539962612148351302787556971974837864606271200763683943951953866025539096785282858647326000342156170857478456413950631519959977197563975844721619162716127815821009475742892049151496040916675244806998969647283770674449648040311876430683451920

def lk (t a b : Nat) : Nat := (t >>> (4 * (16 * a + b))) % 16
def allT (n : Nat) (p : Nat → Bool) : Bool := (List.range n).all p
def okTab (n : Int) : Bool := allT n.toNat fun a => allT n.toNat fun b => decide (mulF n a b = (lk (tabM n) a b : Nat)) && decide (addF n a b 1 = (lk (tabA n) a b : Nat)) && decide (addF n a b (-1) = (lk (tabS n) a b : Nat))
theorem okTab_all : sizes.all okTab = true := by decide +kernel
def ok2 (m : Nat) (tm ta ts : Nat) : Bool := allT m fun a => allT m fun b =>
  Nat.beq (lk tm a b) (lk tm b a) && Nat.beq (lk ta a b) (lk ta b a) && Nat.beq (lk ta (lk ts a b) b) a && Nat.beq (lk ts a a) 0 && Nat.beq (lk tm a 1) a
def ok3 (m : Nat) (tm ta : Nat) : Bool := allT m fun a => allT m fun b => allT m fun c =>
  Nat.beq (lk tm (lk tm a b) c) (lk tm a (lk tm b c)) && Nat.beq (lk ta (lk ta a b) c) (lk ta a (lk ta b c)) && Nat.beq (lk tm a (lk ta b c)) (lk ta (lk tm a b) (lk tm a c))
theorem ok2_all : (sizes.all fun n => ok2 n.toNat (tabM n) (tabA n) (tabS n)) = true := by decide +kernel
theorem ok3_all : (sizes.all fun n => ok3 n.toNat (tabM n) (tabA n)) = true := by decide +kernel
def okOver (n : Int) : Bool := allN n fun a => allN n fun b => decide (b = 0) || decide (mulF n (overF n a b) b = a)
def okPow (n : Int) : Bool := allN n fun a => decide (powF n a n.toNat = a)
theorem okOver_all : sizes.all okOver = true := by decide +kernel
theorem okPow_all : sizes.all okPow = true := by decide +kernel
theorem of_allT {n : Nat} {p : Nat → Bool} (h : allT n p = true) {a : Nat} (h1 : a < n) : p a = true := List.all_eq_true.mp h a (List.mem_range.mpr h1)
section
variable {n a b c : Int}
theorem tabs (hn : n ∈ sizes) {a b : Nat} (ha : (a : Int) < n) (hb : (b : Int) < n) : mulF n a b = (lk (tabM n) a b : Nat) ∧ addF n a b 1 = (lk (tabA n) a b : Nat) ∧ addF n a b (-1) = (lk (tabS n) a b : Nat) := by
  have h := of_allT (of_allT (of_sizes okTab_all hn) (a := a) (by omega)) (a := b) (by omega)
  rw [Bool.and_eq_true, Bool.and_eq_true] at h
  exact ⟨of_decide_eq_true h.1.1, of_decide_eq_true h.1.2, of_decide_eq_true h.2⟩
theorem natOf (h0 : 0 ≤ a) : ∃ k : Nat, a = (k : Int) := ⟨a.toNat, by omega⟩
theorem laws2 (hn : n ∈ sizes) (a0 : 0 ≤ a) (a1 : a < n) (b0 : 0 ≤ b) (b1 : b < n) : mulF n a b = mulF n b a ∧ addF n a b 1 = addF n b a 1 ∧ addF n (addF n a b (-1)) b 1 = a ∧ addF n a a (-1) = 0 ∧ mulF n a 1 = a := by
  obtain ⟨a, rfl⟩ := natOf a0
  obtain ⟨b, rfl⟩ := natOf b0
  have sr := size_rng hn
  have h := of_allT (of_allT (of_sizes (p := fun n => ok2 n.toNat (tabM n) (tabA n) (tabS n)) ok2_all hn) (a := a) (by omega)) (a := b) (by omega)
  simp only [Bool.and_eq_true] at h
  obtain ⟨⟨⟨⟨h1, h2⟩, h3⟩, h4⟩, h5⟩ := h
  replace h1 := Nat.eq_of_beq_eq_true h1
  replace h2 := Nat.eq_of_beq_eq_true h2
  replace h3 := Nat.eq_of_beq_eq_true h3
  replace h4 := Nat.eq_of_beq_eq_true h4
  replace h5 := Nat.eq_of_beq_eq_true h5
  have t1 := tabs hn a1 b1
  have t2 := tabs hn b1 a1
  have t3 := tabs hn a1 a1
  have r := sub_rng hn a0 a1 b0 b1
  rw [t1.2.2] at r
  have t4 := tabs hn (a := lk (tabS n) a b) (b := b) r.2 b1
  have t5 := tabs hn (a := a) (b := 1) a1 (by omega)
  refine ⟨?_, ?_, ?_, ?_, ?_⟩
  · rw [t1.1, t2.1, h1]
  · rw [t1.2.1, t2.2.1, h2]
  · rw [t1.2.2, t4.2.1, h3]
  · rw [t3.2.2, h4]; rfl
  · rw [show (1 : Int) = ((1 : Nat) : Int) from rfl, t5.1, h5]
theorem laws3 (hn : n ∈ sizes) (a0 : 0 ≤ a) (a1 : a < n) (b0 : 0 ≤ b) (b1 : b < n) (c0 : 0 ≤ c) (c1 : c < n) :
    mulF n (mulF n a b) c = mulF n a (mulF n b c) ∧ addF n (addF n a b 1) c 1 = addF n a (addF n b c 1) 1 ∧ mulF n a (addF n b c 1) = addF n (mulF n a b) (mulF n a c) 1 := by
  have m1 := mul_rng hn a0 a1 b0 b1
  have m2 := mul_rng hn b0 b1 c0 c1
  have m3 := mul_rng hn a0 a1 c0 c1
  have d1 := add_rng hn a0 a1 b0 b1
  have d2 := add_rng hn b0 b1 c0 c1
  obtain ⟨a, rfl⟩ := natOf a0
  obtain ⟨b, rfl⟩ := natOf b0
  obtain ⟨c, rfl⟩ := natOf c0
  have sr := size_rng hn
  have h := of_allT (of_allT (of_allT (of_sizes (p := fun n => ok3 n.toNat (tabM n) (tabA n)) ok3_all hn) (a := a) (by omega)) (a := b) (by omega)) (a := c) (by omega)
  simp only [Bool.and_eq_true] at h
  obtain ⟨⟨h1, h2⟩, h3⟩ := h
  replace h1 := Nat.eq_of_beq_eq_true h1
  replace h2 := Nat.eq_of_beq_eq_true h2
  replace h3 := Nat.eq_of_beq_eq_true h3
  have tab := tabs hn a1 b1
  have tbc := tabs hn b1 c1
  have tac := tabs hn a1 c1
  rw [tab.1] at m1
  rw [tbc.1] at m2
  rw [tac.1] at m3
  rw [tab.2.1] at d1
  rw [tbc.2.1] at d2
  refine ⟨?_, ?_, ?_⟩
  · rw [tab.1, tbc.1, (tabs hn m1.2 c1).1, (tabs hn a1 m2.2).1, h1]
  · rw [tab.2.1, tbc.2.1, (tabs hn d1.2 c1).2.1, (tabs hn a1 d2.2).2.1, h2]
  · rw [tab.1, tac.1, tbc.2.1, (tabs hn a1 d2.2).1, (tabs hn m1.2 m3.2).2.1, h3]
theorem over_mul (hn : n ∈ sizes) (a0 : 0 ≤ a) (a1 : a < n) (b0 : 0 ≤ b) (b1 : b < n) (hb : b ≠ 0) : mulF n (overF n a b) b = a := by
  have h := of_allN (of_allN (of_sizes okOver_all hn) a0 a1) b0 b1
  rw [Bool.or_eq_true] at h
  rcases h with h | h
  · exact absurd (of_decide_eq_true h) hb
  · exact of_decide_eq_true h
theorem over_rng (hn : n ∈ sizes) (a0 : 0 ≤ a) (a1 : a < n) (b0 : 0 ≤ b) (b1 : b < n) (hb : b ≠ 0) : 0 ≤ overF n a b ∧ overF n a b < n := by
  have i := inv_ok hn (a := b) (by omega) b1
  exact mul_rng hn a0 a1 i.2.1 i.2.2
theorem pow_size (hn : n ∈ sizes) (a0 : 0 ≤ a) (a1 : a < n) : powF n a n.toNat = a := of_decide_eq_true (of_allN (of_sizes okPow_all hn) a0 a1)
def rngL (n : Int) : List Int := (List.range n.toNat).map fun (i : Nat) => (i : Int)
def rowA (n a : Int) : List Int := (List.range n.toNat).map fun (i : Nat) => addF n a i 1
def rowM (n a : Int) : List Int := (List.range n.toNat).map fun (i : Nat) => mulF n a i
def okRow (n : Int) : Bool := allN n fun a => (rowA n a).isPerm (rngL n) && (decide (a = 0) || (rowM n a).isPerm (rngL n))
theorem okRow_all : sizes.all okRow = true := by decide +kernel
theorem rowA_perm (hn : n ∈ sizes) (a0 : 0 ≤ a) (a1 : a < n) : (rowA n a).Perm (rngL n) := by
  have h := of_allN (of_sizes okRow_all hn) a0 a1
  rw [Bool.and_eq_true] at h
  exact List.isPerm_iff.mp h.1
theorem rowM_perm (hn : n ∈ sizes) (a0 : 0 ≤ a) (a1 : a < n) (hz : a ≠ 0) : (rowM n a).Perm (rngL n) := by
  have h := of_allN (of_sizes okRow_all hn) a0 a1
  rw [Bool.and_eq_true, Bool.or_eq_true] at h
  rcases h.2 with h | h
  · exact absurd (of_decide_eq_true h) hz
  · exact List.isPerm_iff.mp h
theorem rngL_sorted (n : Int) : (rngL n).Pairwise (· ≤ ·) := by
  unfold rngL
  refine List.Pairwise.map _ (fun a b (h : a < b) => by omega) (List.pairwise_lt_range)
end
end FM

set_option Elab.async false
set_option linter.all false
set_option maxRecDepth 100000
set_option maxHeartbeats 4000000
/-! ### own steps (local) -/
local macro_rules | `(tactic| walk_at "hp") => `(tactic| first
  | assumption
  | exact L2.upd_same
  | ((with_reducible refine U.upd_new ?_ ?_); (focus (first | assumption | done)); walk_at "hp")
  | ((with_reducible refine U.upd_ne'' ?_ ?_); (focus (first | assumption | (apply Ne.symm; assumption))); walk_at "hp")
  | ((with_reducible refine' U.Same.get ?hx ?hy); (case hx => assumption); (case hy => walk_at "hp"))
  | fail "hp")
local macro_rules | `(tactic| walk_at "lay") => `(tactic| (intro p hn; generalize hg : L2.upd _ p _ = H'; have hs := U.same_of hg hn; have ho := U.at_of hg; clear hg))
local macro_rules | `(tactic| walk_at "sz") => `(tactic| first | decide | (show _ ≤ PySem.sizeLine; rw [PySem.sizeLine_eq]; (try simp only [List.length_cons, List.length_nil, List.length_map]); omega))
local macro_rules | `(tactic| walk_at "ref'") => `(tactic| skip)
local macro_rules | `(tactic| walk_at "rd1") => `(tactic| first
  | (with_reducible refine' U.i_seq ?_)
  | (with_reducible refine' U.i_asg ?_)
  | (with_reducible refine' U.i_ret ?_)
  | (with_reducible refine' U.i_ifS ?_)
  | (with_reducible refine' U.i_drop ?_)
  | ((with_reducible refine' U.i_var ?hx ?_); (case hx => rfl))
  | (with_reducible refine' U.i_c ?_)
  | (with_reducible refine' U.i_op ?_)
  | (with_reducible refine' U.i_un ?_)
  | (with_reducible refine' U.i_name ?_)
  | (with_reducible refine' U.i_gsub ?_)
  | (with_reducible refine' U.i_test ?_)
  | (with_reducible refine' U.i_tB ?_)
  | (with_reducible refine' U.i_bl ?_)
  | (with_reducible refine' U.i_not ?_)
  | (with_reducible refine' U.i_nil ?_)
  | (with_reducible refine' U.i_cons ?_)
  | (with_reducible refine' U.i_cb ?_)
  | (with_reducible refine' U.i_call ?_)
  | (with_reducible refine' U.i_fld ?_)
  | ((with_reducible refine' U.i_fld' ?hx ?hy ?hz ?hw ?_); (case hx => walk_at "hp"); (case hy => assumption); (case hz => assumption); (case hw => rfl))
  | (with_reducible refine' U.i_meth ?_)
  | ((with_reducible refine' U.i_meth' ?hx ?hy ?_); (case hx => walk_at "hp"); (case hy => rfl))
  | (with_reducible refine' U.i_add ?_)
  | (with_reducible refine' U.i_sub ?_)
  | ((with_reducible refine' U.i_mul ?hx ?_); (case hx => (first | (left; constructor <;> omega) | (right; constructor <;> omega))))
  | ((with_reducible refine' U.i_mod ?hx ?_); (case hx => omega))
  | ((with_reducible refine' U.i_fdiv ?hx ?_); (case hx => (constructor <;> omega)))
  | ((with_reducible refine' U.i_pow ?hx ?_); (case hx => (refine ⟨?_, ?_, ?_⟩ <;> decide)))
  | (with_reducible refine' U.i_lt ?_)
  | (with_reducible refine' U.i_le ?_)
  | (with_reducible refine' U.i_gt ?_)
  | (with_reducible refine' U.i_ge ?_)
  | (with_reducible refine' U.i_eqI ?_)
  | (with_reducible refine' U.i_neI ?_)
  | (with_reducible refine' U.i_rU ?_)
  | (with_reducible refine' U.i_abs ?_)
  | ((with_reducible refine' U.i_ixL ?hx ?hy ?_); (case hx => exact L2.SqL.of (by walk_at "hp")); (case hy => rfl))
  | ((with_reducible refine' U.i_lenL ?hx ?_); (case hx => exact L2.SqL.of (by walk_at "hp")))
  | ((with_reducible refine' U.i_setL ?hx ?hy ?_); (case hx => walk_at "hp"); (case hy => rfl))
  | (with_reducible refine' U.i_augS ?_)
  | ((with_reducible refine' U.i_aug ?hx ?_); (case hx => rfl))
  | (with_reducible refine' U.i_ipI ?_)
  | ((with_reducible refine' U.i_ipMul ?hx ?_); (case hx => (first | (left; constructor <;> omega) | (right; constructor <;> omega))))
  | ((with_reducible refine' U.i_gtup ?hx ?hy ?_); (case hx => exact L2.SqT.of (by walk_at "hp")); (case hy => rfl))
  | (with_reducible refine' U.i_gcons ?_)
  | (with_reducible refine' U.i_gnil ?_)
  | ((with_reducible refine' U.i_divmod ?hx ?_); (case hx => (constructor <;> omega)); walk_at "lay")
  | (with_reducible refine' U.i_tup ?_)
  | (with_reducible refine' U.i_lst ?_)
  | ((with_reducible refine' U.lay_and ?hx ?_); (case hx => walk_at "sz"); walk_at "lay")
  | (with_reducible refine' U.i_sl ?_)
  | (with_reducible refine' U.i_part ?_)
  | (with_reducible refine' U.i_part' ?_)
  | (with_reducible refine' U.i_nopart ?_)
  | ((with_reducible refine' U.i_slL ?hx ?_); (case hx => exact L2.SqL.of (by walk_at "hp")); walk_at "lay")
  | (with_reducible refine' U.i_bm ?_)
  | ((with_reducible refine' U.i_bm' ?hx ?_); (case hx => walk_at "hp"))
  | ((with_reducible refine' U.i_append ?hx ?hy ?_); (case hx => walk_at "hp"); (case hy => walk_at "szl"))
  | (with_reducible refine' U.i_chain ?_)
  | (with_reducible refine' U.i_rng1 ?_)
  | ((with_reducible refine' U.i_rng1' ?hx ?hy ?_); (case hx => omega); (case hy => omega))
  | (with_reducible refine' U.i_rng2 ?_)
  | ((with_reducible refine' U.i_rng2' ?hx ?_); (case hx => (refine ⟨?_, ?_, ?_, ?_⟩ <;> omega)))
  | (with_reducible refine' U.i_rng3 ?_)
  | (with_reducible refine' U.i_enum ?_)
  | ((with_reducible refine' U.i_enum' ?hx ?_); (case hx => exact L2.SqL.of (by walk_at "hp")))
  | (with_reducible refine' U.i_enumT ?_)
  | ((with_reducible refine' U.i_enumT' ?hx ?_); (case hx => exact L2.SqT.of (by walk_at "hp")))
  | (with_reducible refine' U.i_rev ?_)
  | ((with_reducible refine' U.i_rev' ?hx ?_); (case hx => exact L2.SqL.of (by walk_at "hp")))
  | (with_reducible refine' U.i_plist ?_)
  | ((with_reducible refine' U.i_plist' ?hx ?_); (case hx => exact L2.SqL.of (by walk_at "hp")))
  | (with_reducible refine' U.i_for ?_)
  | (with_reducible refine' U.i_sfld ?_)
  | ((with_reducible refine' U.i_sfld' ?hx ?hy ?hz ?hw ?_); (case hx => walk_at "hp"); (case hy => assumption); (case hz => assumption); (case hw => exact Nat.le_of_ble_eq_true rfl))
  | (with_reducible refine' U.i_lc ?_)
  | (with_reducible refine' U.i_par3 ?_)
  | (with_reducible refine' U.i_par3' ?_)
  | (with_reducible refine' U.i_par ?_)
  | (with_reducible refine' U.i_par' ?_)
  | (with_reducible refine' U.i_lrg ?_)
  | (with_reducible refine' U.i_rg1 ?_)
  | (with_reducible refine' U.i_rg1' ?_)
  | (with_reducible refine' U.i_pl ?_)
  | ((with_reducible refine' U.i_pl' ?hx ?hy ?_); (case hx => walk_at "hp"); (case hy => exact Nat.le_of_ble_eq_true rfl))
  | (with_reducible refine' U.i_rAdd ?_)
  | ((with_reducible refine' U.i_listOf ?hx ?_); (case hx => exact L2.SqL.of (by walk_at "hp")); walk_at "lay")
  | (with_reducible refine' U.i_intB ?_)
  | (with_reducible refine' U.i_wget ?_)
  | (with_reducible refine' U.i_yes ?_)
  | (with_reducible refine' L2.iteT ?_)
  | (with_reducible refine' U.i_next ?_)
  | fail "rd1")
local macro_rules | `(tactic| walk_at "szl") => `(tactic| first | decide | (refine L2.small1000 ?_; (try simp only [List.length_cons, List.length_nil, List.length_map]); omega))
local macro_rules | `(tactic| walk_at "rd") => `(tactic| (repeat walk_at "rd1"))
local macro_rules | `(tactic| walk_at "ro") => `(tactic| (refine' U.i_or ?_; walk_at "rd"))
local macro_rules | `(tactic| walk_at "ra") => `(tactic| (refine' U.i_pt ?_; walk_at "rd"))

namespace Lw
open PySem L2 U
def top (i : Nat) : Stmt := PySem.Challenge.pw_mingleway_k04_whole_fields_are_fields.main.body.getD i (.Pass ⟨0, 0, 0, 0⟩)
structure Ad where
  BadSize : Addr
  BadNumber : Addr
  NoShare : Addr
  SIZES : Addr
  BASES : Addr
  r4 : Addr
  r8 : Addr
  r9 : Addr
  r16 : Addr
  RULES : Addr
  Field : Addr
structure Txt (P : Program) (w : World) (K : PySem.W.Frag) (mg : Str → Option Value) (A : Ad) : Prop where
  len : mg "len" = none
  abs : mg "abs" = none
  list : mg "list" = none
  int : mg "int" = none
  d_law_bag : U.DA K mg "_law_bag" (top 14) ["_law_script"] []
  d_law_pull : U.DA K mg "_law_pull" (top 15) ["_law_bag_here", "_law_tally"] []
  d_law_size : U.DA K mg "_law_size" (top 16) ["_law_bag_here"] []
  range : mg "range" = none
  sorted : mg "sorted" = none
  enumerate : mg "enumerate" = none
  reversed : mg "reversed" = none
  divmod : mg "divmod" = none
  e_BadSize : U.EA K mg "BadSize" A.BadSize
  e_BadNumber : U.EA K mg "BadNumber" A.BadNumber
  e_NoShare : U.EA K mg "NoShare" A.NoShare
  g_SIZES : mg "SIZES" = some (.ref A.SIZES)
  s_SIZES : ∀ H, SqT K H A.SIZES [V.int 2, V.int 3, V.int 4, V.int 5, V.int 7, V.int 8, V.int 9, V.int 11, V.int 13, V.int 16]
  g_BASES : mg "BASES" = some (.ref A.BASES)
  s_BASES : ∀ H, SqT K H A.BASES [V.int 2, V.int 3, V.int 5, V.int 7, V.int 11, V.int 13]
  g_RULES : mg "RULES" = some (.ref A.RULES)
  w_RULES : U.WD P w K A.RULES [((Sum.inl 4 : Key), V.ref A.r4), ((Sum.inl 8 : Key), V.ref A.r8), ((Sum.inl 9 : Key), V.ref A.r9), ((Sum.inl 16 : Key), V.ref A.r16)]
  s_r4 : ∀ H, SqT K H A.r4 [V.int 1, V.int 1]
  s_r8 : ∀ H, SqT K H A.r8 [V.int 1, V.int 1, V.int 0]
  s_r9 : ∀ H, SqT K H A.r9 [V.int 2, V.int 0]
  s_r16 : ∀ H, SqT K H A.r16 [V.int 1, V.int 1, V.int 0, V.int 0]
  d_grown : U.DA K mg "grown" (top 11) ["one", "many"] []
  c_Field : Cls K A.Field
  na_Field_many : NoAttr K A.Field "many"
  na_Field_prime : NoAttr K A.Field "prime"
  na_Field_places : NoAttr K A.Field "places"
  n_Field : U.NA K mg "Field" A.Field "Field.__init__" (inClass (top 12) 0) ["self", "size"] [V.int 16]
  m_Field_size : U.MA K A.Field "size" "Field.size" (inClass (top 12) 5) ["self"] []
  m_Field_has : U.MA K A.Field "has" "Field.has" (inClass (top 12) 7) ["self", "one"] []
  m_Field_need : U.MA K A.Field "need" "Field.need" (inClass (top 12) 8) ["self", "one"] []
  m_Field_figures : U.MA K A.Field "figures" "Field.figures" (inClass (top 12) 9) ["self", "one"] []
  m_Field_composed : U.MA K A.Field "composed" "Field.composed" (inClass (top 12) 10) ["self", "figures"] []
  m_Field_added : U.MA K A.Field "added" "Field.added" (inClass (top 12) 11) ["self", "one", "other", "sign"] []
  m_Field_plus : U.MA K A.Field "plus" "Field.plus" (inClass (top 12) 12) ["self", "one", "other"] []
  m_Field_less : U.MA K A.Field "less" "Field.less" (inClass (top 12) 13) ["self", "one", "other"] []
  m_Field_product : U.MA K A.Field "product" "Field.product" (inClass (top 12) 14) ["self", "one", "other"] []
  m_Field_times : U.MA K A.Field "times" "Field.times" (inClass (top 12) 15) ["self", "one", "other"] []
  m_Field_inverse : U.MA K A.Field "inverse" "Field.inverse" (inClass (top 12) 16) ["self", "one"] []
  m_Field_over : U.MA K A.Field "over" "Field.over" (inClass (top 12) 17) ["self", "one", "other"] []
  m_Field_power : U.MA K A.Field "power" "Field.power" (inClass (top 12) 18) ["self", "one", "many"] []


/-! ### promises -/
def Bag (H : Hp) (a : Addr) : Prop := ∃ (c : Addr) (ns : List Int) (i l s : Int), H a = some (.lst [.ref c, .int i, .int l, .int s]) ∧ H c = some (.lst (ns.map V.int)) ∧ a ≠ c ∧ 0 ≤ i ∧ 0 ≤ s ∧ s < 2147483629
def spPull : Sp := fun vs H Q _ => ∃ (a : Addr) (n : Int), vs = [.ref a, .int n] ∧ Bag H a ∧ 0 < n ∧ n < 1073741824 ∧ ∀ (r : Int) (H' : Hp), 0 ≤ r → r < n → Bag H' a → But a H H' → Q (.int r) H'
def spSize : Sp := fun vs H Q _ => ∃ (a : Addr), vs = [.ref a] ∧ Bag H a ∧ ∀ (r : Int) (H' : Hp), r ∈ FM.sizes → Bag H' a → But a H H' → Q (.int r) H'
def spBag (K : PySem.W.Frag) : Sp := fun vs H Q _ => ∃ (a : Addr) (ns : List Int), vs = [.ref a] ∧ SqL K H a (ns.map V.int) ∧ ns.length ≤ 63 ∧ ∀ (b : Addr) (H' : Hp), H b = none → Same H H' → Bag H' b → Q (.ref b) H'
theorem Bag.same {H H' : Hp} {a : Addr} (h : Bag H a) (s : Same H H') : Bag H' a := by
  obtain ⟨c, ns, i, l, z, h1, h2, h3⟩ := h
  exact ⟨c, ns, i, l, z, s _ _ h1, s _ _ h2, h3⟩
/-- a Field of size n stands at p -/
def flds (n : Int) : List (Str × V) := [("many", .int n), ("prime", .int (FM.base n)), ("places", .int (FM.places n : Nat))]
def FA (A : Ad) (H : Hp) (p : Addr) (n : Int) : Prop := n ∈ FM.sizes ∧ ∃ dx, H p = some (.ins A.Field dx (flds n))
theorem FA.same {A : Ad} {H H' : Hp} {p : Addr} {n : Int} (h : FA A H p n) (s : Same H H') : FA A H' p n := by
  obtain ⟨h1, dx, h2⟩ := h
  exact ⟨h1, dx, s _ _ h2⟩
theorem FA.but {A : Ad} {H H' : Hp} {p a : Addr} {n : Int} (h : FA A H p n) (s : But a H H') (ne : p ≠ a) : FA A H' p n := by
  obtain ⟨h1, dx, h2⟩ := h
  exact ⟨h1, dx, s _ _ h2 ne⟩
local macro_rules | `(tactic| walk_at "fa") => `(tactic| first
  | assumption
  | ((with_reducible refine' Lw.FA.same ?hx ?hy); (case hy => assumption); (case hx => walk_at "fa"))
  | fail "fa")
local macro_rules | `(tactic| walk_at "bg") => `(tactic| first
  | assumption
  | ((with_reducible refine' Lw.Bag.same ?hx ?hy); (case hy => assumption); (case hx => walk_at "bg"))
  | fail "bg")
def spGrown : Sp := fun vs H Q _ => ∃ (a : Int) (k : Nat), vs = [.int a, .int (k : Nat)] ∧ -(2 ^ 64) < a ∧ a < 2 ^ 64 ∧ k < 2 ^ 62 ∧ Q (.int (a ^ k)) H
def spInit (A : Ad) : Sp := fun vs H Q E => ∃ (p dx : Addr) (n : Int), vs = [.ref p, .int n] ∧ H p = some (.ins A.Field dx []) ∧
  (n ∈ FM.sizes → ∀ H', (∀ b o, H b = some o → b ≠ p → H' b = some o) → FA A H' p n → Q .non H') ∧ (n ∉ FM.sizes → E (.ref A.BadSize) none H)
def spHas (A : Ad) : Sp := fun vs H Q _ => ∃ (p : Addr) (n a : Int), vs = [.ref p, .int a] ∧ FA A H p n ∧ Q (.bl (decide (0 ≤ a ∧ a < n))) H
def spNeed (A : Ad) : Sp := fun vs H Q E => ∃ (p : Addr) (n a : Int), vs = [.ref p, .int a] ∧ FA A H p n ∧ (0 ≤ a ∧ a < n → Q .non H) ∧ (¬ (0 ≤ a ∧ a < n) → E (.ref A.BadNumber) none H)
def spFigs (A : Ad) : Sp := fun vs H Q _ => ∃ (p : Addr) (n a : Int), vs = [.ref p, .int a] ∧ FA A H p n ∧ ∀ l H', H l = none → Same H H' → H' l = some (.lst ((FM.figs (FM.base n) (FM.places n) a).map V.int)) → Q (.ref l) H'
def spComp (A : Ad) : Sp := fun vs H Q _ => ∃ (p l : Addr) (n : Int) (fs : List Int), vs = [.ref p, .ref l] ∧ FA A H p n ∧ H l = some (.lst (fs.map V.int)) ∧ Q (.int (FM.comp (FM.base n) fs)) H
def spAdded (A : Ad) : Sp := fun vs H Q _ => ∃ (p : Addr) (n a b s : Int), vs = [.ref p, .int a, .int b, .int s] ∧ FA A H p n ∧ (s = 1 ∨ s = -1) ∧ ∀ H', Same H H' → Q (.int (FM.addF n a b s)) H'
/-- an operation on two numbers of the field -/
def spOp (A : Ad) (f : Int → Int → Int → Int) : Sp := fun vs H Q E => ∃ (p : Addr) (n a b : Int), vs = [.ref p, .int a, .int b] ∧ FA A H p n ∧
  ((0 ≤ a ∧ a < n) ∧ (0 ≤ b ∧ b < n) → ∀ H', Same H H' → Q (.int (f n a b)) H') ∧ (¬ ((0 ≤ a ∧ a < n) ∧ (0 ≤ b ∧ b < n)) → E (.ref A.BadNumber) none H)
def spProd (A : Ad) : Sp := fun vs H Q _ => ∃ (p : Addr) (n a b : Int), vs = [.ref p, .int a, .int b] ∧ FA A H p n ∧ (0 ≤ a ∧ a < n) ∧ (0 ≤ b ∧ b < n) ∧ ∀ H', Same H H' → Q (.int (FM.mulF n a b)) H'
def spInv (A : Ad) : Sp := fun vs H Q _ => ∃ (p : Addr) (n a : Int), vs = [.ref p, .int a] ∧ FA A H p n ∧ 0 < a ∧ a < n ∧ ∀ H', Same H H' → Q (.int (FM.invF n a)) H'
def spOver (A : Ad) : Sp := fun vs H Q E => ∃ (p : Addr) (n a b : Int), vs = [.ref p, .int a, .int b] ∧ FA A H p n ∧
  ((0 ≤ a ∧ a < n) ∧ (0 ≤ b ∧ b < n) → b ≠ 0 → ∀ H', Same H H' → Q (.int (FM.overF n a b)) H') ∧ (¬ ((0 ≤ a ∧ a < n) ∧ (0 ≤ b ∧ b < n)) → E (.ref A.BadNumber) none H) ∧
  ((0 ≤ a ∧ a < n) ∧ (0 ≤ b ∧ b < n) → b = 0 → ∀ H', Same H H' → E (.ref A.NoShare) none H')
def spPow (A : Ad) : Sp := fun vs H Q E => ∃ (p : Addr) (n a m : Int), vs = [.ref p, .int a, .int m] ∧ FA A H p n ∧
  ((0 ≤ a ∧ a < n) ∧ 0 ≤ m → ∀ H', Same H H' → Q (.int (FM.powF n a m.toNat)) H') ∧ (¬ ((0 ≤ a ∧ a < n) ∧ 0 ≤ m) → E (.ref A.BadNumber) none H)
def spGetN (A : Ad) (f : Int → Int) : Sp := fun vs H Q _ => ∃ (p : Addr) (n : Int), vs = [.ref p] ∧ FA A H p n ∧ Q (.int (f n)) H
theorem spOp.go {A : Ad} {f : Int → Int → Int → Int} {H : Hp} {Q : VK} {E : XK} {p : Addr} {n a b : Int} (fa : FA A H p n) (ra : 0 ≤ a ∧ a < n) (rb : 0 ≤ b ∧ b < n) (q : ∀ H', Same H H' → Q (.int (f n a b)) H') : spOp A f [.ref p, .int a, .int b] H Q E :=
  ⟨p, n, a, b, rfl, fa, fun _ => q, fun z => absurd ⟨ra, rb⟩ z⟩
/-- a call of an operation on two numbers of the field -/
local macro_rules | `(tactic| walk_at "op2") => `(tactic| (refine' Lw.spOp.go ?fa ?ra ?rb ?q; (case fa => walk_at "fa"); (case ra => constructor <;> omega); (case rb => constructor <;> omega); intro H' s'; walk_at "rd"))
theorem spOver.go {A : Ad} {H : Hp} {Q : VK} {E : XK} {p : Addr} {n a b : Int} (fa : FA A H p n) (ra : 0 ≤ a ∧ a < n) (rb : 0 ≤ b ∧ b < n) (hb : b ≠ 0) (q : ∀ H', Same H H' → Q (.int (FM.overF n a b)) H') : spOver A [.ref p, .int a, .int b] H Q E :=
  ⟨p, n, a, b, rfl, fa, fun _ _ => q, fun z => absurd ⟨ra, rb⟩ z, fun _ z => absurd z hb⟩
theorem spPow.go {A : Ad} {H : Hp} {Q : VK} {E : XK} {p : Addr} {n a m : Int} (fa : FA A H p n) (ra : 0 ≤ a ∧ a < n) (hm : 0 ≤ m) (q : ∀ H', Same H H' → Q (.int (FM.powF n a m.toNat)) H') : spPow A [.ref p, .int a, .int m] H Q E :=
  ⟨p, n, a, m, rfl, fa, fun _ => q, fun z => absurd ⟨ra, hm⟩ z⟩
theorem spPull.go {H : Hp} {Q : VK} {E : XK} {a : Addr} {n : Int} (hb : Bag H a) (h0 : 0 < n) (h1 : n < 1073741824) (q : ∀ (r : Int) (H' : Hp), 0 ≤ r → r < n → Bag H' a → But a H H' → Q (.int r) H') : spPull [.ref a, .int n] H Q E :=
  ⟨a, n, rfl, hb, h0, h1, q⟩
def spLaw (K : PySem.W.Frag) : Sp := fun vs H Q _ => ∃ (a : Addr) (ns : List Int), vs = [.ref a] ∧ SqL K H a (ns.map V.int) ∧ ns.length ≤ 63 ∧ ∀ H', Q (.bl true) H'
section
variable {P : Program} {w : World} {K : PySem.W.Frag} {mg : Str → Option Value} {base : Heap} {A : Ad}

theorem sc_pull : FnScope ["_law_bag_here", "_law_tally", "_law_cell", "_law_grain", "_law_drawn"] ["_law_bag_here", "_law_tally"] (defScope (top 15)) := ⟨rfl, rfl, rfl, by decide +kernel, rfl, by decide +kernel, by decide +kernel⟩
theorem ok_pull (T : Txt P w K mg A) : U.Cl P w K mg base 1 "_law_pull" spPull [] := by
  refine T.d_law_pull.ok sc_pull (fun vs H Q E h => ?_) (fun f cdv Ar outer s H vs Q E hr h => ?_)
  · obtain ⟨a, n, rfl, ⟨c, ns, i, l, s, ha, hc, hac, hi0, hs0, hs1⟩, hn0, hn1, k⟩ := h
    rfl
  · obtain ⟨a, n, rfl, ⟨c, ns, i, l, s, ha, hc, hac, hi0, hs0, hs1⟩, hn0, hn1, k⟩ := h
    refine ⟨_, (pss_cons (ps_if (pt_cmpR op_eq (pe_ix ix_list (pv 0) pe_int (fun _ _ => rfl)) pe_int (nomark _))
    (pss_cons (ps_asg (pe_op U.u_add (pe_ix ix_list (pv 0) pe_int (fun _ _ => rfl)) pe_int) (pg_sub (pv 0) pe_int set_list))
    (pss_cons (ps_set (i := 2) sc_pull.nd rfl (Or.inl rfl) (pe_ifExp (pt_cmpR U.u_le (pe_ix ix_list (pv 0) pe_int (fun _ _ => rfl)) (pe_callB U.u_len (by rfl) T.len PySem.boot_len (pa_cons (pe_ix ix_list (pv 0) pe_int (fun _ _ => rfl)) pa_nil)) (nomark _)) (pe_ix ix_list (pe_ix ix_list (pv 0) pe_int (fun _ _ => rfl)) (pe_op U.u_sub (pe_ix ix_list (pv 0) pe_int (fun _ _ => rfl)) pe_int) (fun _ _ => rfl)) pe_int))
    (pss_cons (ps_if (pt_cmpR U.u_lt (pe_callB U.u_abs (by rfl) T.abs (by decide +kernel) (pa_cons (pv 2) pa_nil)) (pe_op U.u_pow pe_int pe_int) (nomark _))
    (pss_cons (ps_set (i := 3) sc_pull.nd rfl (Or.inl rfl) (pe_op U.u_add (pe_op U.u_mul (pe_ix ix_list (pv 0) pe_int (fun _ _ => rfl)) pe_int) (pe_op U.u_mul (pe_op U.u_mod (pv 2) pe_int) pe_int)))
    (pss_cons (ps_set (i := 3) sc_pull.nd rfl (Or.inl rfl) (pe_op U.u_mod (pe_op U.u_add (pv 3) (pe_op U.u_mul (pe_ix ix_list (pv 0) pe_int (fun _ _ => rfl)) pe_int)) pe_int))
    (pss_cons (ps_asg (pe_op U.u_mod (pe_op U.u_add (pe_op U.u_add (pe_op U.u_mul (pv 3) (pv 3)) (pe_ix ix_list (pv 0) pe_int (fun _ _ => rfl))) pe_int) pe_int) (pg_sub (pv 0) pe_int set_list))
    (pss_one (ps_ret (pe_op U.u_mod (pe_op U.u_add (pe_op U.u_fdiv (pe_ix ix_list (pv 0) pe_int (fun _ _ => rfl)) pe_int) (pe_op U.u_mul (pe_op U.u_mod (pe_ix ix_list (pv 0) pe_int (fun _ _ => rfl)) pe_int) pe_int)) (pv 1)))))))
    pss_nil)
    (pss_one (ps_asg (pe_callB U.u_abs (by rfl) T.abs (by decide +kernel) (pa_cons (pv 2) pa_nil)) (pg_sub (pv 0) pe_int set_list))))))
    pss_nil)
    (pss_cons (ps_set (i := 4) sc_pull.nd rfl (Or.inl rfl) (pe_op U.u_mod (pe_ix ix_list (pv 0) pe_int (fun _ _ => rfl)) (pv 1)))
    (pss_cons (ps_asg (pe_op U.u_fdiv (pe_ix ix_list (pv 0) pe_int (fun _ _ => rfl)) (pv 1)) (pg_sub (pv 0) pe_int set_list))
    (pss_one (ps_ret (pv 4)))))), ?_⟩
    walk_at "rd"
    refine U.ited (fun z1 => ?_) (fun z1 => ?_)
    · walk_at "rd"
      refine U.i_cut (fun x => ∃ z, x = V.int z) ?_ (fun rest => ?_)
      · rintro x ⟨z, rfl⟩
        walk_at "rd"
        refine U.ited (fun z2 => ?_) (fun z2 => ?_)
        · walk_at "rd"
          refine k _ _ (Int.emod_nonneg _ (by omega)) (Int.emod_lt_of_pos _ hn0) ⟨c, ns, _, _, _, upd_same, by walk_at "hp", hac, by omega, Int.emod_nonneg _ (by decide), Int.lt_trans (Int.emod_lt_of_pos _ (by decide)) (by decide)⟩ But.of.up
        · walk_at "rd"
          refine k _ _ (Int.emod_nonneg _ (by omega)) (Int.emod_lt_of_pos _ hn0) ⟨c, ns, _, _, _, upd_same, by walk_at "hp", hac, by omega, hs0, hs1⟩ But.of.up.up
      · refine U.i_ifE ?_
        walk_at "rd"
        refine U.ited (fun z2 => ?_) (fun z2 => ?_)
        · walk_at "rd"
          rw [List.length_map] at z2
          obtain ⟨z, hz, _⟩ := U.atI_ints (ns := ns) (i := i + 1 - 1) (by omega) (by omega)
          refine U.i_ixL (SqL.of (by walk_at "hp")) hz ?_
          exact rest _ ⟨z, rfl⟩
        · exact U.i_c (rest _ ⟨0, rfl⟩)
    · walk_at "rd"
      refine k _ _ (Int.emod_nonneg _ (by omega)) (Int.emod_lt_of_pos _ hn0) ⟨c, ns, _, _, _, upd_same, by walk_at "hp", hac, by omega, hs0, hs1⟩ But.of

theorem sc_size : FnScope ["_law_bag_here"] ["_law_bag_here"] (defScope (top 16)) := ⟨rfl, rfl, rfl, by decide +kernel, rfl, by decide +kernel, by decide +kernel⟩
theorem ok_size (T : Txt P w K mg A) : U.Cl P w K mg base 2 "_law_size" spSize [] := by
  obtain ⟨_, _, _, F_pull, g_pull, k_pull, bd_pull⟩ := (ok_pull (P := P) (w := w) (base := base) T).ex
  obtain ⟨_, d_pull, b_pull⟩ := bd_pull 0 (by decide)
  refine T.d_law_size.ok sc_size (fun vs H Q E h => ?_) (fun f cdv Ar outer s H vs Q E hr h => ?_)
  · obtain ⟨a, rfl, hb, k⟩ := h
    rfl
  · obtain ⟨a, rfl, hb, k⟩ := h
    refine ⟨_, (pss_one (ps_ret (pe_ix ix_tup (pe_tup (pa_cons pe_int (pa_cons pe_int (pa_cons pe_int (pa_cons pe_int (pa_cons pe_int (pa_cons pe_int (pa_cons pe_int (pa_cons pe_int (pa_cons pe_int (pa_cons pe_int pa_nil))))))))))) (pe_call F_pull (hr.mono (by decide)) rfl g_pull k_pull b_pull d_pull passL (pa_cons (pv 0) (pa_cons pe_int pa_nil))) (fun _ _ => rfl)))), ?_⟩
    walk_at "rd"
    rename_i t ht H1 s1 o1
    have ha : a ≠ t := fun e => by obtain ⟨c, ns, i, l, s, h1, _⟩ := hb; rw [e, ht] at h1; cases h1
    refine ⟨a, 10, rfl, hb.same s1, by decide, by decide, fun r H2 r0 r1 hb2 bt => ?_⟩
    have ot := bt _ _ o1 (Ne.symm ha)
    have e : [V.int 2, V.int 3, V.int 4, V.int 5, V.int 7, V.int 8, V.int 9, V.int 11, V.int 13, V.int 16] = FM.sizes.map V.int := rfl
    rw [e] at ot
    refine U.i_ixT (SqT.of ot) (U.atI_of (j := r.toNat) (by omega) (U.mig' (by show r.toNat < 10; omega))) ?_
    refine k _ _ ?_ hb2 (fun b o h n => bt _ _ (s1 _ _ h) n)
    rw [List.getD_eq_getElem?_getD, List.getElem?_eq_getElem (by show r.toNat < 10; omega)]
    exact List.getElem_mem _

theorem sc_bag : FnScope ["_law_script", "_law_cells", "_law_salt", "_law_one"] ["_law_script"] (defScope (top 14)) := ⟨rfl, rfl, rfl, by decide +kernel, rfl, by decide +kernel, by decide +kernel⟩
theorem ok_bag (T : Txt P w K mg A) : U.Cl P w K mg base 1 "_law_bag" (spBag K) [] := by
  refine T.d_law_bag.ok sc_bag (fun vs H Q E h => ?_) (fun f cdv Ar outer s H vs Q E hr h => ?_)
  · obtain ⟨a, ns, rfl, hS, hl, k⟩ := h
    rfl
  · obtain ⟨a, ns, rfl, hS, hl, k⟩ := h
    refine ⟨_, (pss_cons (ps_set (i := 1) sc_bag.nd rfl (Or.inl rfl) (pe_callTy U.u_listOf (by rfl) T.list (by decide +kernel) (pa_cons (pe_slice sl_list (pv 0) po_none (po_some pe_int)) pa_nil)))
    (pss_cons (ps_set (i := 2) sc_bag.nd rfl (Or.inl rfl) (pe_op U.u_add pe_int (pe_callB U.u_len (by rfl) T.len PySem.boot_len (pa_cons (pv 1) pa_nil))))
    (pss_cons (ps_for (passes_of (by exact rfl)) (by exact rfl) (pi_list (pv 1)) (pg_name (i := 3) sc_bag.nd rfl (Or.inl rfl))
    (pss_one (ps_set (i := 2) sc_bag.nd rfl (Or.inl rfl) (pe_op U.u_mod (pe_op U.u_add (pe_op U.u_add (pe_op U.u_mul (pv 2) pe_int) (pe_op U.u_mod (pe_callB U.u_abs (by rfl) T.abs (by decide +kernel) (pa_cons (pv 3) pa_nil)) pe_int)) (pe_op U.u_mul pe_int (pe_callTy U.u_intB (by rfl) T.int (by decide +kernel) (pa_cons (pe_cmpR U.u_lt (pv 3) pe_int (nomark _)) pa_nil)))) pe_int))))
    (pss_one (ps_ret (pe_lst (pa_cons (pv 1) (pa_cons pe_int (pa_cons pe_int (pa_cons (pv 2) pa_nil)))))))))), ?_⟩
    walk_at "rd"
    refine U.i_slL hS ?_
    walk_at "lay"
    walk_at "rd"
    rename_i l1 hl1 H1 s1 o1 l2 hl2 H2 s2 o2
    have e0 : cutV (ns.map V.int) none (some 63) = ns.map V.int := by
      have := U.cut_take' (xs := ns.map V.int) (q := 63) (by rw [List.length_map]; omega)
      exact this
    rw [e0] at o2
    refine for_it walk_list (fun i σ H' => ∃ (z : Int) (v : Option V), σ = [some (.ref a), some (.ref l2), some (.int z), v] ∧ Same H2 H' ∧ 0 ≤ z ∧ z < 2147483629) ⟨7 + (ns.length : Int), none, by rw [e0, List.length_map]; rfl, Same.refl _, by omega, by omega⟩ (fun _ _ _ _ ⟨_, _, _, h, _⟩ => SqL.of (h _ _ o2)) ?_ ?_
    · rintro i x σ H3 H4 hi ⟨z, v, rfl, s3, z0, z1⟩ ⟨rfl, hx⟩
      obtain ⟨rfl, _⟩ := U.mig hx
      walk_at "rd"
      exact ⟨_, _, rfl, s3, Int.emod_nonneg _ (by decide), Int.emod_lt_of_pos _ (by decide)⟩
    · rintro σ H3 ⟨z, v, rfl, s3, z0, z1⟩
      walk_at "rd"
      rename_i b hb H4 s4 o4
      have o2' := s4 _ _ (s3 _ _ o2)
      have ne : b ≠ l2 := fun e => by rw [e, s3 _ _ o2] at hb; cases hb
      exact k b H4 (s1.free (s2.free (s3.free hb))) (((s1.trans s2).trans s3).trans s4) ⟨l2, ns, 0, 0, z, o4, o2', ne, by omega, z0, z1⟩

theorem sc_grown : FnScope ["one", "many", "found", "turn"] ["one", "many"] (defScope (top 11)) := ⟨rfl, rfl, rfl, by decide +kernel, rfl, by decide +kernel, by decide +kernel⟩
theorem ok_grown (T : Txt P w K mg A) : U.Cl P w K mg base 1 "grown" spGrown [] := by
  refine T.d_grown.ok sc_grown (fun vs H Q E h => ?_) (fun f cdv Ar outer s H vs Q E hr h => ?_)
  · obtain ⟨a, m, rfl, ha0, ha1, hm, k⟩ := h
    rfl
  · obtain ⟨a, m, rfl, ha0, ha1, hm, k⟩ := h
    refine ⟨_, (pss_cons (ps_set (i := 2) sc_grown.nd rfl (Or.inl rfl) pe_int)
    (pss_cons (ps_for (passes_of (by exact rfl)) (by exact rfl) (pi_range1 (by rfl) T.range (pa_cons (pv 1) pa_nil)) (pg_name (i := 3) sc_grown.nd rfl (Or.inl rfl))
    (pss_one (ps_aug (i := 2) sc_grown.nd rfl (Or.inl rfl) (pv 0) U.ip_mul)))
    (pss_one (ps_ret (pv 2))))), ?_⟩
    walk_at "rd"
    refine for_it walk_range (fun i σ H' => ∃ v, σ = [some (.int a), some (.int (m : Nat)), some (.int (a ^ i)), v] ∧ H' = H) ⟨none, by rw [Int.pow_zero]; rfl, rfl⟩ (fun _ _ _ _ _ => trivial) ?_ ?_
    · rintro i x σ H1 H2 hi ⟨v, rfl, rfl⟩ ⟨rfl, rfl⟩
      walk_at "rd"
      exact ⟨_, by rw [Int.pow_succ]; rfl, rfl⟩
    · rintro σ H1 ⟨v, rfl, rfl⟩
      walk_at "rd"
      exact k

theorem sc_init : FnScope ["self", "size", "base"] ["self", "size"] (defScope (inClass (top 12) 0)) := ⟨rfl, rfl, rfl, by decide +kernel, rfl, by decide +kernel, by decide +kernel⟩
theorem ok_init (T : Txt P w K mg A) : U.Nw P w K mg base 2 "Field" A.Field (spInit A) [V.int 16] := by
  obtain ⟨_, _, _, F_grown, g_grown, k_grown, bd_grown⟩ := (ok_grown (P := P) (w := w) (base := base) T).ex
  obtain ⟨_, d_grown, b_grown⟩ := bd_grown 0 (by decide)
  refine T.n_Field.ok sc_init (fun vs H Q E h => ?_) (fun f cdv Ar outer s H vs Q E hr h => ?_)
  · obtain ⟨p, dx, n, rfl, hp, kq, ke⟩ := h
    rfl
  · obtain ⟨p, dx, n, rfl, hp, kq, ke⟩ := h
    refine ⟨_, (pss_cons (ps_if (pt_cmpR op_notIn_seq (pv 1) (U.pe_gref rfl T.g_SIZES) (by rfl))
    (pss_one (U.ps_raise0 rfl (takes_of rfl rfl rfl rfl) T.e_BadSize))
    pss_nil)
    (pss_cons (ps_fld (pv 0) (pv 1) rfl)
    (pss_cons (ps_fld (pv 0) (pe_ix ix_list (pe_lc (own := [("base", 2)]) (g := (gName 2)) (by exact rfl) sc_init.nd (pi_tup (U.pe_gref rfl T.g_BASES)) (blkOk_by (own := [("base", 2)]) (N := ["self", "size", "base"]) (sc := defScope (inClass (top 12) 0)) (by decide +kernel)) (fun _ _ _ _ _ => (pg_name (i := 2) sc_init.nd rfl (Or.inl rfl))) (fun _ _ _ _ _ => pts_one (pt_cmpR op_eq (pe_op U.u_mod (pv 1) (pv 2)) pe_int (nomark _))) (fun _ _ _ _ _ => (pv 2))) pe_int (fun _ _ => rfl)) rfl)
    (pss_cons (ps_fld (pv 0) pe_int rfl)
    (pss_one (ps_while (passes_of (by exact rfl)) (pt_cmpR U.u_lt (pe_call F_grown (hr.mono (by decide)) rfl g_grown k_grown b_grown d_grown passL (pa_cons (pe_fld (pv 0) rfl) (pa_cons (pe_fld (pv 0) rfl) pa_nil))) (pv 1) (nomark _))
    (pss_one (ps_fldaug (pv 0) pe_int in_add)))))))), ?_⟩
    walk_at "rd"
    refine U.i_in (.inr (T.s_SIZES H)) rfl rfl ?_
    refine U.i_bl ?_
    have eIn : (inV (.int n) [V.int 2, V.int 3, V.int 4, V.int 5, V.int 7, V.int 8, V.int 9, V.int 11, V.int 13, V.int 16]) = decide (n ∈ FM.sizes) := by
      rw [Bool.eq_iff_iff, decide_eq_true_iff]
      show List.any _ _ = true ↔ _
      unfold FM.sizes
      simp only [List.any_cons, List.any_nil, Bool.or_false, Bool.or_eq_true, eqV, List.mem_cons, List.not_mem_nil, or_false, beq_iff_eq, decide_eq_true_iff]
      constructor <;> (intro h; omega)
    show (if (!inV _ _) = true then _ else _)
    rw [eIn]
    refine U.itedn (fun hn => ke hn) (fun hn => ?_)
    have cF := T.c_Field
    have n1 := T.na_Field_many
    have n2 := T.na_Field_prime
    have n3 := T.na_Field_places
    have sr := FM.size_rng hn
    have br := FM.base_rng hn
    have pr := FM.places_rng hn
    have kq := kq hn
    walk_at "rd"
    refine U.i_ptup' (T.s_BASES _) ?_
    intro D hD
    have hpD : p ≠ D := fun e => by rw [← e, upd_same] at hD; cases hD
    refine lc_it walk_tup (fun i H' => Same (upd H p (.ins A.Field dx [("many", V.int n)])) H' ∧ H' D = some (.lst ((FM.basP n i).map V.int))) ⟨same_new hD, upd_same⟩ (fun _ _ _ _ => T.s_BASES _) ?_ ?_
    · rintro i x H3 H4 hi ⟨s3, o3⟩ ⟨rfl, hx⟩
      have e : [V.int 2, V.int 3, V.int 5, V.int 7, V.int 11, V.int 13] = FM.basesL.map V.int := rfl
      rw [e] at hx
      obtain ⟨rfl, hi2⟩ := U.mig hx
      have hb0 : 0 < FM.basesL.getD i 0 := by
        have : i < 6 := hi2
        have h6 : i = 0 ∨ i = 1 ∨ i = 2 ∨ i = 3 ∨ i = 4 ∨ i = 5 := by omega
        rcases h6 with h | h | h | h | h | h <;> subst h <;> decide
      have bl := FM.basP_len n i
      have tk : FM.basesL.take (i + 1) = FM.basesL.take i ++ [FM.basesL.getD i 0] := U.take_succ_of (by rw [List.getD_eq_getElem?_getD, List.getElem?_eq_getElem hi2]; rfl)
      walk_at "rd"
      refine ⟨rfl, ?_⟩
      walk_at "rd"
      refine U.ited (fun z => ?_) (fun z => ?_)
      · walk_at "rd"
        refine ⟨_, o3, small1000 (by rw [List.length_map]; omega), same_own s3 hD, ?_⟩
        unfold FM.basP
        rw [tk, List.filter_append, List.filter_cons_of_pos (by simpa using z), List.filter_nil, List.map_append]
        exact upd_same
      · refine ⟨s3, ?_⟩
        unfold FM.basP
        rw [tk, List.filter_append, List.filter_cons_of_neg (by simpa using z), List.filter_nil, List.append_nil]
        exact o3
    · rintro H3 ⟨s3, o3⟩
      have hp3 : H3 p = some (.ins A.Field dx [("many", V.int n)]) := s3 _ _ upd_same
      have eb := FM.basP_end hn
      walk_at "rd"
      refine U.i_ixL (SqL.of o3) (U.atI_of (j := 0) rfl (by show ((FM.basP n 6).map V.int)[0]? = _; rw [List.getElem?_map, eb]; rfl)) ?_
      walk_at "rd"
      refine ⟨fun m σ H' => ∃ k : Nat, m = FM.places n - k ∧ 1 ≤ k ∧ k ≤ FM.places n ∧ σ = [some (.ref p), some (.int n), none] ∧ H' p = some (.ins A.Field dx [("many", V.int n), ("prime", V.int (FM.base n)), ("places", V.int (k : Nat))]) ∧ (∀ b o, H b = some o → b ≠ p → H' b = some o), ⟨FM.places n - 1, 1, rfl, Nat.le_refl _, pr.1, rfl, upd_same, ?_⟩, ?_⟩
      · intro b o h ne
        refine upd_ne'' ne (upd_ne'' ne (s3 _ _ (upd_ne'' ne h)))
      · rintro m σ H4 ⟨j, rfl, j1, j2, rfl, hp4, kp⟩
        have pl := FM.pow_lt hn j1 j2
        walk_at "rd"
        refine ⟨FM.base n, j, rfl, by omega, by omega, by omega, ?_⟩
        walk_at "rd"
        refine U.ited (fun z => ?_) (fun z => ?_)
        · refine ⟨fun σ' H' => ∃ m', m' < FM.places n - j ∧ ∃ k : Nat, m' = FM.places n - k ∧ 1 ≤ k ∧ k ≤ FM.places n ∧ σ' = [some (.ref p), some (.int n), none] ∧ H' p = some (.ins A.Field dx [("many", V.int n), ("prime", V.int (FM.base n)), ("places", V.int (k : Nat))]) ∧ (∀ b o, H b = some o → b ≠ p → H' b = some o), fun _ _ h => h, ?_⟩
          have hj := pl.mp z
          walk_at "rd"
          exact ⟨FM.places n - (j + 1), by omega, j + 1, rfl, by omega, by omega, rfl, upd_same, fun b o h ne => upd_ne'' ne (kp b o h ne)⟩
        · have hj : j = FM.places n := by
            have := mt pl.mpr z
            omega
          subst hj
          exact kq _ kp ⟨hn, dx, hp4⟩

theorem sc_fsize : FnScope ["self"] ["self"] (defScope (inClass (top 12) 5)) := ⟨rfl, rfl, rfl, by decide +kernel, rfl, by decide +kernel, by decide +kernel⟩
theorem ok_fsize (T : Txt P w K mg A) : U.Mt P w K mg base 1 A.Field "size" (spGetN A fun n => n) [] := by
  refine T.m_Field_size.ok sc_fsize (fun vs H Q E h => ?_) (fun f cdv Ar outer s H vs Q E hr h => ?_)
  · obtain ⟨p, n, rfl, ⟨hn, dx, hp⟩, k⟩ := h
    rfl
  · obtain ⟨p, n, rfl, ⟨hn, dx, hp⟩, k⟩ := h
    have cF := T.c_Field
    have n1 := T.na_Field_many
    have n2 := T.na_Field_prime
    have n3 := T.na_Field_places
    have sr := FM.size_rng hn
    have br := FM.base_rng hn
    have pr := FM.places_rng hn
    refine ⟨_, (pss_one (ps_ret (pe_fld (pv 0) rfl))), ?_⟩
    walk_at "rd"
    exact k

theorem sc_has : FnScope ["self", "one"] ["self", "one"] (defScope (inClass (top 12) 7)) := ⟨rfl, rfl, rfl, by decide +kernel, rfl, by decide +kernel, by decide +kernel⟩
theorem ok_has (T : Txt P w K mg A) : U.Mt P w K mg base 1 A.Field "has" (spHas A) [] := by
  refine T.m_Field_has.ok sc_has (fun vs H Q E h => ?_) (fun f cdv Ar outer s H vs Q E hr h => ?_)
  · obtain ⟨p, n, a, rfl, ⟨hn, dx, hp⟩, k⟩ := h
    rfl
  · obtain ⟨p, n, a, rfl, ⟨hn, dx, hp⟩, k⟩ := h
    have cF := T.c_Field
    have n1 := T.na_Field_many
    have n2 := T.na_Field_prime
    have n3 := T.na_Field_places
    have sr := FM.size_rng hn
    have br := FM.base_rng hn
    have pr := FM.places_rng hn
    refine ⟨_, (pss_one (ps_ret (pe_chain U.u_le U.u_lt pe_int (pv 1) (pe_fld (pv 0) rfl)))), ?_⟩
    walk_at "rd"
    refine U.ited (fun z1 => ?_) (fun z1 => ?_)
    · walk_at "rd"
      have e : decide (a < n) = decide (0 ≤ a ∧ a < n) := by simp [z1]
      show Q _ _
      rw [e]; exact k
    · show Q _ _
      have e : false = decide (0 ≤ a ∧ a < n) := by simp [z1]
      rw [e]; exact k

theorem sc_need : FnScope ["self", "one"] ["self", "one"] (defScope (inClass (top 12) 8)) := ⟨rfl, rfl, rfl, by decide +kernel, rfl, by decide +kernel, by decide +kernel⟩
theorem ok_need (T : Txt P w K mg A) : U.Mt P w K mg base 2 A.Field "need" (spNeed A) [] := by
  obtain ⟨_, _, _, F_has, c_has, m_has, bd_has⟩ := (ok_has (P := P) (w := w) (base := base) T).ex
  obtain ⟨_, d_has, b_has⟩ := bd_has 0 (by decide)
  refine T.m_Field_need.ok sc_need (fun vs H Q E h => ?_) (fun f cdv Ar outer s H vs Q E hr h => ?_)
  · obtain ⟨p, n, a, rfl, ⟨hn, dx, hp⟩, kq, ke⟩ := h
    rfl
  · obtain ⟨p, n, a, rfl, ⟨hn, dx, hp⟩, kq, ke⟩ := h
    have cF := T.c_Field
    have n1 := T.na_Field_many
    have n2 := T.na_Field_prime
    have n3 := T.na_Field_places
    have sr := FM.size_rng hn
    have br := FM.base_rng hn
    have pr := FM.places_rng hn
    refine ⟨_, (pss_one (ps_if (pt_not (pt_val (pe_meth (pv 0) c_has m_has F_has (hr.mono (by decide)) b_has d_has passL (pa_cons (pv 1) pa_nil))))
    (pss_one (U.ps_raise0 rfl (takes_of rfl rfl rfl rfl) T.e_BadNumber))
    pss_nil)), ?_⟩
    walk_at "rd"
    refine ⟨p, n, a, rfl, ⟨hn, dx, hp⟩, ?_⟩
    walk_at "rd"
    by_cases z : 0 ≤ a ∧ a < n
    · rw [decide_eq_true z]
      exact iteF (kq z)
    · rw [decide_eq_false z]
      exact iteT (ke z)

theorem sc_figures : FnScope ["self", "one", "found", "place", "figure"] ["self", "one"] (defScope (inClass (top 12) 9)) := ⟨rfl, rfl, rfl, by decide +kernel, rfl, by decide +kernel, by decide +kernel⟩
theorem ok_figures (T : Txt P w K mg A) : U.Mt P w K mg base 1 A.Field "figures" (spFigs A) [] := by
  refine T.m_Field_figures.ok sc_figures (fun vs H Q E h => ?_) (fun f cdv Ar outer s H vs Q E hr h => ?_)
  · obtain ⟨p, n, a, rfl, ⟨hn, dx, hp⟩, k⟩ := h
    rfl
  · obtain ⟨p, n, a, rfl, ⟨hn, dx, hp⟩, k⟩ := h
    have cF := T.c_Field
    have n1 := T.na_Field_many
    have n2 := T.na_Field_prime
    have n3 := T.na_Field_places
    have sr := FM.size_rng hn
    have br := FM.base_rng hn
    have pr := FM.places_rng hn
    refine ⟨_, (pss_cons (ps_set (i := 2) sc_figures.nd rfl (Or.inl rfl) (pe_lst pa_nil))
    (pss_cons (ps_for (passes_of (by exact rfl)) (by exact rfl) (pi_range1 (by rfl) T.range (pa_cons (pe_fld (pv 0) rfl) pa_nil)) (pg_name (i := 3) sc_figures.nd rfl (Or.inl rfl))
    (pss_cons (ps_asg (pe_callB U.u_divmod (by rfl) T.divmod (by decide +kernel) (pa_cons (pv 1) (pa_cons (pe_fld (pv 0) rfl) pa_nil))) (pg_tup (by exact rfl) (pgs_cons (pg_name (i := 1) sc_figures.nd rfl (Or.inl rfl)) (pgs_cons (pg_name (i := 4) sc_figures.nd rfl (Or.inl rfl)) pgs_nil))))
    (pss_one (ps_expr (pe_bm PySem.F.plainAttrs_list PySem.F.slot_list_append PySem.F.type_list_append mt_append (pv 2) (pa_cons (pv 4) pa_nil))))))
    (pss_one (ps_ret (pv 2))))), ?_⟩
    walk_at "rd"
    rename_i l hl H1 s1 ol
    refine for_it walk_range (fun i σ H' => ∃ v3 v4, σ = [some (.ref p), some (.int (FM.rest (FM.base n) i a)), some (.ref l), v3, v4] ∧ Same H H' ∧ H' l = some (.lst ((FM.figs (FM.base n) i a).map V.int))) ⟨none, none, rfl, s1, ol⟩ (fun _ _ _ _ _ => trivial) ?_ ?_
    · rintro i x σ H2 H3 hi ⟨v3, v4, rfl, s2, ol2⟩ ⟨rfl, rfl⟩
      have fl := FM.figs_len (FM.base n) i a
      have hi' : i < FM.places n := by simpa using hi
      walk_at "rd"
      rename_i t ht H4 s4 ot
      exact ⟨_, _, by rw [FM.rest_succ]; rfl, same_own (s2.trans s4) hl, by rw [FM.figs_succ, List.map_append]; exact upd_same⟩
    · rintro σ H2 ⟨v3, v4, rfl, s2, ol2⟩
      walk_at "rd"
      exact k _ _ hl s2 ol2

theorem sc_composed : FnScope ["self", "figures", "found", "figure"] ["self", "figures"] (defScope (inClass (top 12) 10)) := ⟨rfl, rfl, rfl, by decide +kernel, rfl, by decide +kernel, by decide +kernel⟩
theorem ok_composed (T : Txt P w K mg A) : U.Mt P w K mg base 1 A.Field "composed" (spComp A) [] := by
  refine T.m_Field_composed.ok sc_composed (fun vs H Q E h => ?_) (fun f cdv Ar outer s H vs Q E hr h => ?_)
  · obtain ⟨p, l, n, fs, rfl, ⟨hn, dx, hp⟩, hl, k⟩ := h
    rfl
  · obtain ⟨p, l, n, fs, rfl, ⟨hn, dx, hp⟩, hl, k⟩ := h
    have cF := T.c_Field
    have n1 := T.na_Field_many
    have n2 := T.na_Field_prime
    have n3 := T.na_Field_places
    have sr := FM.size_rng hn
    have br := FM.base_rng hn
    have pr := FM.places_rng hn
    refine ⟨_, (pss_cons (ps_set (i := 2) sc_composed.nd rfl (Or.inl rfl) pe_int)
    (pss_cons (ps_for (passes_of (by exact rfl)) (by exact rfl) (pi_reversed (by rfl) T.reversed (pa_cons (pv 1) pa_nil)) (pg_name (i := 3) sc_composed.nd rfl (Or.inl rfl))
    (pss_one (ps_set (i := 2) sc_composed.nd rfl (Or.inl rfl) (pe_op U.u_add (pe_op U.u_mul (pv 2) (pe_fld (pv 0) rfl)) (pe_op U.u_mod (pv 3) (pe_fld (pv 0) rfl))))))
    (pss_one (ps_ret (pv 2))))), ?_⟩
    walk_at "rd"
    have hm : SqL K H l (fs.map V.int) := SqL.of hl
    refine for_it walk_rev (fun i σ H' => ∃ v3, σ = [some (.ref p), some (.ref l), some (.int ((fs.reverse.take i).foldl (fun acc f => acc * FM.base n + f % FM.base n) 0)), v3] ∧ H' = H) ⟨none, rfl, rfl⟩ (fun _ _ _ _ h => by obtain ⟨_, _, rfl⟩ := h; exact hm) ?_ ?_
    · rintro i x σ H2 H3 hi ⟨v3, rfl, rfl⟩ ⟨rfl, hx⟩
      rw [List.length_map] at hi hx
      have hlt : fs.length - 1 - i < fs.length := by omega
      obtain ⟨rfl, _⟩ := U.mig hx
      walk_at "rd"
      have hr : fs.reverse[i]? = some (fs.getD (fs.length - 1 - i) 0) := by
        rw [List.getElem?_reverse hi, List.getD_eq_getElem?_getD, List.getElem?_eq_getElem hlt]
        rfl
      exact ⟨_, by rw [U.take_succ_of hr, List.foldl_append]; rfl, rfl⟩
    · rintro σ H2 ⟨v3, rfl, rfl⟩
      walk_at "rd"
      rw [List.length_map, ← List.length_reverse, List.take_length]
      exact k

theorem sc_added : FnScope ["self", "one", "other", "sign", "figures", "at", "left"] ["self", "one", "other", "sign"] (defScope (inClass (top 12) 11)) := ⟨rfl, rfl, rfl, by decide +kernel, rfl, by decide +kernel, by decide +kernel⟩
theorem ok_added (T : Txt P w K mg A) : U.Mt P w K mg base 2 A.Field "added" (spAdded A) [] := by
  obtain ⟨_, _, _, F_figures, c_figures, m_figures, bd_figures⟩ := (ok_figures (P := P) (w := w) (base := base) T).ex
  obtain ⟨_, d_figures, b_figures⟩ := bd_figures 0 (by decide)
  obtain ⟨_, _, _, F_composed, c_composed, m_composed, bd_composed⟩ := (ok_composed (P := P) (w := w) (base := base) T).ex
  obtain ⟨_, d_composed, b_composed⟩ := bd_composed 0 (by decide)
  refine T.m_Field_added.ok sc_added (fun vs H Q E h => ?_) (fun f cdv Ar outer s H vs Q E hr h => ?_)
  · obtain ⟨p, n, a, b, s, rfl, ⟨hn, dx, hp⟩, hs, k⟩ := h
    rfl
  · obtain ⟨p, n, a, b, s, rfl, ⟨hn, dx, hp⟩, hs, k⟩ := h
    have cF := T.c_Field
    have n1 := T.na_Field_many
    have n2 := T.na_Field_prime
    have n3 := T.na_Field_places
    have sr := FM.size_rng hn
    have br := FM.base_rng hn
    have pr := FM.places_rng hn
    refine ⟨_, (pss_cons (ps_if (pt_cmpR op_eq (pe_fld (pv 0) rfl) pe_int (nomark _))
    (pss_one (ps_ret (pe_op U.u_mod (pe_op U.u_add (pv 1) (pe_op U.u_mul (pv 3) (pv 2))) (pe_fld (pv 0) rfl))))
    pss_nil)
    (pss_cons (ps_set (i := 4) sc_added.nd rfl (Or.inr rfl) (pe_meth (pv 0) c_figures m_figures F_figures (hr.mono (by decide)) b_figures d_figures passL (pa_cons (pv 2) pa_nil)))
    (pss_one (ps_ret (pe_meth (pv 0) c_composed m_composed F_composed (hr.mono (by decide)) b_composed d_composed passL (pa_cons (pe_lc (own := [("at", 5), ("left", 6)]) (g := (gTup K 2 (gCons (gName 5) (gCons (gName 6) gNil)))) (tt := tYes) (by exact rfl) sc_added.nd (pi_enum (by rfl) T.enumerate (pa_cons (pe_meth (pv 0) c_figures m_figures F_figures (hr.mono (by decide)) b_figures d_figures passL (pa_cons (pv 1) pa_nil)) pa_nil)) (blkOk_by (own := [("at", 5), ("left", 6)]) (N := ["self", "one", "other", "sign", "figures", "at", "left"]) (sc := defScope (inClass (top 12) 11)) (by decide +kernel)) (fun _ _ _ _ _ => (pg_tup (by exact rfl) (pgs_cons (pg_name (i := 5) sc_added.nd rfl (Or.inl rfl)) (pgs_cons (pg_name (i := 6) sc_added.nd rfl (Or.inl rfl)) pgs_nil)))) (fun _ _ _ _ _ => pts_nil) (fun _ _ _ _ _ => (pe_op U.u_add (pv 6) (pe_op U.u_mul (pv 3) (pe_ix (U.ixL K rfl) (pv 4) (pv 5) (fun _ _ => rfl)))))) pa_nil)))))), ?_⟩
    walk_at "rd"
    refine U.ited (fun z1 => ?_) (fun z1 => ?_)
    · walk_at "rd"
      have e : (a + s * b) % FM.base n = FM.addF n a b s := by unfold FM.addF; rw [if_pos (by omega)]
      show Q _ _
      rw [e]
      exact k H (Same.refl H)
    · walk_at "rd"
      refine ⟨p, n, b, rfl, ⟨hn, dx, hp⟩, fun l H1 hl s1 ol => ?_⟩
      walk_at "rd"
      refine ⟨p, n, a, rfl, ⟨hn, dx, by walk_at "hp"⟩, fun l2 H2 hl2 s2 ol2 => ?_⟩
      walk_at "rd"
      intro D hD
      have fl1 := FM.figs_len (FM.base n) (FM.places n) a
      have fl2 := FM.figs_len (FM.base n) (FM.places n) b
      refine lc_it walk_enum (fun i H' => Same H2 H' ∧ H' D = some (.lst (((List.range i).map fun i => (FM.figs (FM.base n) (FM.places n) a).getD i 0 + s * (FM.figs (FM.base n) (FM.places n) b).getD i 0).map V.int))) ⟨same_new hD, upd_same⟩ (fun i H' _ h => SqL.of (h.1 _ _ ol2)) ?_ ?_
      · rintro i x H3 H4 hi ⟨s3, o3⟩ ⟨T1, y, z, rfl, hT, rfl, hy, hz⟩
        obtain rfl := Option.some.inj hy
        rw [List.length_map, fl1] at hi
        obtain ⟨rfl, _⟩ := U.mig hz
        walk_at "rd"
        refine ⟨rfl, ?_⟩
        walk_at "rd"
        refine U.i_ixL (v := .int ((FM.figs (FM.base n) (FM.places n) b).getD i 0)) (SqL.of (by walk_at "hp")) (U.atI_of rfl (U.mig' (by omega))) ?_
        walk_at "rd"
        refine ⟨_, (upd_new hT o3), ?_, same_own (s3.trans (same_new hT)) hD, ?_⟩
        · refine small1000 ?_
          rw [List.length_map, List.length_map, List.length_range]
          omega
        · rw [List.range_succ, List.map_append, List.map_append]
          exact upd_same
      · rintro H3 ⟨s3, o3⟩
        rw [List.length_map, fl1] at o3
        walk_at "rd"
        have z2 : FM.places n ≠ 1 := by omega
        refine ⟨p, D, n, FM.addL (FM.base n) (FM.places n) a b s, rfl, ⟨hn, dx, by walk_at "hp"⟩, o3, ?_⟩
        have e : FM.comp (FM.base n) (FM.addL (FM.base n) (FM.places n) a b s) = FM.addF n a b s := by unfold FM.addF; rw [if_neg z2]
        rw [e]
        exact k _ ((s1.trans s2).trans s3)

theorem sc_plus : FnScope ["self", "one", "other"] ["self", "one", "other"] (defScope (inClass (top 12) 12)) := ⟨rfl, rfl, rfl, by decide +kernel, rfl, by decide +kernel, by decide +kernel⟩
theorem ok_plus (T : Txt P w K mg A) : U.Mt P w K mg base 3 A.Field "plus" (spOp A fun n a b => FM.addF n a b 1) [] := by
  obtain ⟨_, _, _, F_need, c_need, m_need, bd_need⟩ := (ok_need (P := P) (w := w) (base := base) T).ex
  obtain ⟨_, d_need, b_need⟩ := bd_need 0 (by decide)
  obtain ⟨_, _, _, F_added, c_added, m_added, bd_added⟩ := (ok_added (P := P) (w := w) (base := base) T).ex
  obtain ⟨_, d_added, b_added⟩ := bd_added 0 (by decide)
  refine T.m_Field_plus.ok sc_plus (fun vs H Q E h => ?_) (fun f cdv Ar outer s H vs Q E hr h => ?_)
  · obtain ⟨p, n, a, b, rfl, ⟨hn, dx, hp⟩, kq, ke⟩ := h
    rfl
  · obtain ⟨p, n, a, b, rfl, ⟨hn, dx, hp⟩, kq, ke⟩ := h
    have cF := T.c_Field
    have n1 := T.na_Field_many
    have n2 := T.na_Field_prime
    have n3 := T.na_Field_places
    have sr := FM.size_rng hn
    have br := FM.base_rng hn
    have pr := FM.places_rng hn
    refine ⟨_, (pss_cons (ps_expr (pe_meth (pv 0) c_need m_need F_need (hr.mono (by decide)) b_need d_need (passE (takes_of rfl rfl rfl rfl)) (pa_cons (pv 1) pa_nil)))
    (pss_cons (ps_expr (pe_meth (pv 0) c_need m_need F_need (hr.mono (by decide)) b_need d_need (passE (takes_of rfl rfl rfl rfl)) (pa_cons (pv 2) pa_nil)))
    (pss_one (ps_ret (pe_meth (pv 0) c_added m_added F_added (hr.mono (by decide)) b_added d_added (passE (takes_of rfl rfl rfl rfl)) (pa_cons (pv 1) (pa_cons (pv 2) (pa_cons pe_int pa_nil)))))))), ?_⟩
    walk_at "rd"
    refine ⟨p, n, a, rfl, ⟨hn, dx, hp⟩, fun ra => ?_, fun ra => ke fun z => ra z.1⟩
    walk_at "rd"
    refine ⟨p, n, b, rfl, ⟨hn, dx, hp⟩, fun rb => ?_, fun rb => ke fun z => rb z.2⟩
    walk_at "rd"
    exact ⟨p, n, a, b, 1, rfl, ⟨hn, dx, hp⟩, by decide, kq ⟨ra, rb⟩⟩

theorem sc_less : FnScope ["self", "one", "other"] ["self", "one", "other"] (defScope (inClass (top 12) 13)) := ⟨rfl, rfl, rfl, by decide +kernel, rfl, by decide +kernel, by decide +kernel⟩
theorem ok_less (T : Txt P w K mg A) : U.Mt P w K mg base 3 A.Field "less" (spOp A fun n a b => FM.addF n a b (-1)) [] := by
  obtain ⟨_, _, _, F_need, c_need, m_need, bd_need⟩ := (ok_need (P := P) (w := w) (base := base) T).ex
  obtain ⟨_, d_need, b_need⟩ := bd_need 0 (by decide)
  obtain ⟨_, _, _, F_added, c_added, m_added, bd_added⟩ := (ok_added (P := P) (w := w) (base := base) T).ex
  obtain ⟨_, d_added, b_added⟩ := bd_added 0 (by decide)
  refine T.m_Field_less.ok sc_less (fun vs H Q E h => ?_) (fun f cdv Ar outer s H vs Q E hr h => ?_)
  · obtain ⟨p, n, a, b, rfl, ⟨hn, dx, hp⟩, kq, ke⟩ := h
    rfl
  · obtain ⟨p, n, a, b, rfl, ⟨hn, dx, hp⟩, kq, ke⟩ := h
    have cF := T.c_Field
    have n1 := T.na_Field_many
    have n2 := T.na_Field_prime
    have n3 := T.na_Field_places
    have sr := FM.size_rng hn
    have br := FM.base_rng hn
    have pr := FM.places_rng hn
    refine ⟨_, (pss_cons (ps_expr (pe_meth (pv 0) c_need m_need F_need (hr.mono (by decide)) b_need d_need (passE (takes_of rfl rfl rfl rfl)) (pa_cons (pv 1) pa_nil)))
    (pss_cons (ps_expr (pe_meth (pv 0) c_need m_need F_need (hr.mono (by decide)) b_need d_need (passE (takes_of rfl rfl rfl rfl)) (pa_cons (pv 2) pa_nil)))
    (pss_one (ps_ret (pe_meth (pv 0) c_added m_added F_added (hr.mono (by decide)) b_added d_added (passE (takes_of rfl rfl rfl rfl)) (pa_cons (pv 1) (pa_cons (pv 2) (pa_cons (pe_un un_neg pe_int) pa_nil)))))))), ?_⟩
    walk_at "rd"
    refine ⟨p, n, a, rfl, ⟨hn, dx, hp⟩, fun ra => ?_, fun ra => ke fun z => ra z.1⟩
    walk_at "rd"
    refine ⟨p, n, b, rfl, ⟨hn, dx, hp⟩, fun rb => ?_, fun rb => ke fun z => rb z.2⟩
    walk_at "rd"
    exact ⟨p, n, a, b, -1, rfl, ⟨hn, dx, hp⟩, by decide, kq ⟨ra, rb⟩⟩

theorem sc_product : FnScope ["self", "one", "other", "long", "at", "left", "to", "right", "rule", "figure"] ["self", "one", "other"] (defScope (inClass (top 12) 14)) := ⟨rfl, rfl, rfl, by decide +kernel, rfl, by decide +kernel, by decide +kernel⟩
theorem ok_product (T : Txt P w K mg A) : U.Mt P w K mg base 2 A.Field "product" (spProd A) [] := by
  obtain ⟨_, _, _, F_figures, c_figures, m_figures, bd_figures⟩ := (ok_figures (P := P) (w := w) (base := base) T).ex
  obtain ⟨_, d_figures, b_figures⟩ := bd_figures 0 (by decide)
  obtain ⟨_, _, _, F_composed, c_composed, m_composed, bd_composed⟩ := (ok_composed (P := P) (w := w) (base := base) T).ex
  obtain ⟨_, d_composed, b_composed⟩ := bd_composed 0 (by decide)
  refine T.m_Field_product.ok sc_product (fun vs H Q E h => ?_) (fun f cdv Ar outer s H vs Q E hr h => ?_)
  · obtain ⟨p, n, a, b, rfl, ⟨hn, dx, hp⟩, ra, rb, k⟩ := h
    rfl
  · obtain ⟨p, n, a, b, rfl, ⟨hn, dx, hp⟩, ra, rb, k⟩ := h
    have cF := T.c_Field
    have n1 := T.na_Field_many
    have n2 := T.na_Field_prime
    have n3 := T.na_Field_places
    have sr := FM.size_rng hn
    have br := FM.base_rng hn
    have pr := FM.places_rng hn
    refine ⟨_, (pss_cons (ps_if (pt_cmpR op_eq (pe_fld (pv 0) rfl) pe_int (nomark _))
    (pss_one (ps_ret (pe_op U.u_mod (pe_op U.u_mul (pv 1) (pv 2)) (pe_fld (pv 0) rfl))))
    pss_nil)
    (pss_cons (ps_set (i := 3) sc_product.nd rfl (Or.inl rfl) (pe_op op_rep (pe_lst (pa_cons pe_int pa_nil)) (pe_op U.u_mul pe_int (pe_fld (pv 0) rfl))))
    (pss_cons (ps_for (passes_of (by exact rfl)) (by exact rfl) (pi_enum (by rfl) T.enumerate (pa_cons (pe_meth (pv 0) c_figures m_figures F_figures (hr.mono (by decide)) b_figures d_figures passL (pa_cons (pv 1) pa_nil)) pa_nil)) (pg_tup (by exact rfl) (pgs_cons (pg_name (i := 4) sc_product.nd rfl (Or.inl rfl)) (pgs_cons (pg_name (i := 5) sc_product.nd rfl (Or.inl rfl)) pgs_nil)))
    (pss_one (ps_for (passes_of (by exact rfl)) (by exact rfl) (pi_enum (by rfl) T.enumerate (pa_cons (pe_meth (pv 0) c_figures m_figures F_figures (hr.mono (by decide)) b_figures d_figures passL (pa_cons (pv 2) pa_nil)) pa_nil)) (pg_tup (by exact rfl) (pgs_cons (pg_name (i := 6) sc_product.nd rfl (Or.inl rfl)) (pgs_cons (pg_name (i := 7) sc_product.nd rfl (Or.inl rfl)) pgs_nil)))
    (pss_one (ps_augS (pv 3) (pe_op U.u_add (pv 4) (pv 6)) U.get_list (pe_op U.u_mul (pv 5) (pv 7)) ip_add set_list)))))
    (pss_cons (ps_set (i := 8) sc_product.nd rfl (Or.inl rfl) (U.pe_wget (U.pe_gref rfl T.g_RULES) (pe_fld (pv 0) rfl) (fun _ _ => rfl)))
    (pss_cons (ps_for (passes_of (by exact rfl)) (by exact rfl) (pi_range3 (by rfl) T.range (pa_cons (pe_op U.u_sub (pe_op U.u_mul pe_int (pe_fld (pv 0) rfl)) pe_int) (pa_cons (pe_op U.u_sub (pe_fld (pv 0) rfl) pe_int) (pa_cons (pe_un un_neg pe_int) pa_nil)))) (pg_name (i := 4) sc_product.nd rfl (Or.inl rfl))
    (pss_cons (ps_for (passes_of (by exact rfl)) (by exact rfl) (U.pi_enumT (by rfl) T.enumerate (pa_cons (pv 8) pa_nil)) (pg_tup (by exact rfl) (pgs_cons (pg_name (i := 6) sc_product.nd rfl (Or.inl rfl)) (pgs_cons (pg_name (i := 9) sc_product.nd rfl (Or.inl rfl)) pgs_nil)))
    (pss_one (ps_augS (pv 3) (pe_op U.u_add (pe_op U.u_sub (pv 4) (pe_fld (pv 0) rfl)) (pv 6)) U.get_list (pe_op U.u_mul (pe_ix ix_list (pv 3) (pv 4) (fun _ _ => rfl)) (pv 9)) ip_add set_list)))
    (pss_one (ps_asg pe_int (pg_sub (pv 3) (pv 4) set_list)))))
    (pss_one (ps_ret (pe_meth (pv 0) c_composed m_composed F_composed (hr.mono (by decide)) b_composed d_composed passL (pa_cons (pe_slice sl_list (pv 3) po_none (po_some (pe_fld (pv 0) rfl))) pa_nil))))))))), ?_⟩
    walk_at "rd"
    refine U.ited (fun z1 => ?_) (fun z1 => ?_)
    · walk_at "rd"
      have e : a * b % FM.base n = FM.mulF n a b := by unfold FM.mulF; rw [if_pos (by omega)]
      show Q _ _
      rw [e]
      exact k H (Same.refl H)
    have z2 : FM.places n ≠ 1 := by omega
    walk_at "rd"
    refine U.i_rep (by walk_at "hp") (by omega) (by omega) (by rw [sizeLine_eq]; show 1 * _ ≤ _; omega) ?_
    have e2 : (2 * (FM.places n : Int)).toNat = 2 * FM.places n := by omega
    rw [e2, U.rep_ints]
    walk_at "lay"
    rename_i l0 hl0 H0 s0 ol0 L hL H1 s1 oL
    have hLn : H L = none := s0.free hL
    have sH1 : Same H H1 := s0.trans s1
    walk_at "rd"
    refine ⟨p, n, a, rfl, ⟨hn, dx, by walk_at "hp"⟩, fun l1 H2 hl1 s2 ol1 => ?_⟩
    have fl1 := FM.figs_len (FM.base n) (FM.places n) a
    have fl2 := FM.figs_len (FM.base n) (FM.places n) b
    have ne1 : l1 ≠ L := fun e => by rw [e, oL] at hl1; cases hl1
    walk_at "rd"
    refine for_it walk_enum (fun i σ H' => ∃ v4 v5 v6 v7, σ = [some (.ref p), some (.int a), some (.int b), some (.ref L), v4, v5, v6, v7, none, none] ∧ Same H H' ∧ H' l1 = some (.lst ((FM.figs (FM.base n) (FM.places n) a).map V.int)) ∧
      H' L = some (.lst ((FM.mulOut (FM.figs (FM.base n) (FM.places n) a) (FM.figs (FM.base n) (FM.places n) b) (FM.places n) i).map V.int)))
      ⟨none, none, none, none, rfl, sH1.trans s2, ol1, s2 _ _ oL⟩ (fun _ _ _ _ ⟨_, _, _, _, _, _, h, _⟩ => SqL.of h) ?_ ?_
    · rintro i x σ H3 H4 hi ⟨v4, v5, v6, v7, rfl, s3, o1, o3⟩ ⟨T1, y, z, rfl, hT, rfl, hy, hz⟩
      obtain rfl := Option.some.inj hy
      obtain ⟨rfl, hi2⟩ := U.mig hz
      have rg1 := FM.figs_rng (p := FM.base n) (by omega) (FM.places n) a i
      generalize hg : upd H3 T1 _ = H4
      have s4 := same_of hg hT
      have o4 := at_of hg
      clear hg
      walk_at "rd"
      refine ⟨p, n, b, rfl, ⟨hn, dx, by walk_at "hp"⟩, fun l2 H5 hl2 s5 ol2 => ?_⟩
      have ne2 : l2 ≠ L := fun e => by rw [e, s4 _ _ o3] at hl2; cases hl2
      have ml := FM.mulOut_len (FM.figs (FM.base n) (FM.places n) a) (FM.figs (FM.base n) (FM.places n) b) (FM.places n) i
      walk_at "rd"
      refine for_it walk_enum (fun j σ H' => ∃ v6 v7, σ = [some (.ref p), some (.int a), some (.int b), some (.ref L), some (.int (i : Nat)), some (.int ((FM.figs (FM.base n) (FM.places n) a).getD i 0)), v6, v7, none, none] ∧ Same H H' ∧ H' l1 = some (.lst ((FM.figs (FM.base n) (FM.places n) a).map V.int)) ∧ H' l2 = some (.lst ((FM.figs (FM.base n) (FM.places n) b).map V.int)) ∧
        H' L = some (.lst ((FM.mulIn i ((FM.figs (FM.base n) (FM.places n) a).getD i 0) (FM.figs (FM.base n) (FM.places n) b) (FM.mulOut (FM.figs (FM.base n) (FM.places n) a) (FM.figs (FM.base n) (FM.places n) b) (FM.places n) i) j).map V.int)))
        ⟨v6, v7, rfl, (s3.trans s4).trans s5, s5 _ _ (s4 _ _ o1), ol2, s5 _ _ (s4 _ _ o3)⟩ (fun _ _ _ _ ⟨_, _, _, _, _, h, _⟩ => SqL.of h) ?_ ?_
      · rintro j x σ H6 H7 hj ⟨v6, v7, rfl, s6, o61, o62, o6L⟩ ⟨T2, y, z, rfl, hT2, rfl, hy, hz⟩
        obtain rfl := Option.some.inj hy
        obtain ⟨rfl, hj2⟩ := U.mig hz
        have ml2 := FM.mulIn_len i ((FM.figs (FM.base n) (FM.places n) a).getD i 0) (FM.figs (FM.base n) (FM.places n) b) (FM.mulOut (FM.figs (FM.base n) (FM.places n) a) (FM.figs (FM.base n) (FM.places n) b) (FM.places n) i) j
        generalize hg : upd H6 T2 _ = H7
        have s7 := same_of hg hT2
        have o7 := at_of hg
        clear hg
        walk_at "rd"
        have e3 : ((i : Int) + (j : Int)).toNat = i + j := by omega
        refine U.i_getL (by omega) (by omega) (SqL.of (by walk_at "hp")) (by rw [e3]; exact U.mig' (by omega)) ?_
        walk_at "rd"
        refine U.i_setL (by walk_at "hp") (U.ixN_of (j := i + j) (by omega) (by rw [List.length_map]; omega)) ?_
        rw [U.map_set_int]
        refine ⟨_, _, rfl, same_own (s6.trans s7) hLn, upd_ne'' ne1 (s7 _ _ o61), upd_ne'' ne2 (s7 _ _ o62), upd_same⟩
      · rintro σ H6 ⟨v6, v7, rfl, s6, o61, o62, o6L⟩
        rw [List.length_map] at o6L
        exact ⟨_, _, _, _, rfl, s6, o61, o6L⟩
    · rintro σ H3 ⟨v4, v5, v6, v7, rfl, s3, o1, o3⟩
      rw [List.length_map, fl1] at o3
      generalize hM : FM.mulOut (FM.figs (FM.base n) (FM.places n) a) (FM.figs (FM.base n) (FM.places n) b) (FM.places n) (FM.places n) = M at o3
      have hMl : M.length = 2 * FM.places n := by rw [← hM]; exact FM.mulOut_len _ _ _ _
      walk_at "rd"
      obtain ⟨r, hr, hrs⟩ : ∃ r, valV [((Sum.inl 4 : Key), V.ref A.r4), (Sum.inl 8, V.ref A.r8), (Sum.inl 9, V.ref A.r9), (Sum.inl 16, V.ref A.r16)] (Sum.inl n) = some (.ref r) ∧ ∀ H, SqT K H r ((FM.rule n).map V.int) := by
        rcases FM.comp1 n z2 hn with e | e | e | e <;> subst e
        · exact ⟨A.r4, rfl, T.s_r4⟩
        · exact ⟨A.r8, rfl, T.s_r8⟩
        · exact ⟨A.r9, rfl, T.s_r9⟩
        · exact ⟨A.r16, rfl, T.s_r16⟩
      refine ⟨_, _, Sum.inl n, _, rfl, rfl, T.w_RULES, hr, ?_⟩
      walk_at "rd"
      refine U.i_rng3' (RgC.neg (by omega) (by omega) (by omega) (by omega)) ?_
      have e4 : (2 * (FM.places n : Int) - 1 - (FM.places n - 1)).toNat = FM.places n := by omega
      rw [e4]
      have rl := FM.rule_len hn z2
      refine for_it walk_rangeC (fun i σ H' => ∃ v4 v5 v6 v7 v9, σ = [some (.ref p), some (.int a), some (.int b), some (.ref L), v4, v5, v6, v7, some (.ref r), v9] ∧ Same H H' ∧ H' L = some (.lst ((FM.redOut (FM.places n) (FM.rule n) M i).map V.int)))
        ⟨v4, v5, v6, v7, none, rfl, s3, o3⟩ (fun _ _ _ _ _ => trivial) ?_ ?_
      · rintro i x σ H4 H5 hi ⟨v4, v5, v6, v7, v9, rfl, s4, o4⟩ ⟨rfl, rfl⟩
        have e5 : 2 * (FM.places n : Int) - 1 + (i : Nat) * (-1) = ((2 * FM.places n - 1 - i : Nat) : Int) := by omega
        walk_at "rd"
        refine U.i_enumT' (hrs _) ?_
        have ml := FM.redOut_len (FM.places n) (FM.rule n) M i
        refine for_it U.walk_enumT (fun j σ H' => ∃ v6 v9, σ = [some (.ref p), some (.int a), some (.int b), some (.ref L), some (.int ((2 * FM.places n - 1 - i : Nat) : Int)), v5, v6, v7, some (.ref r), v9] ∧ Same H H' ∧ H' L = some (.lst ((FM.redIn (2 * FM.places n - 1 - i) (FM.places n) (FM.rule n) (FM.redOut (FM.places n) (FM.rule n) M i) j).map V.int)))
          ⟨v6, v9, by show _ = _; rw [← e5]; rfl, s4, o4⟩ (fun _ _ _ _ _ => hrs _) ?_ ?_
        · rintro j x σ H6 H7 hj ⟨v6, v9, rfl, s6, o6⟩ ⟨T2, y, z, rfl, hT2, rfl, hy, hz⟩
          obtain rfl := Option.some.inj hy
          obtain ⟨rfl, hj2⟩ := U.mig hz
          have ml2 := FM.redIn_len (2 * FM.places n - 1 - i) (FM.places n) (FM.rule n) (FM.redOut (FM.places n) (FM.rule n) M i) j
          have rr := FM.rule_rng n j
          generalize hg : upd H6 T2 _ = H7
          have s7 := same_of hg hT2
          have o7 := at_of hg
          clear hg
          walk_at "rd"
          have e6 : (((2 * FM.places n - 1 - i : Nat) : Int) - (FM.places n : Int) + (j : Int)).toNat = 2 * FM.places n - 1 - i - FM.places n + j := by omega
          refine U.i_getL (by omega) (by omega) (SqL.of (by walk_at "hp")) (by rw [e6]; exact U.mig' (by omega)) ?_
          walk_at "rd"
          refine U.i_ixL (SqL.of (by walk_at "hp")) (U.atI_of rfl (U.mig' (by omega))) ?_
          walk_at "rd"
          refine U.i_setL (by walk_at "hp") (U.ixN_of (j := 2 * FM.places n - 1 - i - FM.places n + j) (by omega) (by rw [List.length_map]; omega)) ?_
          rw [U.map_set_int]
          exact ⟨_, _, rfl, same_own (s6.trans s7) hLn, upd_same⟩
        · rintro σ H6 ⟨v6, v9, rfl, s6, o6⟩
          rw [List.length_map] at o6
          have ml2 := FM.redIn_len (2 * FM.places n - 1 - i) (FM.places n) (FM.rule n) (FM.redOut (FM.places n) (FM.rule n) M i) (FM.rule n).length
          walk_at "rd"
          refine U.i_setL (by walk_at "hp") (U.ixN_of (j := 2 * FM.places n - 1 - i) rfl (by rw [List.length_map]; omega)) ?_
          rw [U.map_set_int]
          exact ⟨_, _, _, _, _, rfl, same_own s6 hLn, upd_same⟩
      · rintro σ H4 ⟨v4, v5, v6, v7, v9, rfl, s4, o4⟩
        have ml := FM.redOut_len (FM.places n) (FM.rule n) M (FM.places n)
        walk_at "rd"
        rename_i D hD H5 s5 o5
        rw [U.cut_take (by rw [List.length_map]; omega), ← List.map_take] at o5
        refine ⟨p, D, n, _, rfl, ⟨hn, dx, by walk_at "hp"⟩, o5, ?_⟩
        have e : FM.comp (FM.base n) ((FM.redOut (FM.places n) (FM.rule n) M (FM.places n)).take (FM.places n)) = FM.mulF n a b := by
          unfold FM.mulF
          rw [if_neg z2, hM]
        rw [e]
        exact k _ (s4.trans s5)

theorem sc_times : FnScope ["self", "one", "other"] ["self", "one", "other"] (defScope (inClass (top 12) 15)) := ⟨rfl, rfl, rfl, by decide +kernel, rfl, by decide +kernel, by decide +kernel⟩
theorem ok_times (T : Txt P w K mg A) : U.Mt P w K mg base 3 A.Field "times" (spOp A FM.mulF) [] := by
  obtain ⟨_, _, _, F_need, c_need, m_need, bd_need⟩ := (ok_need (P := P) (w := w) (base := base) T).ex
  obtain ⟨_, d_need, b_need⟩ := bd_need 0 (by decide)
  obtain ⟨_, _, _, F_product, c_product, m_product, bd_product⟩ := (ok_product (P := P) (w := w) (base := base) T).ex
  obtain ⟨_, d_product, b_product⟩ := bd_product 0 (by decide)
  refine T.m_Field_times.ok sc_times (fun vs H Q E h => ?_) (fun f cdv Ar outer s H vs Q E hr h => ?_)
  · obtain ⟨p, n, a, b, rfl, ⟨hn, dx, hp⟩, kq, ke⟩ := h
    rfl
  · obtain ⟨p, n, a, b, rfl, ⟨hn, dx, hp⟩, kq, ke⟩ := h
    have cF := T.c_Field
    have n1 := T.na_Field_many
    have n2 := T.na_Field_prime
    have n3 := T.na_Field_places
    have sr := FM.size_rng hn
    have br := FM.base_rng hn
    have pr := FM.places_rng hn
    refine ⟨_, (pss_cons (ps_expr (pe_meth (pv 0) c_need m_need F_need (hr.mono (by decide)) b_need d_need (passE (takes_of rfl rfl rfl rfl)) (pa_cons (pv 1) pa_nil)))
    (pss_cons (ps_expr (pe_meth (pv 0) c_need m_need F_need (hr.mono (by decide)) b_need d_need (passE (takes_of rfl rfl rfl rfl)) (pa_cons (pv 2) pa_nil)))
    (pss_one (ps_ret (pe_meth (pv 0) c_product m_product F_product (hr.mono (by decide)) b_product d_product (passE (takes_of rfl rfl rfl rfl)) (pa_cons (pv 1) (pa_cons (pv 2) pa_nil))))))), ?_⟩
    walk_at "rd"
    refine ⟨p, n, a, rfl, ⟨hn, dx, hp⟩, fun ra => ?_, fun ra => ke fun z => ra z.1⟩
    walk_at "rd"
    refine ⟨p, n, b, rfl, ⟨hn, dx, hp⟩, fun rb => ?_, fun rb => ke fun z => rb z.2⟩
    walk_at "rd"
    exact ⟨p, n, a, b, rfl, ⟨hn, dx, hp⟩, ra, rb, kq ⟨ra, rb⟩⟩

theorem sc_inverse : FnScope ["self", "one", "other"] ["self", "one"] (defScope (inClass (top 12) 16)) := ⟨rfl, rfl, rfl, by decide +kernel, rfl, by decide +kernel, by decide +kernel⟩
theorem ok_inverse (T : Txt P w K mg A) : U.Mt P w K mg base 3 A.Field "inverse" (spInv A) [] := by
  obtain ⟨_, _, _, F_product, c_product, m_product, bd_product⟩ := (ok_product (P := P) (w := w) (base := base) T).ex
  obtain ⟨_, d_product, b_product⟩ := bd_product 0 (by decide)
  refine T.m_Field_inverse.ok sc_inverse (fun vs H Q E h => ?_) (fun f cdv Ar outer s H vs Q E hr h => ?_)
  · obtain ⟨p, n, a, rfl, ⟨hn, dx, hp⟩, h0, h1, k⟩ := h
    rfl
  · obtain ⟨p, n, a, rfl, ⟨hn, dx, hp⟩, h0, h1, k⟩ := h
    have cF := T.c_Field
    have n1 := T.na_Field_many
    have n2 := T.na_Field_prime
    have n3 := T.na_Field_places
    have sr := FM.size_rng hn
    have br := FM.base_rng hn
    have pr := FM.places_rng hn
    refine ⟨_, (pss_one (ps_ret (pe_ix ix_list (pe_lc (own := [("other", 2)]) (g := (gName 2)) (by exact rfl) sc_inverse.nd (pi_range2 (by rfl) T.range (pa_cons pe_int (pa_cons (pe_fld (pv 0) rfl) pa_nil))) (blkOk_by (own := [("other", 2)]) (N := ["self", "one", "other"]) (sc := defScope (inClass (top 12) 16)) (by decide +kernel)) (fun _ _ _ _ _ => (pg_name (i := 2) sc_inverse.nd rfl (Or.inl rfl))) (fun _ _ _ _ _ => pts_one (pt_cmpR op_eq (pe_meth (pv 0) c_product m_product F_product (hr.mono (by decide)) b_product d_product passL (pa_cons (pv 1) (pa_cons (pv 2) pa_nil))) pe_int (nomark _))) (fun _ _ _ _ _ => (pv 2))) pe_int (fun _ _ => rfl)))), ?_⟩
    walk_at "rd"
    intro D hD
    have e0 : (n - 1).toNat + 1 = n.toNat := by omega
    refine lc_it (walk_range (n := (n - 1).toNat)) (fun i H' => Same H H' ∧ H' D = some (.lst ((FM.invP n a i).map V.int))) ⟨same_new hD, upd_same⟩ (fun _ _ _ _ => trivial) ?_ ?_
    · rintro i x H3 H4 hi ⟨s3, o3⟩ ⟨rfl, rfl⟩
      walk_at "rd"
      refine ⟨rfl, ?_⟩
      walk_at "rd"
      refine ⟨p, n, a, 1 + (i : Nat), rfl, ⟨hn, dx, by walk_at "hp"⟩, by omega, by omega, fun H5 s5 => ?_⟩
      walk_at "rd"
      refine U.ited (fun z => ?_) (fun z => ?_)
      · walk_at "rd"
        have il := FM.invP_len n a i
        refine ⟨_, s5 _ _ o3, small1000 (by rw [List.length_map]; omega), same_own (s3.trans s5) hD, ?_⟩
        rw [FM.invP_succ, if_pos z, List.map_append]
        exact upd_same
      · refine ⟨s3.trans s5, ?_⟩
        rw [FM.invP_succ, if_neg z]
        exact s5 _ _ o3
    · rintro H3 ⟨s3, o3⟩
      have io := FM.inv_ok hn h0 h1
      have e : FM.invP n a (n - 1).toNat = FM.invL n a := rfl
      rw [e] at o3
      have hl : 0 < (FM.invL n a).length := by omega
      walk_at "rd"
      refine U.i_ixL (SqL.of o3) (U.atI_of (j := 0) rfl (U.mig' hl)) ?_
      walk_at "rd"
      have e2 : (FM.invL n a).getD 0 0 = FM.invF n a := by
        unfold FM.invF
        cases FM.invL n a <;> rfl
      rw [e2]
      exact k _ s3

theorem sc_over : FnScope ["self", "one", "other"] ["self", "one", "other"] (defScope (inClass (top 12) 17)) := ⟨rfl, rfl, rfl, by decide +kernel, rfl, by decide +kernel, by decide +kernel⟩
theorem ok_over (T : Txt P w K mg A) : U.Mt P w K mg base 4 A.Field "over" (spOver A) [] := by
  obtain ⟨_, _, _, F_need, c_need, m_need, bd_need⟩ := (ok_need (P := P) (w := w) (base := base) T).ex
  obtain ⟨_, d_need, b_need⟩ := bd_need 0 (by decide)
  obtain ⟨_, _, _, F_product, c_product, m_product, bd_product⟩ := (ok_product (P := P) (w := w) (base := base) T).ex
  obtain ⟨_, d_product, b_product⟩ := bd_product 0 (by decide)
  obtain ⟨_, _, _, F_inverse, c_inverse, m_inverse, bd_inverse⟩ := (ok_inverse (P := P) (w := w) (base := base) T).ex
  obtain ⟨_, d_inverse, b_inverse⟩ := bd_inverse 0 (by decide)
  refine T.m_Field_over.ok sc_over (fun vs H Q E h => ?_) (fun f cdv Ar outer s H vs Q E hr h => ?_)
  · obtain ⟨p, n, a, b, rfl, ⟨hn, dx, hp⟩, kq, ke, kz⟩ := h
    rfl
  · obtain ⟨p, n, a, b, rfl, ⟨hn, dx, hp⟩, kq, ke, kz⟩ := h
    have cF := T.c_Field
    have n1 := T.na_Field_many
    have n2 := T.na_Field_prime
    have n3 := T.na_Field_places
    have sr := FM.size_rng hn
    have br := FM.base_rng hn
    have pr := FM.places_rng hn
    refine ⟨_, (pss_cons (ps_expr (pe_meth (pv 0) c_need m_need F_need (hr.mono (by decide)) b_need d_need (passE (takes_of rfl rfl rfl rfl)) (pa_cons (pv 1) pa_nil)))
    (pss_cons (ps_expr (pe_meth (pv 0) c_need m_need F_need (hr.mono (by decide)) b_need d_need (passE (takes_of rfl rfl rfl rfl)) (pa_cons (pv 2) pa_nil)))
    (pss_cons (ps_if (pt_cmpR op_eq (pv 2) pe_int (nomark _))
    (pss_one (U.ps_raise0 rfl (takes_of rfl rfl rfl rfl) T.e_NoShare))
    pss_nil)
    (pss_one (ps_ret (pe_meth (pv 0) c_product m_product F_product (hr.mono (by decide)) b_product d_product (passE (takes_of rfl rfl rfl rfl)) (pa_cons (pv 1) (pa_cons (pe_meth (pv 0) c_inverse m_inverse F_inverse (hr.mono (by decide)) b_inverse d_inverse (passE (takes_of rfl rfl rfl rfl)) (pa_cons (pv 2) pa_nil)) pa_nil)))))))), ?_⟩
    walk_at "rd"
    refine ⟨p, n, a, rfl, ⟨hn, dx, hp⟩, fun ra => ?_, fun ra => ke fun z => ra z.1⟩
    walk_at "rd"
    refine ⟨p, n, b, rfl, ⟨hn, dx, hp⟩, fun rb => ?_, fun rb => ke fun z => rb z.2⟩
    walk_at "rd"
    refine U.ited (fun z => ?_) (fun z => ?_)
    · exact kz ⟨ra, rb⟩ z _ (Same.refl _)
    · walk_at "rd"
      refine ⟨p, n, b, rfl, ⟨hn, dx, hp⟩, by omega, by omega, fun H1 s1 => ?_⟩
      have io := FM.inv_ok hn (a := b) (by omega) (by omega)
      walk_at "rd"
      exact ⟨p, n, a, FM.invF n b, rfl, ⟨hn, dx, by walk_at "hp"⟩, ra, io.2, fun H2 s2 => kq ⟨ra, rb⟩ z _ (s1.trans s2)⟩

theorem sc_power : FnScope ["self", "one", "many", "found", "part", "odd"] ["self", "one", "many"] (defScope (inClass (top 12) 18)) := ⟨rfl, rfl, rfl, by decide +kernel, rfl, by decide +kernel, by decide +kernel⟩
theorem ok_power (T : Txt P w K mg A) : U.Mt P w K mg base 3 A.Field "power" (spPow A) [] := by
  obtain ⟨_, _, _, F_need, c_need, m_need, bd_need⟩ := (ok_need (P := P) (w := w) (base := base) T).ex
  obtain ⟨_, d_need, b_need⟩ := bd_need 0 (by decide)
  obtain ⟨_, _, _, F_product, c_product, m_product, bd_product⟩ := (ok_product (P := P) (w := w) (base := base) T).ex
  obtain ⟨_, d_product, b_product⟩ := bd_product 0 (by decide)
  refine T.m_Field_power.ok sc_power (fun vs H Q E h => ?_) (fun f cdv Ar outer s H vs Q E hr h => ?_)
  · obtain ⟨p, n, a, m, rfl, ⟨hn, dx, hp⟩, kq, ke⟩ := h
    rfl
  · obtain ⟨p, n, a, m, rfl, ⟨hn, dx, hp⟩, kq, ke⟩ := h
    have cF := T.c_Field
    have n1 := T.na_Field_many
    have n2 := T.na_Field_prime
    have n3 := T.na_Field_places
    have sr := FM.size_rng hn
    have br := FM.base_rng hn
    have pr := FM.places_rng hn
    refine ⟨_, (pss_cons (ps_expr (pe_meth (pv 0) c_need m_need F_need (hr.mono (by decide)) b_need d_need (passE (takes_of rfl rfl rfl rfl)) (pa_cons (pv 1) pa_nil)))
    (pss_cons (ps_if (pt_cmpR U.u_lt (pv 2) pe_int (nomark _))
    (pss_one (U.ps_raise0 rfl (takes_of rfl rfl rfl rfl) T.e_BadNumber))
    pss_nil)
    (pss_cons (ps_set (i := 3) sc_power.nd rfl (Or.inl rfl) pe_int)
    (pss_cons (ps_set (i := 4) sc_power.nd rfl (Or.inl rfl) (pv 1))
    (pss_cons (ps_while (passes_of (by exact rfl)) (pt_cmpR U.u_gt (pv 2) pe_int (nomark _))
    (pss_cons (ps_asg (pe_callB U.u_divmod (by rfl) T.divmod (by decide +kernel) (pa_cons (pv 2) (pa_cons pe_int pa_nil))) (pg_tup (by exact rfl) (pgs_cons (pg_name (i := 2) sc_power.nd rfl (Or.inl rfl)) (pgs_cons (pg_name (i := 5) sc_power.nd rfl (Or.inl rfl)) pgs_nil))))
    (pss_cons (ps_if (pt_cmpR op_eq (pv 5) pe_int (nomark _))
    (pss_one (ps_set (i := 3) sc_power.nd rfl (Or.inl rfl) (pe_meth (pv 0) c_product m_product F_product (hr.mono (by decide)) b_product d_product (passE (takes_of rfl rfl rfl rfl)) (pa_cons (pv 3) (pa_cons (pv 4) pa_nil)))))
    pss_nil)
    (pss_one (ps_set (i := 4) sc_power.nd rfl (Or.inl rfl) (pe_meth (pv 0) c_product m_product F_product (hr.mono (by decide)) b_product d_product (passE (takes_of rfl rfl rfl rfl)) (pa_cons (pv 4) (pa_cons (pv 4) pa_nil))))))))
    (pss_one (ps_ret (pv 3)))))))), ?_⟩
    walk_at "rd"
    refine ⟨p, n, a, rfl, ⟨hn, dx, hp⟩, fun ra => ?_, fun ra => ke fun z => ra z.1⟩
    walk_at "rd"
    refine U.ited (fun z => ?_) (fun z => ?_)
    · exact ke fun q => by omega
    · walk_at "rd"
      refine ⟨fun fuel σ H' => ∃ (fd pt : Int) (j : Nat) (v5 : Option V), σ = [some (.ref p), some (.int a), some (.int (j : Nat)), some (.int fd), some (.int pt), v5] ∧ Same H H' ∧ j ≤ fuel ∧ (0 ≤ fd ∧ fd < n) ∧ (0 ≤ pt ∧ pt < n) ∧ FM.powGo n fuel fd j pt = FM.powF n a m.toNat, ⟨m.toNat, 1, a, m.toNat, none, ?_, Same.refl _, Nat.le_refl _, by omega, ra, rfl⟩, ?_⟩
      · have e : ((m.toNat : Nat) : Int) = m := by omega
        rw [e]
        rfl
      · rintro fuel σ H2 ⟨fd, pt, j, v5, rfl, s2, hj, r1, r2, e⟩
        walk_at "rd"
        refine U.ited (fun z1 => ?_) (fun z1 => ?_)
        · obtain ⟨f0, rfl⟩ : ∃ f0, fuel = f0 + 1 := ⟨fuel - 1, by omega⟩
          refine ⟨fun σ' H' => ∃ m', m' < f0 + 1 ∧ ∃ (fd pt : Int) (j : Nat) (v5 : Option V), σ' = [some (.ref p), some (.int a), some (.int (j : Nat)), some (.int fd), some (.int pt), v5] ∧ Same H H' ∧ j ≤ m' ∧ (0 ≤ fd ∧ fd < n) ∧ (0 ≤ pt ∧ pt < n) ∧ FM.powGo n m' fd j pt = FM.powF n a m.toNat, fun _ _ h => h, ?_⟩
          rw [FM.powGo1 n f0 j fd pt (by omega)] at e
          walk_at "rd"
          rename_i T1 hT H3 s3 oT
          have e1 : ((j : Int) / 2) = ((j / 2 : Nat) : Int) := by omega
          refine U.ited (fun z2 => ?_) (fun z2 => ?_)
          · rw [if_pos (by omega)] at e
            walk_at "rd"
            refine ⟨p, n, fd, pt, rfl, ⟨hn, dx, by walk_at "hp"⟩, r1, r2, fun H4 s4 => ?_⟩
            walk_at "rd"
            refine ⟨p, n, pt, pt, rfl, ⟨hn, dx, by walk_at "hp"⟩, r2, r2, fun H5 s5 => ?_⟩
            walk_at "rd"
            exact ⟨f0, by omega, FM.mulF n fd pt, FM.mulF n pt pt, j / 2, _, by rw [e1]; rfl, ((s2.trans s3).trans s4).trans s5, by omega, FM.mul_rng hn r1.1 r1.2 r2.1 r2.2, FM.mul_rng hn r2.1 r2.2 r2.1 r2.2, e⟩
          · rw [if_neg (by omega)] at e
            walk_at "rd"
            refine ⟨p, n, pt, pt, rfl, ⟨hn, dx, by walk_at "hp"⟩, r2, r2, fun H5 s5 => ?_⟩
            walk_at "rd"
            exact ⟨f0, by omega, fd, FM.mulF n pt pt, j / 2, _, by rw [e1]; rfl, (s2.trans s3).trans s5, by omega, r1, FM.mul_rng hn r2.1 r2.2 r2.1 r2.2, e⟩
        · obtain rfl : j = 0 := by omega
          rw [FM.powGo0] at e
          walk_at "rd"
          show Q _ _
          rw [e]
          exact kq ⟨ra, by omega⟩ _ s2

theorem sc_law : FnScope ["_law_script", "_law_bag_here", "_law_turn", "_law_big", "_law_over", "_law_a", "_law_b", "_law_c", "_law_some", "_law_one", "_law_row", "_law_other"] ["_law_script"] (defScope (top 17)) := ⟨rfl, rfl, rfl, by decide +kernel, rfl, by decide +kernel, by decide +kernel⟩
theorem ok_law (T : Txt P w K mg A) {f : Addr} {fd : FuncData} (F : U.FunA K "law" "law" (top 17) [] [] f fd) : FnOk P w K mg base (L2.CX P w) 5 f fd ["_law_script"] (spLaw K) := by
  obtain ⟨_, _, _, F_bag, g_bag, k_bag, bd_bag⟩ := (ok_bag (P := P) (w := w) (base := base) T).ex
  obtain ⟨_, d_bag, b_bag⟩ := bd_bag 0 (by decide)
  obtain ⟨_, _, _, F_pull, g_pull, k_pull, bd_pull⟩ := (ok_pull (P := P) (w := w) (base := base) T).ex
  obtain ⟨_, d_pull, b_pull⟩ := bd_pull 0 (by decide)
  obtain ⟨_, _, _, F_size, g_size, k_size, bd_size⟩ := (ok_size (P := P) (w := w) (base := base) T).ex
  obtain ⟨_, d_size, b_size⟩ := bd_size 0 (by decide)
  obtain ⟨_, _, _, F_init, M_init, g_init, bd_init⟩ := (ok_init (P := P) (w := w) (base := base) T).ex
  obtain ⟨_, d_init, b_init⟩ := bd_init 1 (by decide)
  obtain ⟨_, _, _, F_plus, c_plus, m_plus, bd_plus⟩ := (ok_plus (P := P) (w := w) (base := base) T).ex
  obtain ⟨_, d_plus, b_plus⟩ := bd_plus 0 (by decide)
  obtain ⟨_, _, _, F_less, c_less, m_less, bd_less⟩ := (ok_less (P := P) (w := w) (base := base) T).ex
  obtain ⟨_, d_less, b_less⟩ := bd_less 0 (by decide)
  obtain ⟨_, _, _, F_times, c_times, m_times, bd_times⟩ := (ok_times (P := P) (w := w) (base := base) T).ex
  obtain ⟨_, d_times, b_times⟩ := bd_times 0 (by decide)
  obtain ⟨_, _, _, F_over, c_over, m_over, bd_over⟩ := (ok_over (P := P) (w := w) (base := base) T).ex
  obtain ⟨_, d_over, b_over⟩ := bd_over 0 (by decide)
  obtain ⟨_, _, _, F_power, c_power, m_power, bd_power⟩ := (ok_power (P := P) (w := w) (base := base) T).ex
  obtain ⟨_, d_power, b_power⟩ := bd_power 0 (by decide)
  obtain ⟨_, _, _, F_fsize, c_fsize, m_fsize, bd_fsize⟩ := (ok_fsize (P := P) (w := w) (base := base) T).ex
  obtain ⟨_, d_fsize, b_fsize⟩ := bd_fsize 0 (by decide)
  refine F.ok sc_law (fun vs H Q E h => ?_) (fun cdv Ar outer s H vs Q E hr h => ?_)
  · obtain ⟨a, ns, rfl, hS, hl, k⟩ := h
    rfl
  · obtain ⟨a, ns, rfl, hS, hl, k⟩ := h
    refine ⟨_, (pss_cons (ps_set (i := 1) sc_law.nd rfl (Or.inl rfl) (pe_call F_bag (hr.mono (by decide)) rfl g_bag k_bag b_bag d_bag passL (pa_cons (pv 0) pa_nil)))
    (pss_cons (ps_for (passes_of (by exact rfl)) (by exact rfl) (pi_range1 (by rfl) T.range (pa_cons pe_int pa_nil)) (pg_name (i := 2) sc_law.nd rfl (Or.inl rfl))
    (pss_cons (ps_set (i := 3) sc_law.nd rfl (Or.inl rfl) (pe_call F_size (hr.mono (by decide)) rfl g_size k_size b_size d_size passL (pa_cons (pv 1) pa_nil)))
    (pss_cons (ps_set (i := 4) sc_law.nd rfl (Or.inr rfl) (pe_make M_init F_init (hr.mono (by decide)) rfl g_init b_init d_init passL (pa_cons (pv 3) pa_nil)))
    (pss_cons (ps_par3 (i := 5) (j := 6) (l := 7) (by exact rfl) sc_law.nd rfl rfl rfl (by decide) (by decide) (by decide) rfl rfl rfl (pa_cons (pe_call F_pull (hr.mono (by decide)) rfl g_pull k_pull b_pull d_pull passL (pa_cons (pv 1) (pa_cons (pv 3) pa_nil))) (pa_cons (pe_call F_pull (hr.mono (by decide)) rfl g_pull k_pull b_pull d_pull passL (pa_cons (pv 1) (pa_cons (pv 3) pa_nil))) (pa_cons (pe_call F_pull (hr.mono (by decide)) rfl g_pull k_pull b_pull d_pull passL (pa_cons (pv 1) (pa_cons (pv 3) pa_nil))) pa_nil))) (by rfl))
    (pss_cons (ps_if (PW.pt (pw_or (pt_cmpR op_ne (pe_meth (pv 4) c_plus m_plus F_plus (hr.mono (by decide)) b_plus d_plus passL (pa_cons (pv 5) (pa_cons (pv 6) pa_nil))) (pe_meth (pv 4) c_plus m_plus F_plus (hr.mono (by decide)) b_plus d_plus passL (pa_cons (pv 6) (pa_cons (pv 5) pa_nil))) (nomark _)) (pw_or1 (pt_cmpR op_ne (pe_meth (pv 4) c_times m_times F_times (hr.mono (by decide)) b_times d_times passL (pa_cons (pv 5) (pa_cons (pv 6) pa_nil))) (pe_meth (pv 4) c_times m_times F_times (hr.mono (by decide)) b_times d_times passL (pa_cons (pv 6) (pa_cons (pv 5) pa_nil))) (nomark _)))))
    (pss_one (ps_ret pe_bl))
    pss_nil)
    (pss_cons (ps_if (pt_cmpR op_ne (pe_meth (pv 4) c_plus m_plus F_plus (hr.mono (by decide)) b_plus d_plus passL (pa_cons (pe_meth (pv 4) c_plus m_plus F_plus (hr.mono (by decide)) b_plus d_plus passL (pa_cons (pv 5) (pa_cons (pv 6) pa_nil))) (pa_cons (pv 7) pa_nil))) (pe_meth (pv 4) c_plus m_plus F_plus (hr.mono (by decide)) b_plus d_plus passL (pa_cons (pv 5) (pa_cons (pe_meth (pv 4) c_plus m_plus F_plus (hr.mono (by decide)) b_plus d_plus passL (pa_cons (pv 6) (pa_cons (pv 7) pa_nil))) pa_nil))) (nomark _))
    (pss_one (ps_ret pe_bl))
    pss_nil)
    (pss_cons (ps_if (pt_cmpR op_ne (pe_meth (pv 4) c_times m_times F_times (hr.mono (by decide)) b_times d_times passL (pa_cons (pe_meth (pv 4) c_times m_times F_times (hr.mono (by decide)) b_times d_times passL (pa_cons (pv 5) (pa_cons (pv 6) pa_nil))) (pa_cons (pv 7) pa_nil))) (pe_meth (pv 4) c_times m_times F_times (hr.mono (by decide)) b_times d_times passL (pa_cons (pv 5) (pa_cons (pe_meth (pv 4) c_times m_times F_times (hr.mono (by decide)) b_times d_times passL (pa_cons (pv 6) (pa_cons (pv 7) pa_nil))) pa_nil))) (nomark _))
    (pss_one (ps_ret pe_bl))
    pss_nil)
    (pss_cons (ps_if (pt_cmpR op_ne (pe_meth (pv 4) c_times m_times F_times (hr.mono (by decide)) b_times d_times passL (pa_cons (pv 5) (pa_cons (pe_meth (pv 4) c_plus m_plus F_plus (hr.mono (by decide)) b_plus d_plus passL (pa_cons (pv 6) (pa_cons (pv 7) pa_nil))) pa_nil))) (pe_meth (pv 4) c_plus m_plus F_plus (hr.mono (by decide)) b_plus d_plus passL (pa_cons (pe_meth (pv 4) c_times m_times F_times (hr.mono (by decide)) b_times d_times passL (pa_cons (pv 5) (pa_cons (pv 6) pa_nil))) (pa_cons (pe_meth (pv 4) c_times m_times F_times (hr.mono (by decide)) b_times d_times passL (pa_cons (pv 5) (pa_cons (pv 7) pa_nil))) pa_nil))) (nomark _))
    (pss_one (ps_ret pe_bl))
    pss_nil)
    (pss_cons (ps_if (PW.pt (pw_or (pt_cmpR op_ne (pe_meth (pv 4) c_plus m_plus F_plus (hr.mono (by decide)) b_plus d_plus passL (pa_cons (pe_meth (pv 4) c_less m_less F_less (hr.mono (by decide)) b_less d_less passL (pa_cons (pv 5) (pa_cons (pv 6) pa_nil))) (pa_cons (pv 6) pa_nil))) (pv 5) (nomark _)) (pw_or (pt_cmpR op_ne (pe_meth (pv 4) c_less m_less F_less (hr.mono (by decide)) b_less d_less passL (pa_cons (pv 5) (pa_cons (pv 5) pa_nil))) pe_int (nomark _)) (pw_or1 (pt_cmpR op_ne (pe_meth (pv 4) c_times m_times F_times (hr.mono (by decide)) b_times d_times passL (pa_cons (pv 5) (pa_cons pe_int pa_nil))) (pv 5) (nomark _))))))
    (pss_one (ps_ret pe_bl))
    pss_nil)
    (pss_cons (ps_if (PW.pt (pw_or (PW.pt (pw_and (pt_cmpR op_ne (pv 6) pe_int (nomark _)) (pw_and1 (pt_cmpR op_ne (pe_meth (pv 4) c_times m_times F_times (hr.mono (by decide)) b_times d_times passL (pa_cons (pe_meth (pv 4) c_over m_over F_over (hr.mono (by decide)) b_over d_over passL (pa_cons (pv 5) (pa_cons (pv 6) pa_nil))) (pa_cons (pv 6) pa_nil))) (pv 5) (nomark _))))) (pw_or1 (pt_cmpR op_ne (pe_meth (pv 4) c_power m_power F_power (hr.mono (by decide)) b_power d_power passL (pa_cons (pv 5) (pa_cons (pv 3) pa_nil))) (pv 5) (nomark _)))))
    (pss_one (ps_ret pe_bl))
    pss_nil)
    (pss_cons (ps_set (i := 8) sc_law.nd rfl (Or.inl rfl) (pe_ifExp (pt_cmpR op_eq (pe_call F_pull (hr.mono (by decide)) rfl g_pull k_pull b_pull d_pull passL (pa_cons (pv 1) (pa_cons pe_int pa_nil))) pe_int (nomark _)) (pe_meth0 (pv 4) c_fsize m_fsize F_fsize (hr.mono (by decide)) b_fsize d_fsize passL) pe_int))
    (pss_one (ps_for (passes_of (by exact rfl)) (by exact rfl) (pi_range1 (by rfl) T.range (pa_cons (pv 8) pa_nil)) (pg_name (i := 9) sc_law.nd rfl (Or.inr rfl))
    (pss_cons (ps_set (i := 10) sc_law.nd rfl (Or.inl rfl) (pe_callB cr_sortedI (by rfl) T.sorted (by decide +kernel) (pa_cons (pe_lc (own := [("_law_other", 11)]) (g := (gName 11)) (tt := tYes) (by exact rfl) sc_law.nd (pi_range1 (by rfl) T.range (pa_cons (pv 3) pa_nil)) (blkOk_by (own := [("_law_other", 11)]) (N := ["_law_script", "_law_bag_here", "_law_turn", "_law_big", "_law_over", "_law_a", "_law_b", "_law_c", "_law_some", "_law_one", "_law_row", "_law_other"]) (sc := defScope (top 17)) (by decide +kernel)) (fun _ _ _ _ _ => (pg_name (i := 11) sc_law.nd rfl (Or.inl rfl))) (fun _ _ _ _ _ => pts_nil) (fun _ _ _ _ _ => (pe_meth (pv 4) c_plus m_plus F_plus (hr.mono (by decide)) b_plus d_plus passL (pa_cons (pv 9) (pa_cons (pv 11) pa_nil))))) pa_nil)))
    (pss_cons (ps_if (pt_cmpR (op_neD hr.units) (pv 10) (pe_listRg (by exact rfl) (by rfl) T.list (prg_1 (by rfl) T.range (pv 3))) (nomark _))
    (pss_one (ps_ret pe_bl))
    pss_nil)
    (pss_cons (ps_set (i := 10) sc_law.nd rfl (Or.inl rfl) (pe_callB cr_sortedI (by rfl) T.sorted (by decide +kernel) (pa_cons (pe_lc (own := [("_law_other", 11)]) (g := (gName 11)) (tt := tYes) (by exact rfl) sc_law.nd (pi_range1 (by rfl) T.range (pa_cons (pv 3) pa_nil)) (blkOk_by (own := [("_law_other", 11)]) (N := ["_law_script", "_law_bag_here", "_law_turn", "_law_big", "_law_over", "_law_a", "_law_b", "_law_c", "_law_some", "_law_one", "_law_row", "_law_other"]) (sc := defScope (top 17)) (by decide +kernel)) (fun _ _ _ _ _ => (pg_name (i := 11) sc_law.nd rfl (Or.inl rfl))) (fun _ _ _ _ _ => pts_nil) (fun _ _ _ _ _ => (pe_meth (pv 4) c_times m_times F_times (hr.mono (by decide)) b_times d_times passL (pa_cons (pv 9) (pa_cons (pv 11) pa_nil))))) pa_nil)))
    (pss_one (ps_if (PW.pt (pw_and (pt_cmpR op_ne (pv 9) pe_int (nomark _)) (pw_and1 (pt_cmpR (op_neD hr.units) (pv 10) (pe_listRg (by exact rfl) (by rfl) T.list (prg_1 (by rfl) T.range (pv 3))) (nomark _)))))
    (pss_one (ps_ret pe_bl))
    pss_nil))))))))))))))))))
    (pss_one (ps_ret pe_bl)))), ?_⟩
    walk_at "rd"
    refine ⟨a, ns, rfl, hS, hl, fun b H1 hb s1 hbag => ?_⟩
    walk_at "rd"
    refine for_it walk_range (fun i σ H' => ∃ v2 v3 v4 v5 v6 v7 v8 v9 v10, σ = [some (.ref a), some (.ref b), v2, v3, v4, v5, v6, v7, v8, v9, v10, none] ∧ Bag H' b) ⟨_, _, _, _, _, _, _, _, _, rfl, hbag⟩ (fun _ _ _ _ _ => trivial) ?_ ?_
    rotate_left
    · rintro σ H2 ⟨v2, v3, v4, v5, v6, v7, v8, v9, v10, rfl, hb2⟩
      walk_at "rd"
      exact k _
    rintro i x σ H2 H3 hi ⟨v2, v3, v4, v5, v6, v7, v8, v9, v10, rfl, hb2⟩ ⟨rfl, rfl⟩
    walk_at "rd"
    refine ⟨b, rfl, hb2, fun n H4 hn hb4 bt4 => ?_⟩
    have sr := FM.size_rng hn
    walk_at "rd"
    refine U.i_make ?_
    walk_at "rd"
    intro p dx np ndx nep
    refine ⟨p, dx, n, rfl, upd_same, fun hn' H5 kp fa => ⟨rfl, ?_⟩, fun hx => absurd hn hx⟩
    have s5 := Same.made np ndx kp
    have hb5 := hb4.same s5
    have hpb : p ≠ b := fun e => by obtain ⟨c, ns, i, l, z, h1, _⟩ := hb4; rw [e, h1] at np; cases np
    walk_at "rd"
    refine ⟨b, n, rfl, hb5, by omega, by omega, fun xa H6 a0 a1 hb6 bt6 => ?_⟩
    walk_at "rd"
    refine ⟨b, n, rfl, hb6, by omega, by omega, fun xb H7 b0 b1 hb7 bt7 => ?_⟩
    walk_at "rd"
    refine ⟨b, n, rfl, hb7, by omega, by omega, fun xc H8 c0 c1 hb8 bt8 => ?_⟩
    have fa8 := ((fa.but bt6 hpb).but bt7 hpb).but bt8 hpb
    obtain ⟨_, dxf, hp8⟩ := id fa8
    have g2 := FM.laws2 hn a0 a1 b0 b1
    have g3 := FM.laws3 hn a0 a1 b0 b1 c0 c1
    have rab := FM.add_rng hn a0 a1 b0 b1
    have rbc := FM.add_rng hn b0 b1 c0 c1
    have sab := FM.sub_rng hn a0 a1 b0 b1
    have mab := FM.mul_rng hn a0 a1 b0 b1
    have mbc := FM.mul_rng hn b0 b1 c0 c1
    have mac := FM.mul_rng hn a0 a1 c0 c1
    walk_at "rd"
    walk_at "ro"
    walk_at "op2"
    walk_at "op2"
    refine iteNS g2.2.1 ?_
    walk_at "rd"
    walk_at "op2"
    walk_at "op2"
    refine iteNS g2.1 ?_
    walk_at "rd"
    walk_at "op2"
    walk_at "op2"
    walk_at "op2"
    walk_at "op2"
    refine iteNS g3.2.1 ?_
    walk_at "rd"
    walk_at "op2"
    walk_at "op2"
    walk_at "op2"
    walk_at "op2"
    refine iteNS g3.1 ?_
    walk_at "rd"
    walk_at "op2"
    walk_at "op2"
    walk_at "op2"
    walk_at "op2"
    walk_at "op2"
    refine iteNS g3.2.2 ?_
    walk_at "rd"
    walk_at "ro"
    walk_at "op2"
    walk_at "op2"
    refine iteNS g2.2.2.1 ?_
    walk_at "ro"
    walk_at "op2"
    refine iteNS g2.2.2.2.1 ?_
    walk_at "rd"
    walk_at "op2"
    refine iteNS g2.2.2.2.2 ?_
    walk_at "rd"
    refine U.i_or ?_
    refine U.i_cutB false (fun H' => FA A H' p n ∧ Bag H' b) ?_ (fun rest => ?_)
    rotate_left
    · walk_at "ra"
      refine U.itedn (fun z => ?_) (fun z => ?_)
      · have ro := FM.over_rng hn a0 a1 b0 b1 z
        walk_at "rd"
        refine spOver.go (by walk_at "fa") ⟨a0, a1⟩ ⟨b0, b1⟩ z (fun H' s' => ?_)
        walk_at "rd"
        walk_at "op2"
        rw [decide_eq_true (FM.over_mul hn a0 a1 b0 b1 z)]
        exact rest _ ⟨by walk_at "fa", by walk_at "bg"⟩
      · exact rest _ ⟨by walk_at "fa", by walk_at "bg"⟩
    rintro H9 ⟨fa9, hb9⟩
    obtain ⟨_, dxg, hp9⟩ := id fa9
    refine iteF ?_
    walk_at "rd"
    refine spPow.go (by walk_at "fa") ⟨a0, a1⟩ (by omega) (fun Ha sa => ?_)
    walk_at "rd"
    refine iteNS (FM.pow_size hn a0 a1) ?_
    walk_at "rd"
    have fa10 := fa9.same sa
    have hb10 := hb9.same sa
    refine U.i_cutH (fun x H' => (∃ m : Int, x = .int m ∧ 0 ≤ m ∧ m ≤ n) ∧ FA A H' p n ∧ Bag H' b) ?_ (fun rest => ?_)
    rotate_left
    · refine U.i_ifE ?_
      walk_at "rd"
      refine spPull.go hb10 (by omega) (by omega) (fun r Hb r0 r1 hbb btb => ?_)
      have fab := fa10.but btb hpb
      obtain ⟨_, dxh, hpB⟩ := id fab
      walk_at "rd"
      refine U.ited (fun z => ?_) (fun z => ?_)
      · walk_at "rd"
        refine ⟨p, n, rfl, fab, ?_⟩
        exact rest _ _ ⟨⟨n, rfl, by omega, Int.le_refl _⟩, fab, hbb⟩
      · exact U.i_c (rest _ _ ⟨⟨1, rfl, by omega, by omega⟩, fab, hbb⟩)
    rintro x Hc ⟨⟨m, rfl, hm0, hm⟩, fac, hbc⟩
    walk_at "rd"
    refine for_it walk_range (fun j σ H' => ∃ v9 v10, σ = [some (.ref a), some (.ref b), some (.int (0 + (i : Nat))), some (.int n), some (.ref p), some (.int xa), some (.int xb), some (.int xc), some (.int m), v9, v10, none] ∧ FA A H' p n ∧ Bag H' b) ⟨v9, v10, rfl, fac, hbc⟩ (fun _ _ _ _ _ => trivial) ?_ ?_
    rotate_left
    · rintro σ H3 ⟨v9, v10, rfl, fad, hbd⟩
      exact ⟨_, _, _, _, _, _, _, _, _, rfl, hbd⟩
    · rintro j x σ H1' H2' hj ⟨v9, v10, rfl, fad, hbd⟩ ⟨rfl, rfl⟩
      walk_at "rd"
      intro D hD
      refine lc_it (walk_range (n := n.toNat)) (fun t H' => Same H2' H' ∧ H' D = some (.lst (((List.range t).map fun (t : Nat) => FM.addF n (0 + (j : Nat)) t 1).map V.int))) ⟨same_new hD, upd_same⟩ (fun _ _ _ _ => trivial) ?_ ?_
      · rintro t x H3 H4 ht ⟨s3, o3⟩ ⟨rfl, rfl⟩
        walk_at "rd"
        refine ⟨rfl, ?_⟩
        obtain ⟨_, dxk, hp3⟩ := id (fad.same s3)
        have fa3 := fad.same s3
        walk_at "rd"
        refine spOp.go (by walk_at "fa") ⟨by omega, by omega⟩ ⟨by omega, by omega⟩ (fun H' s' => ?_)
        refine ⟨_, s' _ _ o3, small1000 (by rw [List.length_map, List.length_map, List.length_range]; omega), same_own (s3.trans s') hD, ?_⟩
        rw [List.range_succ, List.map_append, List.map_append, upd_same]
        simp only [List.map_cons, List.map_nil, Int.zero_add]
      rintro H3 ⟨s3, o3⟩
      have fa3 := fad.same s3
      have hb3 := hbd.same s3
      obtain ⟨_, dxk, hp3⟩ := id fa3
      walk_at "rd"
      refine U.i_sorted (SqL.of o3) ?_
      intro ns' q pm so hq
      generalize hg : upd H3 q _ = H4
      have s4 := same_of hg hq
      have o4 := at_of hg
      clear hg
      walk_at "rd"
      refine ⟨RgOk.of_le (by omega) (by omega) (by omega) (by omega), ?_⟩
      walk_at "lay"
      rename_i l5 hl5 H5 s5' o5
      rw [U.rgV0] at o5
      refine U.i_neInts (SqL.of (by walk_at "hp")) (SqL.of o5) ?_
      refine U.i_bl ?_
      refine iteNS (PySem.W.ksm_same (pm.trans (FM.rowA_perm hn (by omega) (by omega))) so (FM.rngL_sorted n)) ?_
      have fae : FA A H5 p n := by walk_at "fa"
      have hbe : Bag H5 b := by walk_at "bg"
      walk_at "rd"
      intro D hD
      refine lc_it (walk_range (n := n.toNat)) (fun t H' => Same H5 H' ∧ H' D = some (.lst (((List.range t).map fun (t : Nat) => FM.mulF n (0 + (j : Nat)) t).map V.int))) ⟨same_new hD, upd_same⟩ (fun _ _ _ _ => trivial) ?_ ?_
      · rintro t x H3 H4 ht ⟨s3, o3⟩ ⟨rfl, rfl⟩
        walk_at "rd"
        refine ⟨rfl, ?_⟩
        obtain ⟨_, dxk, hp3⟩ := id (fae.same s3)
        have fa3 := fae.same s3
        walk_at "rd"
        refine spOp.go (by walk_at "fa") ⟨by omega, by omega⟩ ⟨by omega, by omega⟩ (fun H' s' => ?_)
        refine ⟨_, s' _ _ o3, small1000 (by rw [List.length_map, List.length_map, List.length_range]; omega), same_own (s3.trans s') hD, ?_⟩
        rw [List.range_succ, List.map_append, List.map_append, upd_same]
        simp only [List.map_cons, List.map_nil, Int.zero_add]
      rintro H3 ⟨s3, o3⟩
      have fa3 := fae.same s3
      have hb3 := hbe.same s3
      obtain ⟨_, dxk, hp3⟩ := id fa3
      walk_at "rd"
      refine U.i_sorted (SqL.of o3) ?_
      intro ns' q pm so hq
      generalize hg : upd H3 q _ = H4
      have s4 := same_of hg hq
      have o4 := at_of hg
      clear hg
      walk_at "rd"
      have faz : FA A H4 p n := by walk_at "fa"
      have hbz : Bag H4 b := by walk_at "bg"
      refine U.i_pt ?_
      walk_at "rd"
      refine U.itedn (fun z => ?_) (fun z => ?_)
      · walk_at "rd"
        refine ⟨RgOk.of_le (by omega) (by omega) (by omega) (by omega), ?_⟩
        walk_at "lay"
        rename_i l6 hl6 H6 s6' o6
        rw [U.rgV0] at o6
        refine U.i_neInts (SqL.of (by walk_at "hp")) (SqL.of o6) ?_
        refine U.i_bl ?_
        refine iteNS (PySem.W.ksm_same (pm.trans (FM.rowM_perm hn (by omega) (by omega) z)) so (FM.rngL_sorted n)) ?_
        walk_at "rd"
        exact ⟨_, _, rfl, by walk_at "fa", by walk_at "bg"⟩
      · refine iteF ?_
        exact ⟨_, _, rfl, by walk_at "fa", by walk_at "bg"⟩

end
theorem mkT {P : Program} {w : World} {K : PySem.W.Frag} {h : Heap} {mg : Str → Option Value} (X : K.In h) (G : h.Ns mainGlobals mg)
    {f5 f8 f11 aBadSize aBadNumber aNoShare aSIZES aBASES ar4 ar8 ar9 ar16 aRULES f32 aField f43 t48 f49 f53 f57 f61 f65 f69 f73 f77 f81 f85 f89 f93 f97 : Addr}
    {oc7 dc7 pm7 cd7 ct7 kV7 oc10 dc10 pm10 cd10 ct10 kV10 oc13 dc13 pm13 cd13 ct13 kV13 oc34 dc34 pm34 cd34 ct34 kV34 oc48 dc48 pm48 cd48 ct48 kV48 oc52 dc52 pm52 cd52 ct52 kV52 oc56 dc56 pm56 cd56 ct56 kV56 oc60 dc60 pm60 cd60 ct60 kV60 oc64 dc64 pm64 cd64 ct64 kV64 oc68 dc68 pm68 cd68 ct68 kV68 oc72 dc72 pm72 cd72 ct72 kV72 oc76 dc76 pm76 cd76 ct76 kV76 oc80 dc80 pm80 cd80 ct80 kV80 oc84 dc84 pm84 cd84 ct84 kV84 oc88 dc88 pm88 cd88 ct88 kV88 oc92 dc92 pm92 cd92 ct92 kV92 oc96 dc96 pm96 cd96 ct96 kV96 oc100 dc100 pm100 cd100 ct100 kV100 : Value}
    {od7 an7 od10 an10 od13 an13 od34 an34 od48 an48 od52 an52 od56 an56 od60 an60 od64 an64 od68 an68 od72 an72 od76 an76 od80 an80 od84 an84 od88 an88 od92 an92 od96 an96 od100 an100 : Option Addr}
    {sl7 sl10 sl13 sl34 sl48 sl52 sl56 sl60 sl64 sl68 sl72 sl76 sl80 sl84 sl88 sl92 sl96 sl100 : Array (Option Value)}
    {olt23 olt25 olt27 olt28 olt29 olt30 olt31 o48 : Obj}
    (z1 : PySem.W.nsIn K mainGlobals "len" = some none)
    (z2 : PySem.W.nsIn K mainGlobals "abs" = some none)
    (z3 : PySem.W.nsIn K mainGlobals "list" = some none)
    (z4 : PySem.W.nsIn K mainGlobals "int" = some none)
    (a6 : PySem.W.nsIn K mainGlobals "_law_bag" = some (some (.ref f5)))
    (l7 : K.lookup f5 = some ⟨oc7, od7, .func (PySem.W.fnOf "_law_bag" "_law_bag" (defArgs (top 14)) (defBody (top 14)) (defScope (top 14)) .none kV7 dc7 pm7 an7 cd7 ct7), sl7⟩)
    (c7 : PySem.W.codeIn K cd7 "_law_bag" = true)
    (k7 : PySem.W.keepIn K (.ref f5) = true)
    (a9 : PySem.W.nsIn K mainGlobals "_law_pull" = some (some (.ref f8)))
    (l10 : K.lookup f8 = some ⟨oc10, od10, .func (PySem.W.fnOf "_law_pull" "_law_pull" (defArgs (top 15)) (defBody (top 15)) (defScope (top 15)) .none kV10 dc10 pm10 an10 cd10 ct10), sl10⟩)
    (c10 : PySem.W.codeIn K cd10 "_law_pull" = true)
    (k10 : PySem.W.keepIn K (.ref f8) = true)
    (a12 : PySem.W.nsIn K mainGlobals "_law_size" = some (some (.ref f11)))
    (l13 : K.lookup f11 = some ⟨oc13, od13, .func (PySem.W.fnOf "_law_size" "_law_size" (defArgs (top 16)) (defBody (top 16)) (defScope (top 16)) .none kV13 dc13 pm13 an13 cd13 ct13), sl13⟩)
    (c13 : PySem.W.codeIn K cd13 "_law_size" = true)
    (k13 : PySem.W.keepIn K (.ref f11) = true)
    (z14 : PySem.W.nsIn K mainGlobals "range" = some none)
    (z15 : PySem.W.nsIn K mainGlobals "sorted" = some none)
    (z16 : PySem.W.nsIn K mainGlobals "enumerate" = some none)
    (z17 : PySem.W.nsIn K mainGlobals "reversed" = some none)
    (z18 : PySem.W.nsIn K mainGlobals "divmod" = some none)
    (g19 : PySem.W.nsIn K mainGlobals "BadSize" = some (some (.ref aBadSize)))
    (k19 : PySem.W.keepIn K (.ref aBadSize) = true)
    (q19 : PySem.W.excIn K aBadSize [.type "ValueError", .type "Exception", .type "BaseException", .type "object"] "ValueError.__new__" = true)
    (b19 : PySem.W.subIn K (.ref aBadSize) (.type "BaseException") = some true)
    (t19 : PySem.W.typeIn K (.ref aBadSize) = some (.type "type"))
    (g20 : PySem.W.nsIn K mainGlobals "BadNumber" = some (some (.ref aBadNumber)))
    (k20 : PySem.W.keepIn K (.ref aBadNumber) = true)
    (q20 : PySem.W.excIn K aBadNumber [.type "ValueError", .type "Exception", .type "BaseException", .type "object"] "ValueError.__new__" = true)
    (b20 : PySem.W.subIn K (.ref aBadNumber) (.type "BaseException") = some true)
    (t20 : PySem.W.typeIn K (.ref aBadNumber) = some (.type "type"))
    (g21 : PySem.W.nsIn K mainGlobals "NoShare" = some (some (.ref aNoShare)))
    (k21 : PySem.W.keepIn K (.ref aNoShare) = true)
    (q21 : PySem.W.excIn K aNoShare [.type "ZeroDivisionError", .type "ArithmeticError", .type "Exception", .type "BaseException", .type "object"] "ZeroDivisionError.__new__" = true)
    (b21 : PySem.W.subIn K (.ref aNoShare) (.type "BaseException") = some true)
    (t21 : PySem.W.typeIn K (.ref aNoShare) = some (.type "type"))
    (g22 : PySem.W.nsIn K mainGlobals "SIZES" = some (some (.ref aSIZES)))
    (lt23 : K.lookup aSIZES = some olt23)
    (dlt23 : U.TupO olt23 [V.int 2, V.int 3, V.int 4, V.int 5, V.int 7, V.int 8, V.int 9, V.int 11, V.int 13, V.int 16])
    (g24 : PySem.W.nsIn K mainGlobals "BASES" = some (some (.ref aBASES)))
    (lt25 : K.lookup aBASES = some olt25)
    (dlt25 : U.TupO olt25 [V.int 2, V.int 3, V.int 5, V.int 7, V.int 11, V.int 13])
    (g26 : PySem.W.nsIn K mainGlobals "RULES" = some (some (.ref aRULES)))
    (lt27 : K.lookup aRULES = some olt27)
    (dlt27 : U.WDO olt27 [((Sum.inl 4 : Key), V.ref ar4), ((Sum.inl 8 : Key), V.ref ar8), ((Sum.inl 9 : Key), V.ref ar9), ((Sum.inl 16 : Key), V.ref ar16)])
    (lt28 : K.lookup ar4 = some olt28)
    (dlt28 : U.TupO olt28 [V.int 1, V.int 1])
    (lt29 : K.lookup ar8 = some olt29)
    (dlt29 : U.TupO olt29 [V.int 1, V.int 1, V.int 0])
    (lt30 : K.lookup ar9 = some olt30)
    (dlt30 : U.TupO olt30 [V.int 2, V.int 0])
    (lt31 : K.lookup ar16 = some olt31)
    (dlt31 : U.TupO olt31 [V.int 1, V.int 1, V.int 0, V.int 0])
    (a33 : PySem.W.nsIn K mainGlobals "grown" = some (some (.ref f32)))
    (l34 : K.lookup f32 = some ⟨oc34, od34, .func (PySem.W.fnOf "grown" "grown" (defArgs (top 11)) (defBody (top 11)) (defScope (top 11)) .none kV34 dc34 pm34 an34 cd34 ct34), sl34⟩)
    (c34 : PySem.W.codeIn K cd34 "grown" = true)
    (k34 : PySem.W.keepIn K (.ref f32) = true)
    (g35 : PySem.W.nsIn K mainGlobals "Field" = some (some (.ref aField)))
    (pg36 : PySem.W.plainGet K aField Str.empty = true)
    (hd37 : PySem.W.hasDictIn K aField = true)
    (po38 : PySem.W.plainOver K aField = true)
    (sa39 : PySem.W.findIn K (.ref aField) "__setattr__" = some (some (.builtin "object.__setattr__")))
    (na40 : PySem.W.findIn K (.ref aField) "many" = some none)
    (na41 : PySem.W.findIn K (.ref aField) "prime" = some none)
    (na42 : PySem.W.findIn K (.ref aField) "places" = some none)
    (a44 : PySem.W.findIn K (.ref aField) "__init__" = some (some (.ref f43)))
    (i45 : PySem.W.isFn K (.ref f43) = true)
    (mk46 : PySem.W.makesIn K aField = true)
    (kc47 : PySem.W.keepIn K (.ref aField) = true)
    (l48 : K.lookup f43 = some ⟨oc48, od48, .func (PySem.W.fnOf "__init__" "Field.__init__" (defArgs (inClass (top 12) 0)) (defBody (inClass (top 12) 0)) (defScope (inClass (top 12) 0)) (.ref t48) kV48 dc48 pm48 an48 cd48 ct48), sl48⟩)
    (c48 : PySem.W.codeIn K cd48 "Field.__init__" = true)
    (k48 : PySem.W.keepIn K (.ref f43) = true)
    (lt48 : K.lookup t48 = some o48)
    (dt48 : U.DfT o48 [V.int 16])
    (a50 : PySem.W.findIn K (.ref aField) "size" = some (some (.ref f49)))
    (i51 : PySem.W.isFn K (.ref f49) = true)
    (l52 : K.lookup f49 = some ⟨oc52, od52, .func (PySem.W.fnOf "size" "Field.size" (defArgs (inClass (top 12) 5)) (defBody (inClass (top 12) 5)) (defScope (inClass (top 12) 5)) .none kV52 dc52 pm52 an52 cd52 ct52), sl52⟩)
    (c52 : PySem.W.codeIn K cd52 "Field.size" = true)
    (k52 : PySem.W.keepIn K (.ref f49) = true)
    (a54 : PySem.W.findIn K (.ref aField) "has" = some (some (.ref f53)))
    (i55 : PySem.W.isFn K (.ref f53) = true)
    (l56 : K.lookup f53 = some ⟨oc56, od56, .func (PySem.W.fnOf "has" "Field.has" (defArgs (inClass (top 12) 7)) (defBody (inClass (top 12) 7)) (defScope (inClass (top 12) 7)) .none kV56 dc56 pm56 an56 cd56 ct56), sl56⟩)
    (c56 : PySem.W.codeIn K cd56 "Field.has" = true)
    (k56 : PySem.W.keepIn K (.ref f53) = true)
    (a58 : PySem.W.findIn K (.ref aField) "need" = some (some (.ref f57)))
    (i59 : PySem.W.isFn K (.ref f57) = true)
    (l60 : K.lookup f57 = some ⟨oc60, od60, .func (PySem.W.fnOf "need" "Field.need" (defArgs (inClass (top 12) 8)) (defBody (inClass (top 12) 8)) (defScope (inClass (top 12) 8)) .none kV60 dc60 pm60 an60 cd60 ct60), sl60⟩)
    (c60 : PySem.W.codeIn K cd60 "Field.need" = true)
    (k60 : PySem.W.keepIn K (.ref f57) = true)
    (a62 : PySem.W.findIn K (.ref aField) "figures" = some (some (.ref f61)))
    (i63 : PySem.W.isFn K (.ref f61) = true)
    (l64 : K.lookup f61 = some ⟨oc64, od64, .func (PySem.W.fnOf "figures" "Field.figures" (defArgs (inClass (top 12) 9)) (defBody (inClass (top 12) 9)) (defScope (inClass (top 12) 9)) .none kV64 dc64 pm64 an64 cd64 ct64), sl64⟩)
    (c64 : PySem.W.codeIn K cd64 "Field.figures" = true)
    (k64 : PySem.W.keepIn K (.ref f61) = true)
    (a66 : PySem.W.findIn K (.ref aField) "composed" = some (some (.ref f65)))
    (i67 : PySem.W.isFn K (.ref f65) = true)
    (l68 : K.lookup f65 = some ⟨oc68, od68, .func (PySem.W.fnOf "composed" "Field.composed" (defArgs (inClass (top 12) 10)) (defBody (inClass (top 12) 10)) (defScope (inClass (top 12) 10)) .none kV68 dc68 pm68 an68 cd68 ct68), sl68⟩)
    (c68 : PySem.W.codeIn K cd68 "Field.composed" = true)
    (k68 : PySem.W.keepIn K (.ref f65) = true)
    (a70 : PySem.W.findIn K (.ref aField) "added" = some (some (.ref f69)))
    (i71 : PySem.W.isFn K (.ref f69) = true)
    (l72 : K.lookup f69 = some ⟨oc72, od72, .func (PySem.W.fnOf "added" "Field.added" (defArgs (inClass (top 12) 11)) (defBody (inClass (top 12) 11)) (defScope (inClass (top 12) 11)) .none kV72 dc72 pm72 an72 cd72 ct72), sl72⟩)
    (c72 : PySem.W.codeIn K cd72 "Field.added" = true)
    (k72 : PySem.W.keepIn K (.ref f69) = true)
    (a74 : PySem.W.findIn K (.ref aField) "plus" = some (some (.ref f73)))
    (i75 : PySem.W.isFn K (.ref f73) = true)
    (l76 : K.lookup f73 = some ⟨oc76, od76, .func (PySem.W.fnOf "plus" "Field.plus" (defArgs (inClass (top 12) 12)) (defBody (inClass (top 12) 12)) (defScope (inClass (top 12) 12)) .none kV76 dc76 pm76 an76 cd76 ct76), sl76⟩)
    (c76 : PySem.W.codeIn K cd76 "Field.plus" = true)
    (k76 : PySem.W.keepIn K (.ref f73) = true)
    (a78 : PySem.W.findIn K (.ref aField) "less" = some (some (.ref f77)))
    (i79 : PySem.W.isFn K (.ref f77) = true)
    (l80 : K.lookup f77 = some ⟨oc80, od80, .func (PySem.W.fnOf "less" "Field.less" (defArgs (inClass (top 12) 13)) (defBody (inClass (top 12) 13)) (defScope (inClass (top 12) 13)) .none kV80 dc80 pm80 an80 cd80 ct80), sl80⟩)
    (c80 : PySem.W.codeIn K cd80 "Field.less" = true)
    (k80 : PySem.W.keepIn K (.ref f77) = true)
    (a82 : PySem.W.findIn K (.ref aField) "product" = some (some (.ref f81)))
    (i83 : PySem.W.isFn K (.ref f81) = true)
    (l84 : K.lookup f81 = some ⟨oc84, od84, .func (PySem.W.fnOf "product" "Field.product" (defArgs (inClass (top 12) 14)) (defBody (inClass (top 12) 14)) (defScope (inClass (top 12) 14)) .none kV84 dc84 pm84 an84 cd84 ct84), sl84⟩)
    (c84 : PySem.W.codeIn K cd84 "Field.product" = true)
    (k84 : PySem.W.keepIn K (.ref f81) = true)
    (a86 : PySem.W.findIn K (.ref aField) "times" = some (some (.ref f85)))
    (i87 : PySem.W.isFn K (.ref f85) = true)
    (l88 : K.lookup f85 = some ⟨oc88, od88, .func (PySem.W.fnOf "times" "Field.times" (defArgs (inClass (top 12) 15)) (defBody (inClass (top 12) 15)) (defScope (inClass (top 12) 15)) .none kV88 dc88 pm88 an88 cd88 ct88), sl88⟩)
    (c88 : PySem.W.codeIn K cd88 "Field.times" = true)
    (k88 : PySem.W.keepIn K (.ref f85) = true)
    (a90 : PySem.W.findIn K (.ref aField) "inverse" = some (some (.ref f89)))
    (i91 : PySem.W.isFn K (.ref f89) = true)
    (l92 : K.lookup f89 = some ⟨oc92, od92, .func (PySem.W.fnOf "inverse" "Field.inverse" (defArgs (inClass (top 12) 16)) (defBody (inClass (top 12) 16)) (defScope (inClass (top 12) 16)) .none kV92 dc92 pm92 an92 cd92 ct92), sl92⟩)
    (c92 : PySem.W.codeIn K cd92 "Field.inverse" = true)
    (k92 : PySem.W.keepIn K (.ref f89) = true)
    (a94 : PySem.W.findIn K (.ref aField) "over" = some (some (.ref f93)))
    (i95 : PySem.W.isFn K (.ref f93) = true)
    (l96 : K.lookup f93 = some ⟨oc96, od96, .func (PySem.W.fnOf "over" "Field.over" (defArgs (inClass (top 12) 17)) (defBody (inClass (top 12) 17)) (defScope (inClass (top 12) 17)) .none kV96 dc96 pm96 an96 cd96 ct96), sl96⟩)
    (c96 : PySem.W.codeIn K cd96 "Field.over" = true)
    (k96 : PySem.W.keepIn K (.ref f93) = true)
    (a98 : PySem.W.findIn K (.ref aField) "power" = some (some (.ref f97)))
    (i99 : PySem.W.isFn K (.ref f97) = true)
    (l100 : K.lookup f97 = some ⟨oc100, od100, .func (PySem.W.fnOf "power" "Field.power" (defArgs (inClass (top 12) 18)) (defBody (inClass (top 12) 18)) (defScope (inClass (top 12) 18)) .none kV100 dc100 pm100 an100 cd100 ct100), sl100⟩)
    (c100 : PySem.W.codeIn K cd100 "Field.power" = true)
    (k100 : PySem.W.keepIn K (.ref f97) = true)
    : Txt P w K mg ⟨aBadSize, aBadNumber, aNoShare, aSIZES, aBASES, ar4, ar8, ar9, ar16, aRULES, aField⟩ where
  len := PySem.W.mg_none_of X G z1
  abs := PySem.W.mg_none_of X G z2
  list := PySem.W.mg_none_of X G z3
  int := PySem.W.mg_none_of X G z4
  d_law_bag := (by have F : U.FunA K "_law_bag" "_law_bag" (top 14) [] [] f5 _ := ⟨⟨_, _, _, _, _, _, _, _, _, _, rfl, l7, c7, .inl ⟨rfl, rfl⟩, .inl rfl⟩, k7⟩; exact ⟨f5, _, F, PySem.W.mg_of X G a6, (U.bd0 F fun _ _ _ _ _ _ us hl => match us, hl with | [_], _ => rfl)⟩)
  d_law_pull := (by have F : U.FunA K "_law_pull" "_law_pull" (top 15) [] [] f8 _ := ⟨⟨_, _, _, _, _, _, _, _, _, _, rfl, l10, c10, .inl ⟨rfl, rfl⟩, .inl rfl⟩, k10⟩; exact ⟨f8, _, F, PySem.W.mg_of X G a9, (U.bd0 F fun _ _ _ _ _ _ us hl => match us, hl with | [_, _], _ => rfl)⟩)
  d_law_size := (by have F : U.FunA K "_law_size" "_law_size" (top 16) [] [] f11 _ := ⟨⟨_, _, _, _, _, _, _, _, _, _, rfl, l13, c13, .inl ⟨rfl, rfl⟩, .inl rfl⟩, k13⟩; exact ⟨f11, _, F, PySem.W.mg_of X G a12, (U.bd0 F fun _ _ _ _ _ _ us hl => match us, hl with | [_], _ => rfl)⟩)
  range := PySem.W.mg_none_of X G z14
  sorted := PySem.W.mg_none_of X G z15
  enumerate := PySem.W.mg_none_of X G z16
  reversed := PySem.W.mg_none_of X G z17
  divmod := PySem.W.mg_none_of X G z18
  e_BadSize := ⟨PySem.W.mg_of X G g19, k19, ⟨_, _, _, _, PySem.F.excBase_ValueError, q19⟩, b19, t19⟩
  e_BadNumber := ⟨PySem.W.mg_of X G g20, k20, ⟨_, _, _, _, PySem.F.excBase_ValueError, q20⟩, b20, t20⟩
  e_NoShare := ⟨PySem.W.mg_of X G g21, k21, ⟨_, _, _, _, PySem.F.excBase_ZeroDivisionError, q21⟩, b21, t21⟩
  g_SIZES := PySem.W.mg_of X G g22
  s_SIZES := fun H => U.sqT_of lt23 dlt23
  g_BASES := PySem.W.mg_of X G g24
  s_BASES := fun H => U.sqT_of lt25 dlt25
  g_RULES := PySem.W.mg_of X G g26
  w_RULES := U.wd_of lt27 dlt27
  s_r4 := fun H => U.sqT_of lt28 dlt28
  s_r8 := fun H => U.sqT_of lt29 dlt29
  s_r9 := fun H => U.sqT_of lt30 dlt30
  s_r16 := fun H => U.sqT_of lt31 dlt31
  d_grown := (by have F : U.FunA K "grown" "grown" (top 11) [] [] f32 _ := ⟨⟨_, _, _, _, _, _, _, _, _, _, rfl, l34, c34, .inl ⟨rfl, rfl⟩, .inl rfl⟩, k34⟩; exact ⟨f32, _, F, PySem.W.mg_of X G a33, (U.bd0 F fun _ _ _ _ _ _ us hl => match us, hl with | [_, _], _ => rfl)⟩)
  c_Field := ⟨pg36, hd37, po38, sa39⟩
  na_Field_many := na40
  na_Field_prime := na41
  na_Field_places := na42
  n_Field := (by have F : U.FunA K "__init__" "Field.__init__" (inClass (top 12) 0) [V.int 16] [] f43 _ := ⟨⟨_, _, _, _, _, _, _, _, _, _, rfl, l48, c48, U.dfl_of lt48 dt48, .inl rfl⟩, k48⟩; exact ⟨f43, _, F, ⟨mk46, a44, i45, kc47⟩, PySem.W.mg_of X G g35, (U.bd1 F (by decide) (fun _ _ _ _ _ _ _ us its hl hm => match us, its, hl, hm with | [_], [_], _, _ => ⟨_, rfl, rfl⟩) (fun _ _ _ _ _ _ _ us its hl hm => match us, its, hl, hm with | [_, _], [_], _, _ => ⟨_, rfl, rfl⟩))⟩)
  m_Field_size := (by have F : U.FunA K "size" "Field.size" (inClass (top 12) 5) [] [] f49 _ := ⟨⟨_, _, _, _, _, _, _, _, _, _, rfl, l52, c52, .inl ⟨rfl, rfl⟩, .inl rfl⟩, k52⟩; exact ⟨f49, _, F, ⟨pg36, hd37, po38, sa39⟩, ⟨a50, i51, k52⟩, (U.bd0 F fun _ _ _ _ _ _ us hl => match us, hl with | [_], _ => rfl)⟩)
  m_Field_has := (by have F : U.FunA K "has" "Field.has" (inClass (top 12) 7) [] [] f53 _ := ⟨⟨_, _, _, _, _, _, _, _, _, _, rfl, l56, c56, .inl ⟨rfl, rfl⟩, .inl rfl⟩, k56⟩; exact ⟨f53, _, F, ⟨pg36, hd37, po38, sa39⟩, ⟨a54, i55, k56⟩, (U.bd0 F fun _ _ _ _ _ _ us hl => match us, hl with | [_, _], _ => rfl)⟩)
  m_Field_need := (by have F : U.FunA K "need" "Field.need" (inClass (top 12) 8) [] [] f57 _ := ⟨⟨_, _, _, _, _, _, _, _, _, _, rfl, l60, c60, .inl ⟨rfl, rfl⟩, .inl rfl⟩, k60⟩; exact ⟨f57, _, F, ⟨pg36, hd37, po38, sa39⟩, ⟨a58, i59, k60⟩, (U.bd0 F fun _ _ _ _ _ _ us hl => match us, hl with | [_, _], _ => rfl)⟩)
  m_Field_figures := (by have F : U.FunA K "figures" "Field.figures" (inClass (top 12) 9) [] [] f61 _ := ⟨⟨_, _, _, _, _, _, _, _, _, _, rfl, l64, c64, .inl ⟨rfl, rfl⟩, .inl rfl⟩, k64⟩; exact ⟨f61, _, F, ⟨pg36, hd37, po38, sa39⟩, ⟨a62, i63, k64⟩, (U.bd0 F fun _ _ _ _ _ _ us hl => match us, hl with | [_, _], _ => rfl)⟩)
  m_Field_composed := (by have F : U.FunA K "composed" "Field.composed" (inClass (top 12) 10) [] [] f65 _ := ⟨⟨_, _, _, _, _, _, _, _, _, _, rfl, l68, c68, .inl ⟨rfl, rfl⟩, .inl rfl⟩, k68⟩; exact ⟨f65, _, F, ⟨pg36, hd37, po38, sa39⟩, ⟨a66, i67, k68⟩, (U.bd0 F fun _ _ _ _ _ _ us hl => match us, hl with | [_, _], _ => rfl)⟩)
  m_Field_added := (by have F : U.FunA K "added" "Field.added" (inClass (top 12) 11) [] [] f69 _ := ⟨⟨_, _, _, _, _, _, _, _, _, _, rfl, l72, c72, .inl ⟨rfl, rfl⟩, .inl rfl⟩, k72⟩; exact ⟨f69, _, F, ⟨pg36, hd37, po38, sa39⟩, ⟨a70, i71, k72⟩, (U.bd0 F fun _ _ _ _ _ _ us hl => match us, hl with | [_, _, _, _], _ => rfl)⟩)
  m_Field_plus := (by have F : U.FunA K "plus" "Field.plus" (inClass (top 12) 12) [] [] f73 _ := ⟨⟨_, _, _, _, _, _, _, _, _, _, rfl, l76, c76, .inl ⟨rfl, rfl⟩, .inl rfl⟩, k76⟩; exact ⟨f73, _, F, ⟨pg36, hd37, po38, sa39⟩, ⟨a74, i75, k76⟩, (U.bd0 F fun _ _ _ _ _ _ us hl => match us, hl with | [_, _, _], _ => rfl)⟩)
  m_Field_less := (by have F : U.FunA K "less" "Field.less" (inClass (top 12) 13) [] [] f77 _ := ⟨⟨_, _, _, _, _, _, _, _, _, _, rfl, l80, c80, .inl ⟨rfl, rfl⟩, .inl rfl⟩, k80⟩; exact ⟨f77, _, F, ⟨pg36, hd37, po38, sa39⟩, ⟨a78, i79, k80⟩, (U.bd0 F fun _ _ _ _ _ _ us hl => match us, hl with | [_, _, _], _ => rfl)⟩)
  m_Field_product := (by have F : U.FunA K "product" "Field.product" (inClass (top 12) 14) [] [] f81 _ := ⟨⟨_, _, _, _, _, _, _, _, _, _, rfl, l84, c84, .inl ⟨rfl, rfl⟩, .inl rfl⟩, k84⟩; exact ⟨f81, _, F, ⟨pg36, hd37, po38, sa39⟩, ⟨a82, i83, k84⟩, (U.bd0 F fun _ _ _ _ _ _ us hl => match us, hl with | [_, _, _], _ => rfl)⟩)
  m_Field_times := (by have F : U.FunA K "times" "Field.times" (inClass (top 12) 15) [] [] f85 _ := ⟨⟨_, _, _, _, _, _, _, _, _, _, rfl, l88, c88, .inl ⟨rfl, rfl⟩, .inl rfl⟩, k88⟩; exact ⟨f85, _, F, ⟨pg36, hd37, po38, sa39⟩, ⟨a86, i87, k88⟩, (U.bd0 F fun _ _ _ _ _ _ us hl => match us, hl with | [_, _, _], _ => rfl)⟩)
  m_Field_inverse := (by have F : U.FunA K "inverse" "Field.inverse" (inClass (top 12) 16) [] [] f89 _ := ⟨⟨_, _, _, _, _, _, _, _, _, _, rfl, l92, c92, .inl ⟨rfl, rfl⟩, .inl rfl⟩, k92⟩; exact ⟨f89, _, F, ⟨pg36, hd37, po38, sa39⟩, ⟨a90, i91, k92⟩, (U.bd0 F fun _ _ _ _ _ _ us hl => match us, hl with | [_, _], _ => rfl)⟩)
  m_Field_over := (by have F : U.FunA K "over" "Field.over" (inClass (top 12) 17) [] [] f93 _ := ⟨⟨_, _, _, _, _, _, _, _, _, _, rfl, l96, c96, .inl ⟨rfl, rfl⟩, .inl rfl⟩, k96⟩; exact ⟨f93, _, F, ⟨pg36, hd37, po38, sa39⟩, ⟨a94, i95, k96⟩, (U.bd0 F fun _ _ _ _ _ _ us hl => match us, hl with | [_, _, _], _ => rfl)⟩)
  m_Field_power := (by have F : U.FunA K "power" "Field.power" (inClass (top 12) 18) [] [] f97 _ := ⟨⟨_, _, _, _, _, _, _, _, _, _, rfl, l100, c100, .inl ⟨rfl, rfl⟩, .inl rfl⟩, k100⟩; exact ⟨f97, _, F, ⟨pg36, hd37, po38, sa39⟩, ⟨a98, i99, k100⟩, (U.bd0 F fun _ _ _ _ _ _ us hl => match us, hl with | [_, _, _], _ => rfl)⟩)

theorem fin {P : Program} {w : World} {K : PySem.W.Frag} {h : Heap} {mg : Str → Option Value} (X : K.In h) (G : h.Ns mainGlobals mg) {fa f : Addr} (hfa : mg "law" = some (.ref fa)) {A : Ad} (T : Txt P w K mg A)
    {oc kV dc pm cd ct : Value} {od an : Option Addr} {sl : Array (Option Value)} (a : PySem.W.nsIn K mainGlobals "law" = some (some (.ref f)))
    (l : K.lookup f = some ⟨oc, od, .func (PySem.W.fnOf "law" "law" (defArgs (top 17)) (defBody (top 17)) (defScope (top 17)) .none kV dc pm an cd ct), sl⟩) (cc : PySem.W.codeIn K cd "law" = true) (k : PySem.W.keepIn K (.ref f) = true) :
    ∃ fd : FuncData, (∀ (s : Shared) (v : Value), BindsTo s fd ⟨[v], []⟩ [("_law_script", v)]) ∧ ∀ base : Heap, K.In base → base.Ns mainGlobals mg → FnOk P w K mg base (L2.CX P w) 5 fa fd ["_law_script"] (spLaw K) := by
  have e := hfa.symm.trans (PySem.W.mg_of X G a)
  cases e
  exact ⟨PySem.W.fnOf "law" "law" (defArgs (top 17)) (defBody (top 17)) (defScope (top 17)) .none kV dc pm an cd ct, fun s v => .of_eq rfl, fun base _ _ => ok_law T ⟨⟨_, _, _, _, _, _, _, _, _, _, rfl, l, cc, .inl ⟨rfl, rfl⟩, .inl rfl⟩, k⟩⟩
theorem walk {l : PySem.W.OpenLaw} {q : Program} {loose : List Str} {XP : (Str → Option Value) → Heap → Prop} {YP : World → Heap → Prop} {d : DefRec} {K : Params → PySem.W.Frag} (hn : l.most = some 63) (hdf : d.params.defaults = [])
    (hY : ∀ (w : World) (h : Heap), YP w h → (K w.params).In h)
    (F : ∀ (w : World) (mg : Str → Option Value) (fa : Addr) (h : Heap), (K w.params).In h → h.Ns mainGlobals mg → mg d.name = some (.ref fa) →
      ∃ fd : FuncData, (∀ (s : Shared) (u : Value), BindsTo s fd ⟨[u], []⟩ [("_law_script", u)]) ∧ ∀ base : Heap, (K w.params).In base → base.Ns mainGlobals mg → FnOk l.prog w (K w.params) mg base (L2.CX l.prog w) 5 fa fd ["_law_script"] (spLaw (K w.params))) :
    PySem.W.WalkO q loose XP YP l.row.toRowW d [] (fun f vs => PySem.call f vs) :=
  L2.walk_of (n := 63) (k := 5) (x := "_law_script") (CX := fun w => L2.CX l.prog w) (sp := fun w => spLaw (K w.params)) hn (by decide) hdf ⟨rfl, by decide, by decide⟩ hY F (fun _ _ a ns hl _ hS => ⟨a, ns, rfl, hS, hl, fun _ => rfl⟩) fun _ _ _ _ _ z => by
    obtain ⟨_, _, _, _, _, _, _, _, _, _, _, _, z⟩ := z
    exact z
end Lw
open PySem PySem.W PyProof.Rows
set_option maxRecDepth 100000 in
set_option maxHeartbeats 0 in
theorem PySem.Challenge.cw_mingleway_k04_whole_fields_are_fields_holds : PySem.Challenge.rw_mingleway_k04_whole_fields_are_fields.Holds := by
  w_on; o_law; k_head; (case hw => w_witness2)
  k_fill
  refine Lw.walk (l := PySem.Challenge.rw_mingleway_k04_whole_fields_are_fields) rfl rfl (fun w h Y => PySem.W.kIn_of Y) ?F
  case F =>
    intro w mg fa h KX G hmg
    refine' Lw.fin KX G hmg (Lw.mkT KX G ?z1 ?z2 ?z3 ?z4 ?a6 ?l7 ?c7 ?k7 ?a9 ?l10 ?c10 ?k10 ?a12 ?l13 ?c13 ?k13 ?z14 ?z15 ?z16 ?z17 ?z18 ?g19 ?k19 ?q19 ?b19 ?t19 ?g20 ?k20 ?q20 ?b20 ?t20 ?g21 ?k21 ?q21 ?b21 ?t21 ?g22 ?lt23 ?dlt23 ?g24 ?lt25 ?dlt25 ?g26 ?lt27 ?dlt27 ?lt28 ?dlt28 ?lt29 ?dlt29 ?lt30 ?dlt30 ?lt31 ?dlt31 ?a33 ?l34 ?c34 ?k34 ?g35 ?pg36 ?hd37 ?po38 ?sa39 ?na40 ?na41 ?na42 ?a44 ?i45 ?mk46 ?kc47 ?l48 ?c48 ?k48 ?lt48 ?dt48 ?a50 ?i51 ?l52 ?c52 ?k52 ?a54 ?i55 ?l56 ?c56 ?k56 ?a58 ?i59 ?l60 ?c60 ?k60 ?a62 ?i63 ?l64 ?c64 ?k64 ?a66 ?i67 ?l68 ?c68 ?k68 ?a70 ?i71 ?l72 ?c72 ?k72 ?a74 ?i75 ?l76 ?c76 ?k76 ?a78 ?i79 ?l80 ?c80 ?k80 ?a82 ?i83 ?l84 ?c84 ?k84 ?a86 ?i87 ?l88 ?c88 ?k88 ?a90 ?i91 ?l92 ?c92 ?k92 ?a94 ?i95 ?l96 ?c96 ?k96 ?a98 ?i99 ?l100 ?c100 ?k100) ?lawa ?lawl ?lawc ?lawk
    (case z1 => k_is)
    (case z2 => k_is)
    (case z3 => k_is)
    (case z4 => k_is)
    (case a6 => k_is)
    (case l7 => k_is)
    (case c7 => k_is)
    (case k7 => k_is)
    (case a9 => k_is)
    (case l10 => k_is)
    (case c10 => k_is)
    (case k10 => k_is)
    (case a12 => k_is)
    (case l13 => k_is)
    (case c13 => k_is)
    (case k13 => k_is)
    (case z14 => k_is)
    (case z15 => k_is)
    (case z16 => k_is)
    (case z17 => k_is)
    (case z18 => k_is)
    (case g19 => k_is)
    (case k19 => k_is)
    (case q19 => k_exc)
    (case b19 => k_is)
    (case t19 => k_is)
    (case g20 => k_is)
    (case k20 => k_is)
    (case q20 => k_exc)
    (case b20 => k_is)
    (case t20 => k_is)
    (case g21 => k_is)
    (case k21 => k_is)
    (case q21 => k_exc)
    (case b21 => k_is)
    (case t21 => k_is)
    (case g22 => k_is)
    (case lt23 => k_is)
    (case dlt23 => exact U.tupO rfl rfl (by decide) (.cons ⟨_, rfl⟩ (.cons ⟨_, rfl⟩ (.cons ⟨_, rfl⟩ (.cons ⟨_, rfl⟩ (.cons ⟨_, rfl⟩ (.cons ⟨_, rfl⟩ (.cons ⟨_, rfl⟩ (.cons ⟨_, rfl⟩ (.cons ⟨_, rfl⟩ (.cons ⟨_, rfl⟩ .nil)))))))))))
    (case g24 => k_is)
    (case lt25 => k_is)
    (case dlt25 => exact U.tupO rfl rfl (by decide) (.cons ⟨_, rfl⟩ (.cons ⟨_, rfl⟩ (.cons ⟨_, rfl⟩ (.cons ⟨_, rfl⟩ (.cons ⟨_, rfl⟩ (.cons ⟨_, rfl⟩ .nil)))))))
    (case g26 => k_is)
    (case lt27 => k_is)
    (case dlt27 => exact ⟨[(4, _, _), (8, _, _), (9, _, _), (16, _, _)], _, ⟨rfl, rfl, rfl⟩, rfl, by decide, (.cons ⟨rfl, rfl⟩ (.cons ⟨rfl, rfl⟩ (.cons ⟨rfl, rfl⟩ (.cons ⟨rfl, rfl⟩ .nil))))⟩)
    (case lt28 => k_is)
    (case dlt28 => exact U.tupO rfl rfl (by decide) (.cons ⟨_, rfl⟩ (.cons ⟨_, rfl⟩ .nil)))
    (case lt29 => k_is)
    (case dlt29 => exact U.tupO rfl rfl (by decide) (.cons ⟨_, rfl⟩ (.cons ⟨_, rfl⟩ (.cons ⟨_, rfl⟩ .nil))))
    (case lt30 => k_is)
    (case dlt30 => exact U.tupO rfl rfl (by decide) (.cons ⟨_, rfl⟩ (.cons ⟨_, rfl⟩ .nil)))
    (case lt31 => k_is)
    (case dlt31 => exact U.tupO rfl rfl (by decide) (.cons ⟨_, rfl⟩ (.cons ⟨_, rfl⟩ (.cons ⟨_, rfl⟩ (.cons ⟨_, rfl⟩ .nil)))))
    (case a33 => k_is)
    (case l34 => k_is)
    (case c34 => k_is)
    (case k34 => k_is)
    (case g35 => k_is)
    (case pg36 => k_is)
    (case hd37 => k_is)
    (case po38 => k_is)
    (case sa39 => k_is)
    (case na40 => k_is)
    (case na41 => k_is)
    (case na42 => k_is)
    (case a44 => k_is)
    (case i45 => k_is)
    (case mk46 => k_is)
    (case kc47 => k_is)
    (case l48 => k_is)
    (case c48 => k_is)
    (case k48 => k_is)
    (case lt48 => k_is)
    (case dt48 => exact U.dfT rfl (.cons ⟨_, rfl⟩ .nil) (by simp))
    (case a50 => k_is)
    (case i51 => k_is)
    (case l52 => k_is)
    (case c52 => k_is)
    (case k52 => k_is)
    (case a54 => k_is)
    (case i55 => k_is)
    (case l56 => k_is)
    (case c56 => k_is)
    (case k56 => k_is)
    (case a58 => k_is)
    (case i59 => k_is)
    (case l60 => k_is)
    (case c60 => k_is)
    (case k60 => k_is)
    (case a62 => k_is)
    (case i63 => k_is)
    (case l64 => k_is)
    (case c64 => k_is)
    (case k64 => k_is)
    (case a66 => k_is)
    (case i67 => k_is)
    (case l68 => k_is)
    (case c68 => k_is)
    (case k68 => k_is)
    (case a70 => k_is)
    (case i71 => k_is)
    (case l72 => k_is)
    (case c72 => k_is)
    (case k72 => k_is)
    (case a74 => k_is)
    (case i75 => k_is)
    (case l76 => k_is)
    (case c76 => k_is)
    (case k76 => k_is)
    (case a78 => k_is)
    (case i79 => k_is)
    (case l80 => k_is)
    (case c80 => k_is)
    (case k80 => k_is)
    (case a82 => k_is)
    (case i83 => k_is)
    (case l84 => k_is)
    (case c84 => k_is)
    (case k84 => k_is)
    (case a86 => k_is)
    (case i87 => k_is)
    (case l88 => k_is)
    (case c88 => k_is)
    (case k88 => k_is)
    (case a90 => k_is)
    (case i91 => k_is)
    (case l92 => k_is)
    (case c92 => k_is)
    (case k92 => k_is)
    (case a94 => k_is)
    (case i95 => k_is)
    (case l96 => k_is)
    (case c96 => k_is)
    (case k96 => k_is)
    (case a98 => k_is)
    (case i99 => k_is)
    (case l100 => k_is)
    (case c100 => k_is)
    (case k100 => k_is)
    (case lawa => k_is)
    (case lawl => k_is)
    (case lawc => k_is)
    (case lawk => k_is)

