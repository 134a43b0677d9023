import PyProof.Rows.All
import Wide.All
import OpenK.AllK
import Wide.FinOn
import HandS.ForMost
import HandS.ForExc
import HandS.Walk
import HandS.Codes
import HandS.Conv
import HandS.SortInts
import HandS.Defaults
import HandS.Style
import HandS.Steps
import HandS.Evl
import HandS.ExcCtx
import HandS.Hot
import HandS.HotCalls
import KE.GoesComp
import KE.GoesMore
import HandS.ExcIs
import KE.KTryMore
import HandS.Lambda
import HandS.IsInst
import HandS.EndTab
import HandS.MakeKwOnly
import KE.GoesZip
import KE.GoesEnumKw
import HandS.Zip
import HandS.TupAny
import HandS.TupMul
import OpenK.KOps
import HandS.DictSub
import HandS.OwnEq
import HandS.MakeKw
import HandS.FStr
import PySem.Challenge.RW_mingleway_k01_fields_by_their_sizes
set_option Elab.async false
set_option linter.all false
set_option maxRecDepth 100000
set_option maxHeartbeats 4000000
set_option Elab.async false
set_option linter.all false
set_option maxRecDepth 100000
set_option maxHeartbeats 4000000
/-! # U: own layer over the hand layer: readings by introduction, heaps as they grow -/
namespace U
open PySem L2
/-! ### named readings -/
def rMul : R2 := rI CMul fun i j => .int (i * j)
def rMod : R2 := rI (fun _ j => 0 < j) fun i j => .int (i % j)
def rFdiv : R2 := rI CDiv fun i j => .int (i / j)
def rPow : R2 := rI CPow fun i j => .int (i ^ j.toNat)
def rIAdd : R2 := rI0 fun i j => .int (i + j)
def rISub : R2 := rI0 fun i j => .int (i - j)
def rLt : R2 := rI0 fun i j => .bl (decide (i < j))
def rLe : R2 := rI0 fun i j => .bl (decide (i ≤ j))
def rAbs : List V → Hp → VK → Prop := fun xs H Q => ∃ i, xs = [.int i] ∧ Q (.int (if i < 0 then -i else i)) H
def rListOf (K : PySem.W.Frag) : List V → Hp → VK → Prop := fun xs H Q => ∃ p ys, xs = [.ref p] ∧ (SqL K H p ys ∨ SqT K H p ys) ∧ ∀ q, H q = none → Q (.ref q) (upd H q (.lst ys))
def rIntB : List V → Hp → VK → Prop := fun xs H Q => ∃ b, xs = [.bl b] ∧ Q (.int (if b then 1 else 0)) H
def rDivmod : List V → Hp → VK → Prop := fun xs H Q => ∃ i j, xs = [.int i, .int j] ∧ CDiv i j ∧ ∀ p, H p = none → Q (.ref p) (upd H p (.tup [.int (i / j), .int (i % j)]))
section
variable {X : Cx}
theorem u_mul : OpR X (binaryOp .Mult) rMul := op_mul
theorem u_mod : OpR X (binaryOp .Mod) rMod := op_mod
theorem u_fdiv : OpR X (binaryOp .FloorDiv) rFdiv := op_fdiv
theorem u_pow : OpR X (binaryOp .Pow) rPow := op_pow
theorem u_add : OpR X (binaryOp .Add) rIAdd := op_add
theorem u_sub : OpR X (binaryOp .Sub) rISub := op_sub
theorem u_lt : OpR X (compareOp .Lt) rLt := op_lt
theorem u_le : OpR X (compareOp .LtE) rLe := op_le
theorem u_gt : OpR X (compareOp .Gt) rGt := op_gt
theorem u_ge : OpR X (compareOp .GtE) rGe := op_ge
theorem u_abs : CallR X (.builtin "abs") rAbs := call_abs
theorem u_len : CallR X (.builtin "len") (Evl.rLenS X.K) := call_len_seq
theorem u_divmod : CallR X (.builtin "divmod") rDivmod := call_divmod
end
/-! ### introduction: one lemma a reading -/
section
variable {σ : St} {H : Hp} {Q : VK} {ta tb tc : TE} {v x y : V} {K : PySem.W.Frag} {D : Ends} {t u : TS}
theorem i_var {i : Nat} (h : σ[i]? = some (some v)) (q : Q v H) : tVar i σ H Q := ⟨v, h, q⟩
theorem i_c (q : Q v H) : tC v σ H Q := q
theorem i_op {r : R2} (q : ta σ H fun x H1 => tb σ H1 fun y H2 => r x y H2 Q) : tOp r ta tb σ H Q := q
theorem i_un {r : V → Hp → VK → Prop} (q : ta σ H fun x H1 => r x H1 Q) : tUn r ta σ H Q := q
theorem i_rU {g : Int → V} {i : Int} (q : Q (g i) H) : rU g (.int i) H Q := ⟨i, rfl, q⟩
theorem i_mul {i j : Int} (c : CMul i j) (q : Q (.int (i * j)) H) : rMul (.int i) (.int j) H Q := ⟨i, j, rfl, rfl, c, q⟩
theorem i_mod {i j : Int} (c : 0 < j) (q : Q (.int (i % j)) H) : rMod (.int i) (.int j) H Q := ⟨i, j, rfl, rfl, c, q⟩
theorem i_fdiv {i j : Int} (c : CDiv i j) (q : Q (.int (i / j)) H) : rFdiv (.int i) (.int j) H Q := ⟨i, j, rfl, rfl, c, q⟩
theorem i_pow {i j : Int} (c : CPow i j) (q : Q (.int (i ^ j.toNat)) H) : rPow (.int i) (.int j) H Q := ⟨i, j, rfl, rfl, c, q⟩
theorem i_add {i j : Int} (q : Q (.int (i + j)) H) : rIAdd (.int i) (.int j) H Q := ⟨i, j, rfl, rfl, q⟩
theorem i_sub {i j : Int} (q : Q (.int (i - j)) H) : rISub (.int i) (.int j) H Q := ⟨i, j, rfl, rfl, q⟩
theorem i_lt {i j : Int} (q : Q (.bl (decide (i < j))) H) : rLt (.int i) (.int j) H Q := ⟨i, j, rfl, rfl, q⟩
theorem i_le {i j : Int} (q : Q (.bl (decide (i ≤ j))) H) : rLe (.int i) (.int j) H Q := ⟨i, j, rfl, rfl, q⟩
theorem i_gt {i j : Int} (q : Q (.bl (decide (j < i))) H) : rGt (.int i) (.int j) H Q := ⟨i, j, rfl, rfl, q⟩
theorem i_ge {i j : Int} (q : Q (.bl (decide (j ≤ i))) H) : rGe (.int i) (.int j) H Q := ⟨i, j, rfl, rfl, q⟩
theorem dInt {i j : Int} : decide (V.int i = V.int j) = decide (i = j) := by
  by_cases h : i = j
  · rw [decide_eq_true h, decide_eq_true (by rw [h])]
  · rw [decide_eq_false h, decide_eq_false (fun q => h (V.int.inj q))]
theorem i_eqI {i j : Int} (q : Q (.bl (decide (i = j))) H) : rEq (.int i) (.int j) H Q := ⟨rfl, by rw [dInt]; exact q⟩
theorem i_neI {i j : Int} (q : Q (.bl (!decide (i = j))) H) : rNe (.int i) (.int j) H Q := ⟨rfl, by rw [dInt]; exact q⟩
theorem i_test (q : ta σ H fun x H' => ∃ k, x = .bl k ∧ R k H') : tTest ta σ H R := q
theorem i_tB (q : ta σ H fun x H' => ∃ k, x = .bl k ∧ R k H') : tB ta σ H R := q
theorem i_bl {k : Bool} {R : Bool → Prop} (q : R k) : ∃ k', V.bl k = .bl k' ∧ R k' := ⟨k, rfl, q⟩
theorem i_not {a : TT} {R : Bool → Hp → Prop} (q : a σ H fun c H1 => R (!c) H1) : tNot a σ H R := q
theorem i_nil {R : List V → Hp → Prop} (q : R [] H) : tNil σ H R := q
theorem i_cons {ts : TA} {R : List V → Hp → Prop} (q : ta σ H fun x H1 => ts σ H1 fun xs H2 => R (x :: xs) H2) : tCons ta ts σ H R := q
theorem i_cb {r : List V → Hp → VK → Prop} {ts : TA} (q : ts σ H fun vs H1 => r vs H1 Q) : tCB r ts σ H Q := q
theorem i_call {sp : Sp} {dvs : List V} {E : XK} {ts : TA} (q : ts σ H fun vs H1 => sp (vs ++ dvs) H1 Q E) : tCall sp dvs E ts σ H Q := q
theorem i_abs {i : Int} (q : Q (.int (if i < 0 then -i else i)) H) : rAbs [.int i] H Q := ⟨i, rfl, q⟩
theorem i_lenL {p : Addr} {ys : List V} (h : SqL K H p ys) (q : Q (.int ys.length) H) : Evl.rLenS K [.ref p] H Q := ⟨p, ys, rfl, .inl h, q⟩
theorem i_lenT {p : Addr} {ys : List V} (h : SqT K H p ys) (q : Q (.int ys.length) H) : Evl.rLenS K [.ref p] H Q := ⟨p, ys, rfl, .inr h, q⟩
theorem i_ixL {p : Addr} {xs : List V} {i : Int} (h : SqL K H p xs) (e : atI xs i = some v) (q : Q v H) : rIxL K (.ref p) (.int i) H Q := ⟨p, xs, i, v, rfl, rfl, h, e, q⟩
theorem i_ixT {p : Addr} {xs : List V} {i : Int} (h : SqT K H p xs) (e : atI xs i = some v) (q : Q v H) : rIxT K (.ref p) (.int i) H Q := ⟨p, xs, i, v, rfl, rfl, h, e, q⟩
theorem i_setL {p : Addr} {xs : List V} {i : Int} {j : Nat} {R : Hp → Prop} (h : H p = some (.lst xs)) (e : ixN xs.length i = some j) (q : R (upd H p (.lst (xs.set j v)))) : rSetL (.ref p) (.int i) v H R := ⟨p, xs, i, j, rfl, rfl, h, e, q⟩
theorem i_divmod {i j : Int} (c : CDiv i j) (q : ∀ p, H p = none → Q (.ref p) (upd H p (.tup [.int (i / j), .int (i % j)]))) : rDivmod [.int i, .int j] H Q := ⟨i, j, rfl, c, q⟩
theorem i_ifE {c : TT} (q : c σ H fun b H1 => if b = true then ta σ H1 Q else tb σ H1 Q) : tIf c ta tb σ H Q := q
/-- one way behind a fork: what follows is shown once, for all values that come -/
theorem i_cut {te : TE} (P : V → Prop) (rest : ∀ x, P x → Q x H) (q : (∀ x, P x → Q x H) → te σ H Q) : te σ H Q := q rest
/-! statements -/
theorem i_seq (q : t { D with nx := u D } σ H) : tSeq t u D σ H := q
theorem i_next (q : D.nx σ H) : tNext D σ H := q
theorem i_ret (q : ta σ H D.rt) : tRet ta D σ H := q
theorem i_drop (q : ta σ H fun _ H1 => D.nx σ H1) : tDrop ta D σ H := q
theorem i_asg {g : TG} (q : ta σ H fun x H1 => g x σ H1 D.nx) : tAsg ta g D σ H := q
theorem i_name {i : Nat} {R : St → Hp → Prop} (q : R (σ.set i (some v)) H) : gName i v σ H R := q
theorem i_gsub {r : TSet} {R : St → Hp → Prop} (q : ta σ H fun o H1 => tb σ H1 fun i H2 => r o i v H2 fun H3 => R σ H3) : gSub ta tb r v σ H R := q
theorem i_ifS {c : TT} (q : c σ H fun b H1 => if b = true then t D σ H1 else u D σ H1) : tIfS c t u D σ H := q
theorem ited {p A B : Prop} {_ : Decidable p} (h1 : p → A) (h2 : ¬ p → B) : if decide p = true then A else B := by
  by_cases h : p
  · rw [if_pos (decide_eq_true h)]; exact h1 h
  · rw [if_neg (by rw [decide_eq_false h]; exact Bool.false_ne_true)]; exact h2 h
theorem itedn {p A B : Prop} {_ : Decidable p} (h1 : ¬ p → A) (h2 : p → B) : if (!decide p) = true then A else B := by
  by_cases h : p
  · rw [if_neg (by rw [decide_eq_true h]; exact Bool.false_ne_true)]; exact h2 h
  · rw [if_pos (by rw [decide_eq_false h]; rfl)]; exact h1 h
theorem iteTd {p A B : Prop} {_ : Decidable p} (h : p) (q : A) : if decide p = true then A else B := by rw [if_pos (decide_eq_true h)]; exact q
theorem iteFd {p A B : Prop} {_ : Decidable p} (h : ¬ p) (q : B) : if decide p = true then A else B := by
  rw [if_neg (by rw [decide_eq_false h]; exact Bool.false_ne_true)]; exact q
end
theorem upd_same' {H : Hp} {p : Addr} {o : HO} : upd H p o p = some o := upd_same
theorem upd_ne'' {H : Hp} {a p : Addr} {o u : HO} (n : a ≠ p) (h : H a = some u) : upd H p o a = some u := (upd_ne n).trans h
/-- all but what stands at a is as it was -/
def But (a : Addr) (H H' : Hp) : Prop := ∀ b o, H b = some o → b ≠ a → H' b = some o
theorem But.of {a : Addr} {H : Hp} {o : HO} : But a H (upd H a o) := fun b u e n => (upd_ne n).trans e
theorem But.up {a : Addr} {H H' : Hp} {o : HO} (k : But a H H') : But a H (upd H' a o) := fun b u e n => (upd_ne n).trans (k b u e n)
theorem atI_of {xs : List V} {i : Int} {j : Nat} {v : V} (e : i = (j : Int)) (h : xs[j]? = some v) : atI xs i = some v := by rw [e]; exact atI_nat h
theorem atI_ints {ns : List Int} {i : Int} (h0 : 0 ≤ i) (h1 : i < (ns.length : Int)) : ∃ z, atI (ns.map V.int) i = some (V.int z) ∧ ns[i.toNat]? = some z := by
  have hl : i.toNat < ns.length := by omega
  refine ⟨ns[i.toNat], ?_, by simp [hl]⟩
  refine atI_of (j := i.toNat) (by omega) ?_
  rw [List.getElem?_map]
  simp [hl]
/-! ### heaps that grow: new things laid, what stood stands -/
section
variable {H H' : Hp} {p : Addr} {o : HO}
theorem same_new (h : H p = none) : Same H (upd H p o) := fun b u e => by rw [upd_ne (ne_of_none e h)]; exact e
/-- something new is laid: go on with a heap that is only known to hold it -/
theorem lay {A' : Addr → Hp → Prop} (q : ∀ p H', H p = none → Same H H' → H' p = some o → A' p H') : ∀ p, H p = none → A' p (upd H p o) := fun p h => q p _ h (same_new h) upd_same
end
end U

set_option Elab.async false
set_option linter.all false
set_option maxRecDepth 100000
set_option maxHeartbeats 4000000
/-! # U, second part: defs, methods and makers as one thing each; more readings -/
namespace U
open PySem L2
/-- how a def binds what it is given, any number of its defaults left out -/
def BD (K : PySem.W.Frag) (fd : FuncData) (ps : List Str) (dv : List V) : Prop := ∀ j, j ≤ dv.length → ∃ ds, Vals (dv.drop j) ds ∧ Binds K fd ps ds
abbrev FunA (K : PySem.W.Frag) (x q : Str) (st : Stmt) (dv : List V) (kws : List (Str × V)) (f : Addr) (fd : FuncData) : Prop := FunD K x q (defArgs st) (defBody st) (defScope st) dv kws f fd
structure DA (K : PySem.W.Frag) (mg : Str → Option Value) (x : Str) (st : Stmt) (ps : List Str) (dv : List V) : Prop where
  ex : ∃ (f : Addr) (fd : FuncData), FunA K x x st dv [] f fd ∧ mg x = some (.ref f) ∧ BD K fd ps dv
structure MA (K : PySem.W.Frag) (C : Addr) (m q : Str) (st : Stmt) (ps : List Str) (dv : List V) : Prop where
  ex : ∃ (f : Addr) (fd : FuncData), FunA K m q st dv [] f fd ∧ Cls K C ∧ Meth K C m f ∧ BD K fd ps dv
structure NA (K : PySem.W.Frag) (mg : Str → Option Value) (x : Str) (C : Addr) (q : Str) (st : Stmt) (ps : List Str) (dv : List V) : Prop where
  ex : ∃ (f : Addr) (fd : FuncData), FunA K "__init__" q st dv [] f fd ∧ Mk K C f ∧ mg x = some (.ref C) ∧ BD K fd ps dv
section
variable (P : Program) (w : World) (K : PySem.W.Frag) (mg : Str → Option Value) (base : Heap)
structure Cl (k : Nat) (x : Str) (sp : Sp) (dv : List V) : Prop where
  ex : ∃ (f : Addr) (fd : FuncData) (ps : List Str), FnOk P w K mg base (L2N.CX P w) k f fd ps sp ∧ mg x = some (.ref f) ∧ PySem.W.keepIn K (.ref f) = true ∧ BD K fd ps dv
structure Mt (k : Nat) (C : Addr) (m : Str) (sp : Sp) (dv : List V) : Prop where
  ex : ∃ (f : Addr) (fd : FuncData) (ps : List Str), FnOk P w K mg base (L2N.CX P w) k f fd ps sp ∧ Cls K C ∧ Meth K C m f ∧ BD K fd ps dv
structure Nw (k : Nat) (x : Str) (C : Addr) (sp : Sp) (dv : List V) : Prop where
  ex : ∃ (f : Addr) (fd : FuncData) (ps : List Str), FnOk P w K mg base (L2N.CX P w) k f fd ps sp ∧ Mk K C f ∧ mg x = some (.ref C) ∧ BD K fd ps dv
end
section
variable {P : Program} {w : World} {K : PySem.W.Frag} {mg : Str → Option Value} {base : Heap}
theorem DA.ok {x : Str} {st : Stmt} {ps N : List Str} {dv : List V} {k : Nat} {sp : Sp} (F : DA K mg x st ps dv) (S : FnScope N ps (defScope st)) (len : ∀ vs H Q E, sp vs H Q E → vs.length = ps.length)
    (hbody : ∀ (f : Addr) (cdv : Value) (A : Around) (outer : List Env) (s : Shared) (H : Hp) (vs : List V) (Q : VK) (E : XK), Room k (A.deeper (PyProof.Rows.envOfC x (defScope st) s.heap.objs.size f cdv)) → sp vs H Q E →
      ∃ t, PSs (cxOf (L2N.CX P w) P w K mg base N x (defScope st) f cdv A outer s H E) (defBody st) t ∧ t { nx := fun _ H' => Q .non H', rt := Q } (start N vs) H) : Cl P w K mg base (k + 1) x sp dv := by
  obtain ⟨f, fd, F, hm, b⟩ := F.ex
  exact ⟨f, fd, ps, F.ok S len fun cdv A outer s H vs Q E => hbody f cdv A outer s H vs Q E, hm, F.kp, b⟩
theorem MA.ok {C : Addr} {m q : Str} {st : Stmt} {ps N : List Str} {dv : List V} {k : Nat} {sp : Sp} (F : MA K C m q st ps dv) (S : FnScope N ps (defScope st)) (len : ∀ vs H Q E, sp vs H Q E → vs.length = ps.length)
    (hbody : ∀ (f : Addr) (cdv : Value) (A : Around) (outer : List Env) (s : Shared) (H : Hp) (vs : List V) (Q : VK) (E : XK), Room k (A.deeper (PyProof.Rows.envOfC q (defScope st) s.heap.objs.size f cdv)) → sp vs H Q E →
      ∃ t, PSs (cxOf (L2N.CX P w) P w K mg base N q (defScope st) f cdv A outer s H E) (defBody st) t ∧ t { nx := fun _ H' => Q .non H', rt := Q } (start N vs) H) : Mt P w K mg base (k + 1) C m sp dv := by
  obtain ⟨f, fd, F, c, hm, b⟩ := F.ex
  exact ⟨f, fd, ps, F.ok S len fun cdv A outer s H vs Q E => hbody f cdv A outer s H vs Q E, c, hm, b⟩
theorem NA.ok {x : Str} {C : Addr} {q : Str} {st : Stmt} {ps N : List Str} {dv : List V} {k : Nat} {sp : Sp} (F : NA K mg x C q st ps dv) (S : FnScope N ps (defScope st)) (len : ∀ vs H Q E, sp vs H Q E → vs.length = ps.length)
    (hbody : ∀ (f : Addr) (cdv : Value) (A : Around) (outer : List Env) (s : Shared) (H : Hp) (vs : List V) (Q : VK) (E : XK), Room k (A.deeper (PyProof.Rows.envOfC q (defScope st) s.heap.objs.size f cdv)) → sp vs H Q E →
      ∃ t, PSs (cxOf (L2N.CX P w) P w K mg base N q (defScope st) f cdv A outer s H E) (defBody st) t ∧ t { nx := fun _ H' => Q .non H', rt := Q } (start N vs) H) : Nw P w K mg base (k + 1) x C sp dv := by
  obtain ⟨f, fd, F, M, hm, b⟩ := F.ex
  exact ⟨f, fd, ps, F.ok S len fun cdv A outer s H vs Q E => hbody f cdv A outer s H vs Q E, M, hm, b⟩
/-! making them from what the top has left -/
theorem bd0 {x q : Str} {params : Arguments} {body : List Stmt} {scope : Scope} {f : Addr} {fd : FuncData} {ps : List Str} (F : FunD K x q params body scope [] [] f fd)
    (h : ∀ (a b c : Value) (d : Option Addr) (e g : Value) (us : List Value), us.length = ps.length → bindArgs (PySem.W.fnOf x q params body scope .none a b c d e g) ⟨us, []⟩ = pure (ps.zip us)) : BD K fd ps [] :=
  fun j _ => ⟨[], (List.drop_nil (i := j)).symm ▸ .nil, F.bindsN h⟩
theorem bd1 {x q : Str} {params : Arguments} {body : List Stmt} {scope : Scope} {f : Addr} {fd : FuncData} {ps : List Str} {v : V} (F : FunD K x q params body scope [v] [] f fd) (hp : 0 < ps.length)
    (h0 : ∀ (T : Addr) (kV doc pm : Value) (an : Option Addr) (cdv ct : Value) (us its : List Value), us.length = ps.length - 1 → its.length = [v].length →
      ∃ k, bindArgs (PySem.W.fnOf x q params body scope (.ref T) kV doc pm an cdv ct) ⟨us, []⟩ = seqItems? (.ref T) >>= k ∧ k (some its.toArray) = pure (ps.zip (us ++ its.drop 0)))
    (h1 : ∀ (T : Addr) (kV doc pm : Value) (an : Option Addr) (cdv ct : Value) (us its : List Value), us.length = ps.length → its.length = [v].length →
      ∃ k, bindArgs (PySem.W.fnOf x q params body scope (.ref T) kV doc pm an cdv ct) ⟨us, []⟩ = seqItems? (.ref T) >>= k ∧ k (some its.toArray) = pure (ps.zip (us ++ its.drop 1))) : BD K fd ps [v] := by
  intro j hj
  match j with
  | 0 => exact F.binds1 (ps.length - 1) 0 (by simp) (by show ps.length - 1 + (1 - 0) = _; omega) h0
  | 1 => exact F.binds1 ps.length 1 (by simp) (by show ps.length + (1 - 1) = _; omega) h1
  | j + 2 => exact absurd hj (by show ¬ j + 2 ≤ 1; omega)
end
section
variable {X : Cx} {E : XK}
/-- nothing is raised there -/
theorem passN {X : Cx} : Passes (L2N.CX X.prog X.w) X (fun _ _ _ => False) := fun _ _ _ _ _ _ _ h => by
  rcases h with ⟨_, _, _, _, _, _, _, _, _, _, _, _, no⟩
  exact no.elim
/-- what a callee raises leaves this def, too -/
theorem passE (tk : L2N.Takes X (fun cls d _ H => E cls d H)) : Passes (L2N.CX X.prog X.w) X E := L2N.passes_call tk fun _ _ _ _ h => h
end
/-! ### a written dict with int keys, read -/
structure WD (P : Program) (w : World) (K : PySem.W.Frag) (d : Addr) (kvs : List (Key × V)) : Prop where
  ex : ∃ (o : Obj) (es : Array DictEntry) (ep : Nat) (vs : List (Key × Value)), K.lookup d = some o ∧ o.ExactDict ∧ o.data = .dict es ep ∧ KeysOf (mixKind P w) es ∧ Pairs (mixKind P w) es.toList vs ∧ (vs.map (·.1)).Nodup ∧ KV kvs vs
def tWGet (P : Program) (w : World) (K : PySem.W.Frag) (td ty : TE) : TE := fun σ H Q => td σ H fun x H1 => ty σ H1 fun y H2 => ∃ d kvs k v, x = .ref d ∧ y = kV k ∧ WD P w K d kvs ∧ valV kvs k = some v ∧ Q v H2
/-- the value that a written dict holds at a key -/
theorem wd_get {X : Cx} {pins : List (Addr × Obj)} {σ : L2.St} {H : Hp} {s : Shared} {d : Addr} {kvs : List (Key × V)} {k : Key} {v : V} {iv : Value} {A : Around} {E Q : Value → Shared → Prop} (I : Inv X pins σ H s) (W : WD X.prog X.w X.K d kvs) (rk : RelV (kV k) iv) (at_ : valV kvs k = some v)
    (go : ∀ u s', RelV v u → Inv X pins σ H s' → Q u s') : s.TypeIs (.ref d) "dict" ∧ wpAny (model X.prog X.w) A (getItem (.ref d) iv) Q E s := by
  rcases W.ex with ⟨ob, es, ep, vs, here, exact_, data_, keys, pairs, once, rel⟩
  have is : s.heap.DictOf (mixKind X.prog X.w) d vs := ⟨ob, es, ep, I.kIn d ob here, exact_, data_, keys, pairs, once⟩
  have both := rel.val k
  rw [at_] at both
  rcases both.some_of with ⟨u, eu, ru⟩
  exact ⟨is.typeIs, wpAny_getItem_of (kV_is rk) is.mapOf eu (go u _ ru (I.tok _))⟩
theorem pe_wget {X : Cx} {o i : Expr} {pos : Pos} {td ty : TE} (po : PE X o td) (pi : PE X i ty) (pl : NoSl i) : PE X (.Subscript o i pos) (tWGet X.prog X.w X.K td ty) where
  run pins s σ H Q I h := subD_of PySem.F.slot_dict_getitem.lookup pl (thn (po.run pins s σ H _ I h) (by
    rintro u s1 ⟨x, H1, I1, rx, h1⟩
    refine thn (pi.run pins s1 σ H1 _ I1 h1) ?_
    rintro iv s2 ⟨y, H2, I2, ry, d, kvs, k, v, rfl, rfl, W, at_, q⟩
    cases rx
    exact wd_get I2 W ry at_ fun w' s' rw' I' => ⟨v, H2, I', rw', q⟩))
/-! ### things of the top, read off their objects -/
def DfT (o : Obj) (dv : List V) : Prop := dv ≠ [] ∧ ∃ (its : List Value) (n : Nat), o.data = .seq its.toArray n ∧ Vals dv its
theorem dfT {o : Obj} {dv : List V} {its : List Value} {n : Nat} (h : o.data = .seq its.toArray n) (v : Vals dv its) (ne : dv ≠ []) : DfT o dv := ⟨ne, its, n, h, v⟩
theorem dfl_of {K : PySem.W.Frag} {t : Addr} {o : Obj} {dv : List V} (l : K.lookup t = some o) (d : DfT o dv) : DflV K (.ref t) dv := by
  obtain ⟨ne, its, n, h, v⟩ := d
  exact .inr ⟨ne, t, o, its, n, rfl, l, h, v⟩
def TupO (o : Obj) (xs : List V) : Prop := ∃ (its : List Value) (n : Nat), o.cls = .type "tuple" ∧ o.data = .seq its.toArray n ∧ its.length ≤ sizeLine ∧ Vals xs its
theorem tupO {o : Obj} {xs : List V} {its : List Value} {n : Nat} (c : o.cls = .type "tuple") (h : o.data = .seq its.toArray n) (l : its.length ≤ sizeLine) (v : Vals xs its) : TupO o xs := ⟨its, n, c, h, l, v⟩
theorem sqT_of {K : PySem.W.Frag} {H : Hp} {a : Addr} {o : Obj} {xs : List V} (l : K.lookup a = some o) (d : TupO o xs) : SqT K H a xs := by
  obtain ⟨its, n, c, h, z, v⟩ := d
  exact .inr ⟨o, its.toArray, n, l, c, h, by simpa using z, by simpa using v⟩
def entI (x : Int × Tok × Value) : DictEntry := ⟨hashInt x.1, .int x.1 x.2.1, x.2.2⟩
def WDO (o : Obj) (kvs : List (Key × V)) : Prop := ∃ (l : List (Int × Tok × Value)) (ep : Nat), o.ExactDict ∧ o.data = .dict (l.map entI).toArray ep ∧ (l.map (·.1)).Nodup ∧ KV kvs (l.map fun x => ((Sum.inl x.1 : Key), x.2.2))
theorem wd_of {P : Program} {w : World} {K : PySem.W.Frag} {a : Addr} {o : Obj} {kvs : List (Key × V)} (h : K.lookup a = some o) (d : WDO o kvs) : WD P w K a kvs := by
  obtain ⟨l, ep, x, e, nd, kv⟩ := d
  refine ⟨o, _, ep, l.map fun x => ((Sum.inl x.1 : Key), x.2.2), h, x, e, ?_, ?_, ?_, kv⟩
  · intro y hy
    have hy' : y ∈ l.map entI := by simpa using hy
    obtain ⟨z, hz, rfl⟩ := List.mem_map.mp hy'
    exact ⟨Sum.inl z.1, mixKind_int P w z.1 z.2.1, rfl⟩
  · have : ∀ l : List (Int × Tok × Value), Pairs (mixKind P w) (l.map entI) (l.map fun x => ((Sum.inl x.1 : Key), x.2.2)) := by
      intro l
      induction l with
      | nil => exact .nil
      | cons z r ih => exact .cons (mixKind_int P w z.1 z.2.1) rfl ih
    simpa using this l
  · have e2 : (l.map fun x => ((Sum.inl x.1 : Key), x.2.2)).map (·.1) = (l.map (·.1)).map Sum.inl := by simp [List.map_map, Function.comp_def]
    rw [e2]
    exact List.Pairwise.map _ (fun a b h z => h (Sum.inl.inj z)) nd
section
open PySem PySem.Spec PyProof.Rows L2
/-! ### raise X() of an own class without own __init__ -/
/-- an own exception made with no argument, by its class -/
theorem own_made0 {X : Cx} {C : Addr} {bmB : List Value} {B newId initId : String} {pins : List (Addr × Obj)} {σ : L2.St} {H : Hp} {Q : XK} {E : Value → Shared → Prop} {s : Shared} (F : ExcBaseFacts B newId initId bmB) (is : PySem.W.excIn X.K C bmB newId = true) (r : Raises X (.ref C))
    (I : Inv X pins σ H s) (q : Q (.ref C) none H) : wpAny (model X.prog X.w) X.A (call (.ref C) []) (L2N.MkP X pins σ Q) E s :=
  match exc_obj I.kIn is with
  | ⟨_, _, _, _, _, _, _, _, _, _, _, _, _, _, _, _, _, here, names, plain, tail⟩ => wpAny_call_exc_subT F tail here names plain fun _ _ new => L2N.mk_of I new r q (I.hok.gone new.new)
theorem pmk_own0 {X : Cx} {C : Addr} {bmB : List Value} {B newId initId : String} {x : Str} {p pos : Pos} (F : ExcBaseFacts B newId initId bmB) (is : PySem.W.excIn X.K C bmB newId = true) (gC : X.mg x = some (.ref C)) (kept : PySem.W.keepIn X.K (.ref C) = true) (r : Raises X (.ref C)) (gl : Gl X x)
    (nd : (x == ("__debug__" : Str)) = false := by decide) : L2N.PMk X (.Call (.Name x p) [] [] pos) (fun _ H Q => Q (.ref C) none H) := fun _ _ _ _ _ I q => wpAny_Call_Name_kw (ld_glob I gl gC (PySem.W.callWith_K0 I.kIn kept (own_made0 F is r I q)) nd)
structure EA (K : PySem.W.Frag) (mg : Str → Option Value) (x : Str) (C : Addr) : Prop where
  g : mg x = some (.ref C)
  k : PySem.W.keepIn K (.ref C) = true
  q : ∃ (bmB : List Value) (B newId initId : String), ExcBaseFacts B newId initId bmB ∧ PySem.W.excIn K C bmB newId = true
  b : PySem.W.subIn K (.ref C) (.type "BaseException") = some true
  t : PySem.W.typeIn K (.ref C) = some (.type "type")
theorem ps_raise0 {X : Cx} {W : WX} {x : Str} {C : Addr} {p pos pos2 : Pos} (hc : X.calm = true) (tk : L2N.Takes X W) (T : EA X.K X.mg x C) (hg : Gl X x := by rfl) (hdb : (x == ("__debug__" : Str)) = false := by decide) :
    PS X (.Raise (some (.Call (.Name x p) [] [] pos)) none pos2) (fun _ σ H => W (.ref C) none σ H) := by
  obtain ⟨bmB, B, newId, initId, F, q⟩ := T.q
  exact L2N.ps_raise hc tk (pmk_own0 F q T.g T.k (raises_own T.b T.t) hg hdb)
end
/-! ### xs[i] op= e -/
def rGetL (K : PySem.W.Frag) : V → V → Hp → VK → Prop := fun o i H Q => ∃ p xs k v, o = .ref p ∧ i = .int k ∧ 0 ≤ k ∧ k < 2 ^ 63 ∧ SqL K H p xs ∧ xs[k.toNat]? = some v ∧ Q v H
theorem get_list {X : Cx} : PGet X (rGetL X.K) := fun pins s σ H o i ov iv Q I ro ri ⟨p, xs, k, v, eo, ei, k0, k1, sq, at_, q⟩ => by
  cases eo
  cases ei
  cases ro
  rcases ri with ⟨tk, rfl⟩
  rcases I.list sq with ⟨us, vs, plain, _⟩
  rcases vs.get at_ with ⟨u, eu, ru⟩
  refine wpAny_getItem_list plain.isList k0 k1 ?_ ⟨v, H, I, ru, q⟩
  rw [List.getElem?_toArray]
  exact eu
def ipMul : TIp := fun x y H Q => ∃ i j, x = .int i ∧ y = .int j ∧ CMul i j ∧ Q (.int (i * j)) H
theorem ip_mul {X : Cx} : PIp X .Mult ipMul := fun _ s _ H _ _ _ _ _ I rx ry ⟨i, j, ex, ey, small, q⟩ => by
  cases ex
  cases ey
  rcases rx with ⟨ti, rfl⟩
  rcases ry with ⟨tj, rfl⟩
  exact PyProof.Rows.imul_int ⟨.int (i * j), H, I.tok _, ⟨_, rfl⟩, q⟩ small.ok
section
variable {X : Cx}
theorem u_listOf : CallR X (.type "list") (rListOf X.K) := call_list_of
theorem u_intB : CallR X (.type "int") rIntB := fun pins s σ H xs us Q I r ⟨b, e, q⟩ => call_int1 pins s σ H xs us Q I r (.inr ⟨b, e, q⟩)
end
section
variable {X : Cx} {x : Str} {pos : Pos}
theorem pe_gref {a : Addr} (hg : Gl X x) (hm : X.mg x = some (.ref a)) (hd : (x == ("__debug__" : Str)) = false := by decide) : PE X (.Name x pos) (tC (.ref a)) := pe_glob hg hm rfl hd
theorem pe_gval {v : V} (hg : Gl X x) (h : ∃ u, X.mg x = some u ∧ RelV v u) (hd : (x == ("__debug__" : Str)) = false := by decide) : PE X (.Name x pos) (tC v) := by
  obtain ⟨u, hm, r⟩ := h
  exact pe_glob hg hm r hd
end
/-! ### rules with the written part named (within comprehensions) -/
section
variable {X : Cx} {e o : Expr} {te : TE} {f : Str} {pos : Pos}
theorem ixL (K : PySem.W.Frag) (h : X.K = K) : IxR X (rIxL K) := h ▸ ix_list
theorem ixT (K : PySem.W.Frag) (h : X.K = K) : IxR X (rIxT K) := h ▸ ix_tup
theorem ixS (K : PySem.W.Frag) (h : X.K = K) : IxR X (rIx K) := h ▸ ix_seq
theorem lenK (K : PySem.W.Frag) (h : X.K = K) : CallR X (.builtin "len") (Evl.rLenS K) := h ▸ u_len
theorem pe_fldK (K : PySem.W.Frag) (h : X.K = K) (he : PE X o te) (hb : attributeBase o f X.env (eval o X.env) = eval o X.env) : PE X (.Attribute o f pos) (tFld K te f) := h ▸ pe_fld he hb
theorem inK (K : PySem.W.Frag) (h : X.K = K) : OpR X (compareOp .In) (rIn K false) := h ▸ op_in_seq
theorem notInK (K : PySem.W.Frag) (h : X.K = K) : OpR X (compareOp .NotIn) (rIn K true) := h ▸ op_notIn_seq
end
/-! ### more introductions -/
section
variable {σ : St} {H : Hp} {Q : VK} {ta tb tc : TE} {v x y : V} {K : PySem.W.Frag} {D : Ends} {t u : TS}
theorem i_getL {p : Addr} {xs : List V} {k : Int} (h0 : 0 ≤ k) (h1 : k < 2 ^ 63) (h : SqL K H p xs) (e : xs[k.toNat]? = some v) (q : Q v H) : rGetL K (.ref p) (.int k) H Q := ⟨p, xs, k, v, rfl, rfl, h0, h1, h, e, q⟩
theorem i_augS {to ti te : TE} {tget : V → V → Hp → VK → Prop} {tip : TIp} {tset : TSet} (q : to σ H fun o H1 => ti σ H1 fun i H2 => tget o i H2 fun x H3 => te σ H3 fun y H4 => tip x y H4 fun z H5 => tset o i z H5 fun H6 => D.nx σ H6) : tAugS to ti te tget tip tset D σ H := q
theorem i_aug {i : Nat} {ti : TIp} (h : σ[i]? = some (some x)) (q : ta σ H fun y H1 => ti x y H1 fun z H2 => D.nx (σ.set i (some z)) H2) : tAug i ta ti D σ H := ⟨x, h, q⟩
theorem i_ipI {f : Int → Int → Int} {i j : Int} (q : Q (.int (f i j)) H) : ipI f (.int i) (.int j) H Q := ⟨i, j, rfl, rfl, q⟩
theorem i_ipMul {i j : Int} (c : CMul i j) (q : Q (.int (i * j)) H) : ipMul (.int i) (.int j) H Q := ⟨i, j, rfl, rfl, c, q⟩
theorem i_fld {f : Str} (q : ta σ H fun x H1 => ∃ a C dx fs v, x = .ref a ∧ H1 a = some (.ins C dx fs) ∧ Cls K C ∧ NoAttr K C f ∧ fs.lookup f = some v ∧ Q v H1) : tFld K ta f σ H Q := q
theorem i_fld' {a C dx : Addr} {fs : List (Str × V)} {f : Str} {R : Addr → Addr → Addr → List (Str × V) → V → Prop} (h : H a = some (.ins C dx fs)) (c : Cls K C) (n : NoAttr K C f) (l : fs.lookup f = some v) (q : R a C dx fs v) :
    ∃ a' C dx fs v, V.ref a = .ref a' ∧ H a' = some (.ins C dx fs) ∧ Cls K C ∧ NoAttr K C f ∧ fs.lookup f = some v ∧ R a' C dx fs v := ⟨a, C, dx, fs, v, rfl, h, c, n, l, q⟩
theorem i_sfld {f : Str} (q : tb σ H fun y H1 => ta σ H1 fun x H2 => ∃ a C dx fs, x = .ref a ∧ H2 a = some (.ins C dx fs) ∧ Cls K C ∧ NoAttr K C f ∧ fs.length < 1000 ∧ D.nx σ (upd H2 a (.ins C dx (putF f y fs)))) : sFld K ta tb f D σ H := q
theorem i_sfld' {a C dx : Addr} {fs : List (Str × V)} {f : Str} {R : Addr → Addr → Addr → List (Str × V) → Prop} (h : H a = some (.ins C dx fs)) (c : Cls K C) (n : NoAttr K C f) (l : fs.length < 1000) (q : R a C dx fs) :
    ∃ a' C dx fs, V.ref a = .ref a' ∧ H a' = some (.ins C dx fs) ∧ Cls K C ∧ NoAttr K C f ∧ fs.length < 1000 ∧ R a' C dx fs := ⟨a, C, dx, fs, rfl, h, c, n, l, q⟩
theorem i_meth {C : Addr} {m : Str} {sp : Sp} {dvs : List V} {E : XK} {ts : TA} (q : ta σ H fun x H1 => ∃ a dx fs, x = .ref a ∧ H1 a = some (.ins C dx fs) ∧ fs.lookup m = none ∧ ts σ H1 fun vs H2 => sp (x :: (vs ++ dvs)) H2 Q E) : tMeth C m sp dvs E ta ts σ H Q := q
theorem i_meth' {a C dx : Addr} {fs : List (Str × V)} {m : Str} {R : Prop} (h : H a = some (.ins C dx fs)) (l : fs.lookup m = none) (q : R) : ∃ a' dx fs, V.ref a = .ref a' ∧ H a' = some (.ins C dx fs) ∧ fs.lookup m = none ∧ R := ⟨a, dx, fs, rfl, h, l, q⟩
theorem i_make {C : Addr} {sp : Sp} {dvs : List V} {E : XK} {ts : TA} (q : ts σ H fun vs H1 => ∀ x dx, H1 x = none → H1 dx = none → dx ≠ x → sp (.ref x :: (vs ++ dvs)) (upd (upd H1 dx (.own x)) x (.ins C dx [])) (fun v H2 => v = .non ∧ Q (.ref x) H2) E) : tMake C sp dvs E ts σ H Q := q
theorem i_tup {ts : TA} (q : ts σ H fun xs H1 => xs.length ≤ sizeLine ∧ ∀ p, H1 p = none → Q (.ref p) (upd H1 p (.tup xs))) : tTup ts σ H Q := q
theorem i_lst {ts : TA} (q : ts σ H fun xs H1 => xs.length ≤ sizeLine ∧ ∀ p, H1 p = none → Q (.ref p) (upd H1 p (.lst xs))) : tLst ts σ H Q := q
theorem i_wget {P : Program} {w : World} (q : ta σ H fun x H1 => tb σ H1 fun y H2 => ∃ d kvs k v, x = .ref d ∧ y = kV k ∧ WD P w K d kvs ∧ valV kvs k = some v ∧ Q v H2) : tWGet P w K ta tb σ H Q := q
theorem i_sl {r : V → Option Int → Option Int → Hp → VK → Prop} {tl th : TO} (q : ta σ H fun x H1 => tl σ H1 fun l H2 => th σ H2 fun u H3 => r x l u H3 Q) : tSl r ta tl th σ H Q := q
theorem i_part {R : Option Int → Hp → Prop} (q : ta σ H fun x H1 => ∃ i, x = .int i ∧ R (some i) H1) : tPart ta σ H R := q
theorem i_part' {i : Int} {R : Int → Prop} (q : R i) : ∃ i', V.int i = .int i' ∧ R i' := ⟨i, rfl, q⟩
theorem i_nopart {R : Option Int → Hp → Prop} (q : R none H) : tNoPart σ H R := q
theorem i_slL {a : Addr} {xs : List V} {lo hi : Option Int} (h : SqL K H a xs) (q : ∀ p, H p = none → Q (.ref p) (upd H p (.lst (cutV xs lo hi)))) : rSlL K (.ref a) lo hi H Q := ⟨a, xs, rfl, h, q⟩
theorem i_bm {T : String} {r : V → List V → Hp → VK → Prop} {ts : TA} (q : ta σ H fun x H1 => tyV K T x H1 ∧ ts σ H1 fun xs H2 => r x xs H2 Q) : tBM K T r ta ts σ H Q := q
theorem i_append {l : Addr} {xs : List V} (h : H l = some (.lst xs)) (hl : xs.length < sizeLine) (q : Q .non (upd H l (.lst (xs ++ [y])))) : rAppend (.ref l) [y] H Q := ⟨l, xs, y, rfl, rfl, h, hl, q⟩
theorem tyL {l : Addr} {xs : List V} (h : H l = some (.lst xs)) : tyV K "list" (.ref l) H := Or.inl ⟨rfl, _, SqL.of h⟩
theorem i_chain {r r' : R2} (q : ta σ H fun x H1 => tb σ H1 fun y H2 => r x y H2 fun z H3 => ∃ k, z = .bl k ∧ (if k = true then tc σ H3 fun w' H4 => r' y w' H4 Q else Q (.bl false) H3)) : tChain r r' ta tb tc σ H Q := q
theorem i_pt {a : TT} {b : TT} {R : Bool → Hp → Prop} (q : a σ H fun c H1 => if c = true then b σ H1 R else R false H1) : tAnd a b σ H R := q
theorem i_or {a : TT} {b : TT} {R : Bool → Hp → Prop} (q : a σ H fun c H1 => if c = true then R true H1 else b σ H1 R) : tOr a b σ H R := q
theorem i_for {wi : TI} {g : TG} {tb : TS} (q : wi σ H fun J H1 => ∃ W : Nat → Nat → St → Hp → Prop, (∃ m, W 0 m σ H1) ∧ ∀ i m σ H, W i m σ H →
      (J.stop i H ∧ D.nx σ H) ∨ (J.go i H ∧ ∃ N : St → Hp → Prop, (∀ σ' H', N σ' H' → ∃ m', m' < m ∧ W (i + 1) m' σ' H') ∧ ∀ x H', J.yld i H x H' → g x σ H' fun σ2 H2 => tb { D with nx := N, ct := N, bk := D.nx } σ2 H2)) : tFor wi g tb D σ H := q
theorem i_lc {wi : TI} {g : TG} {tt : TT} {te : TE} {vs : List Nat} (q : wi σ H fun J H1 => ∀ D, H1 D = none → ∃ W : Nat → Nat → Hp → Prop, (∃ m, W 0 m (upd H1 D (.lst []))) ∧ ∀ i m H, W i m H →
      (J.stop i H ∧ Q (.ref D) H) ∨ (J.go i H ∧ ∃ N : Hp → Prop, (∀ H', N H' → ∃ m', m' < m ∧ W (i + 1) m' H') ∧ ∀ x H', J.yld i H x H' → g x (wipe σ vs) H' fun σ2 H2 => wipe σ2 vs = wipe σ vs ∧ tt σ2 H2 fun b H3 =>
        if b = true then te σ2 H3 fun y H4 => ∃ acc, H4 D = some (.lst acc) ∧ acc.length < sizeLine ∧ N (upd H4 D (.lst (acc ++ [y]))) else N H3)) : tLc wi g tt te vs σ H Q := q
theorem i_yes {R : Bool → Hp → Prop} (q : R true H) : tYes σ H R := q
theorem i_rep {l : Addr} {k : Int} {xs : List V} (h : H l = some (.lst xs)) (h0 : -(2 ^ 63) ≤ k) (h1 : k < 2 ^ 63) (hz : xs.length * k.toNat ≤ sizeLine) (q : ∀ p, H p = none → Q (.ref p) (upd H p (.lst (List.replicate k.toNat xs).flatten))) : rRep (.ref l) (.int k) H Q := ⟨l, k, xs, rfl, rfl, h, h0, h1, hz, q⟩
theorem i_pl (q : ta σ H fun x H1 => ∃ a C dx fs v, x = .ref a ∧ H1 a = some (.ins C dx fs) ∧ Cls K C ∧ NoAttr K C f ∧ fs.lookup f = some v ∧
    tb σ H1 fun y H2 => r v y H2 fun z H3 => ∃ dx' fs', H3 a = some (.ins C dx' fs') ∧ fs'.length < 1000 ∧ D.nx σ (upd H3 a (.ins C dx' (putF f z fs')))) : sFldAug K ta tb r f D σ H := q
theorem i_pl' {a C dx : Addr} {fs : List (Str × V)} {R : Addr → List (Str × V) → Prop} (h : H a = some (.ins C dx fs)) (hl : fs.length < 1000) (q : R dx fs) : ∃ dx' fs', H a = some (.ins C dx' fs') ∧ fs'.length < 1000 ∧ R dx' fs' := ⟨dx, fs, h, hl, q⟩
theorem i_rAdd {i j : Int} (q : Q (.int (i + j)) H) : rAdd (.int i) (.int j) H Q := ⟨i, j, rfl, rfl, q⟩
theorem i_listOf {p : Addr} {ys : List V} (h : SqL K H p ys) (q : ∀ l, H l = none → Q (.ref l) (upd H l (.lst ys))) : rListOf K [.ref p] H Q := ⟨p, ys, rfl, .inl h, q⟩
theorem i_intB {b : Bool} (q : Q (.int (if b then 1 else 0)) H) : rIntB [.bl b] H Q := ⟨b, rfl, q⟩
theorem i_in {p : Addr} {xs : List V} {neg : Bool} (h : SqL K H p xs ∨ SqT K H p xs) (hf : flatV x = true) (ha : xs.all flatV = true) (q : Q (.bl (if neg then !inV x xs else inV x xs)) H) : rIn K neg x (.ref p) H Q := ⟨p, xs, rfl, h, hf, ha, q⟩
theorem i_cutH {te : TE} (P : V → Hp → Prop) (rest : ∀ x H', P x H' → Q x H') (q : (∀ x H', P x H' → Q x H') → te σ H Q) : te σ H Q := q rest
theorem i_cutB {c : TT} {R : Bool → Hp → Prop} (b : Bool) (P : Hp → Prop) (rest : ∀ H', P H' → R b H') (q : (∀ H', P H' → R b H') → c σ H R) : c σ H R := q rest
theorem i_par3 {i j l : Nat} {ts : TA} (q : ts σ H fun vs H1 => ∃ u v w, vs = [u, v, w] ∧ D.nx (((σ.set i (some u)).set j (some v)).set l (some w)) H1) : tPar3 i j l ts D σ H := q
theorem i_par3' {z : V} {R : V → V → V → Prop} (q : R x y z) : ∃ u v w, [x, y, z] = [u, v, w] ∧ R u v w := ⟨x, y, z, rfl, q⟩
theorem i_par {i j : Nat} {ts : TA} (q : ts σ H fun vs H1 => ∃ v w, vs = [v, w] ∧ D.nx ((σ.set i (some v)).set j (some w)) H1) : tPar i j ts D σ H := q
theorem i_par' {R : V → V → Prop} (q : R x y) : ∃ v w, [x, y] = [v, w] ∧ R v w := ⟨x, y, rfl, q⟩
theorem i_lrg {te : L2.St → Hp → (Int → Int → Hp → Prop) → Prop} (q : te σ H fun a b H1 => RgOk a b ∧ ∀ q, H1 q = none → Q (.ref q) (upd H1 q (.lst (rgV a b)))) : tLstRg te σ H Q := q
theorem i_rg1 {R : Int → Int → Hp → Prop} (q : ta σ H fun x H1 => ∃ n, x = .int n ∧ R 0 n H1) : tRg1 ta σ H R := q
theorem i_rg1' {n : Int} {R : Int → Prop} (q : R n) : ∃ n', V.int n = .int n' ∧ R n' := ⟨n, rfl, q⟩
theorem i_sorted {a : Addr} {ns : List Int} (h : SqL K H a (ns.map V.int)) (q : ∀ (ns' : List Int) (p : Addr), ns'.Perm ns → ns'.Pairwise (· ≤ ·) → H p = none → Q (.ref p) (upd H p (.lst (ns'.map V.int)))) : rSortedI K [.ref a] H Q := ⟨a, ns, rfl, h, q⟩
theorem i_gtup {a : Addr} {xs : List V} {n : Nat} {g : TGs} {R : St → Hp → Prop} (h : SqT K H a xs) (l : xs.length = n) (q : g xs σ H R) : gTup K n g (.ref a) σ H R := ⟨a, xs, rfl, h, l, q⟩
theorem i_gcons {g : TG} {gs : TGs} {vs : List V} {R : St → Hp → Prop} (q : g v σ H fun σ' H' => gs vs σ' H' R) : gCons g gs (v :: vs) σ H R := ⟨v, vs, rfl, q⟩
theorem i_gnil {R : St → Hp → Prop} (q : R σ H) : gNil [] σ H R := ⟨rfl, q⟩
theorem i_bm' {l : Addr} {xs : List V} {R : Prop} (h : H l = some (.lst xs)) (q : R) : tyV K "list" (.ref l) H ∧ R := ⟨tyL h, q⟩
theorem i_rng1 {ts : TA} {R : It → Hp → Prop} (q : ts σ H fun vs H1 => ∃ j : Int, vs = [.int j] ∧ -(2 ^ 62) ≤ j ∧ j < 2 ^ 62 ∧ R (Itr 0 j.toNat) H1) : iRng1 ts σ H R := q
theorem i_rng1' {j : Int} {R : Int → Prop} (h0 : -(2 ^ 62) ≤ j) (h1 : j < 2 ^ 62) (q : R j) : ∃ j' : Int, [V.int j] = [.int j'] ∧ -(2 ^ 62) ≤ j' ∧ j' < 2 ^ 62 ∧ R j' := ⟨j, rfl, h0, h1, q⟩
theorem i_rng2 {ts : TA} {R : It → Hp → Prop} (q : ts σ H fun vs H1 => ∃ i j : Int, vs = [.int i, .int j] ∧ (-(2 ^ 62) ≤ i ∧ i < 2 ^ 62 ∧ -(2 ^ 62) ≤ j ∧ j < 2 ^ 62) ∧ R (Itr i (j - i).toNat) H1) : iRng2 ts σ H R := q
theorem i_rng2' {i j : Int} {R : Int → Int → Prop} (h : -(2 ^ 62) ≤ i ∧ i < 2 ^ 62 ∧ -(2 ^ 62) ≤ j ∧ j < 2 ^ 62) (q : R i j) : ∃ i' j' : Int, [V.int i, V.int j] = [.int i', .int j'] ∧ (-(2 ^ 62) ≤ i' ∧ i' < 2 ^ 62 ∧ -(2 ^ 62) ≤ j' ∧ j' < 2 ^ 62) ∧ R i' j' := ⟨i, j, rfl, h, q⟩
theorem i_rng3 {ts : TA} {R : It → Hp → Prop} (q : ts σ H fun vs H1 => ∃ (i j c : Int) (n : Nat), vs = [.int i, .int j, .int c] ∧ RgC i j c n ∧ R (Itc i c n) H1) : iRng3 ts σ H R := q
theorem i_rng3' {i j c : Int} {n : Nat} {R : Int → Int → Int → Nat → Prop} (h : RgC i j c n) (q : R i j c n) : ∃ (i' j' c' : Int) (n : Nat), [V.int i, V.int j, V.int c] = [.int i', .int j', .int c'] ∧ RgC i' j' c' n ∧ R i' j' c' n := ⟨i, j, c, n, rfl, h, q⟩
theorem i_enum {ts : TA} {R : It → Hp → Prop} (q : ts σ H fun vs H1 => ∃ a xs, vs = [.ref a] ∧ SqL K H1 a xs ∧ R (Ite K a) H1) : iEnum K ts σ H R := q
theorem i_enum' {a : Addr} {xs : List V} {R : Addr → Prop} (h : SqL K H a xs) (q : R a) : ∃ a' xs, [V.ref a] = [.ref a'] ∧ SqL K H a' xs ∧ R a' := ⟨a, xs, rfl, h, q⟩
theorem i_rev {ts : TA} {R : It → Hp → Prop} (q : ts σ H fun vs H1 => ∃ (a : Addr) (xs : List V), vs = [.ref a] ∧ SqL K H1 a xs ∧ R (Itv K a xs.length) H1) : iRev K ts σ H R := q
theorem i_rev' {a : Addr} {xs : List V} {R : Addr → List V → Prop} (h : SqL K H a xs) (q : R a xs) : ∃ (a' : Addr) (xs : List V), [V.ref a] = [.ref a'] ∧ SqL K H a' xs ∧ R a' xs := ⟨a, xs, rfl, h, q⟩
theorem i_plist {R : It → Hp → Prop} (q : ta σ H fun x H1 => ∃ a, x = .ref a ∧ (∃ xs, SqL K H1 a xs) ∧ R (Itl K a) H1) : iList K ta σ H R := q
theorem i_plist' {a : Addr} {xs : List V} {R : Addr → Prop} (h : SqL K H a xs) (q : R a) : ∃ a', V.ref a = .ref a' ∧ (∃ xs, SqL K H a' xs) ∧ R a' := ⟨a, rfl, ⟨xs, h⟩, q⟩
theorem i_ptup {R : It → Hp → Prop} (q : ta σ H fun x H1 => ∃ a, x = .ref a ∧ (∃ xs, SqT K H1 a xs) ∧ R (Itt K a) H1) : iTup K ta σ H R := q
theorem i_ptup' {a : Addr} {xs : List V} {R : Addr → Prop} (h : SqT K H a xs) (q : R a) : ∃ a', V.ref a = .ref a' ∧ (∃ xs, SqT K H a' xs) ∧ R a' := ⟨a, rfl, ⟨xs, h⟩, q⟩
end
/-! ### heaps: what stood stands -/
section
variable {H H' H2 : Hp} {a p : Addr} {o u : HO}
theorem upd_new (n : H p = none) (h : H a = some u) : upd H p o a = some u := (upd_ne (ne_of_none h n)).trans h
theorem Same.get (s : Same H H') (h : H a = some u) : H' a = some u := s _ _ h
theorem same_own (s : Same H H') (n : H p = none) : Same H (upd H' p o) := fun b v e => by rw [upd_ne (ne_of_none e n)]; exact s b v e
theorem same_of (e : upd H p o = H') (n : H p = none) : Same H H' := e ▸ same_new n
theorem at_of (e : upd H p o = H') : H' p = some o := e ▸ upd_same
theorem Same.sqL {K : PySem.W.Frag} {xs : List V} (s : Same H H') (h : SqL K H a xs) : SqL K H' a xs := s.seq h
theorem Same.sqT {K : PySem.W.Frag} {xs : List V} (s : Same H H') (h : SqT K H a xs) : SqT K H' a xs := by
  refine h.imp (fun rd => ?_) id
  exact rd.imp (s _ _) fun fz => fz.elim fun o k => ⟨o, s _ _ k⟩
theorem lay_and {n : Nat} {R : Addr → Prop} (h : n ≤ sizeLine) (q : ∀ p, R p) : n ≤ sizeLine ∧ ∀ p, R p := ⟨h, q⟩
theorem take_succ_of {α : Type} {l : List α} {i : Nat} {x : α} (h : l[i]? = some x) : l.take (i + 1) = l.take i ++ [x] := by
  rw [List.take_add_one, h]
  rfl
theorem rep_ints (n : Nat) (z : Int) : (List.replicate n [V.int z]).flatten = (List.replicate n z).map V.int := by
  induction n with
  | zero => rfl
  | succ n ih => rw [List.replicate_succ, List.replicate_succ, List.flatten_cons, ih]; rfl
theorem map_set_int (ns : List Int) (j : Nat) (z : Int) : (ns.map V.int).set j (.int z) = (ns.set j z).map V.int := by rw [List.map_set]
theorem ixN_of {n : Nat} {i : Int} {j : Nat} (e : i = (j : Int)) (h : j < n) : ixN n i = some j := by
  unfold ixN
  rw [if_pos (by omega), if_pos (by omega), e]
  rfl
theorem cut_take {xs : List V} {q : Nat} (h : q ≤ xs.length) : cutV xs none (some (q : Int)) = xs.take q := by
  unfold cutV
  rw [HT.sIx_none, HT.sIx_nat, List.drop_zero, Nat.min_eq_left h]
  rfl
theorem cut_take' {xs : List V} {q : Nat} (h : xs.length ≤ q) : cutV xs none (some (q : Int)) = xs := by
  unfold cutV
  rw [HT.sIx_none, HT.sIx_nat, List.drop_zero, Nat.min_eq_right h]
  exact List.take_length
theorem rgV0 (n : Int) : rgV 0 n = ((List.range n.toNat).map fun (i : Nat) => (i : Int)).map V.int := by
  unfold rgV
  rw [List.map_map, Int.sub_zero]
  exact List.map_congr_left fun i _ => by show V.int (0 + (i : Int)) = V.int i; rw [Int.zero_add]
theorem mig {ns : List Int} {i : Nat} {z : V} (h : (ns.map V.int)[i]? = some z) : z = V.int (ns.getD i 0) ∧ i < ns.length := by
  rw [List.getElem?_map] at h
  cases e : ns[i]? with
  | none => simp [e] at h
  | some y =>
    rw [e] at h
    rw [show ns.getD i 0 = y by simp [List.getD_eq_getElem?_getD, e]]
    exact ⟨(Option.some.inj h).symm, (List.getElem?_eq_some_iff.mp e).1⟩
theorem mig' {ns : List Int} {i : Nat} (h : i < ns.length) : (ns.map V.int)[i]? = some (V.int (ns.getD i 0)) := by
  rw [List.getElem?_map, List.getD_eq_getElem?_getD, List.getElem?_eq_getElem h]
  rfl
theorem lt_of_len {α : Type} {l : List α} {k n : Nat} (h : l.length = k) (hk : k < n) : l.length < n := h ▸ hk
theorem But.same {a : Addr} (k : But a H H') (n : H2 a = none) (s : Same H2 H) : Same H2 H' := fun b v e => k b v (s b v e) (ne_of_none e n)
end
/-! ### lists of ints as data -/
theorem eqvAll_ints (ns : List Int) : ∀ ms : List Int, PyData.eqvAll (ns.map .int) (ms.map .int) = decide (ns = ms) := by
  induction ns with
  | nil => intro ms; cases ms <;> simp [PyData.eqvAll]
  | cons n r ih =>
    intro ms
    cases ms with
    | nil => simp [PyData.eqvAll]
    | cons m s =>
      have := ih s
      by_cases h : n = m <;> simp [PyData.eqvAll, PyData.eqv, this, h]
theorem eqv_ints (ns ms : List Int) : PyData.eqv (.list (ns.map .int)) (.list (ms.map .int)) = decide (ns = ms) := by
  rw [← eqvAll_ints]
  simp only [PyData.eqv]
theorem dpAll_ints {K : PySem.W.Frag} {H : Hp} : ∀ (ns : List Int), DpAll K H (ns.map V.int) (ns.map PyData.int)
  | [] => .nil
  | n :: r => .cons (.int n) (dpAll_ints r)
theorem sh_ints (ns : List Int) : SeqAt.shaped (.list (ns.map PyData.int)) = true := PySem.W.shaped_ints ns
section
variable {K : PySem.W.Frag} {H : Hp} {Q : VK}
/-- two lists of ints, != -/
theorem i_neInts {a b : Addr} {ns ms : List Int} (h : SqL K H a (ns.map V.int)) (g : SqL K H b (ms.map V.int)) (q : Q (.bl (!decide (ns = ms))) H) : rNeD K (.ref a) (.ref b) H Q :=
  ⟨_, _, .lst h (dpAll_ints ns), .lst g (dpAll_ints ms), sh_ints ns, sh_ints ms, by rw [eqv_ints]; exact q⟩
theorem i_eqInts {a b : Addr} {ns ms : List Int} (h : SqL K H a (ns.map V.int)) (g : SqL K H b (ms.map V.int)) (q : Q (.bl (decide (ns = ms))) H) : rEqD K (.ref a) (.ref b) H Q :=
  ⟨_, _, .lst h (dpAll_ints ns), .lst g (dpAll_ints ms), sh_ints ns, sh_ints ms, by rw [eqv_ints]; exact q⟩
end
end U

set_option Elab.async false
set_option linter.all false
set_option maxRecDepth 100000
set_option maxHeartbeats 4000000
namespace U
open PySem PySem.Spec PyProof.Rows L2
/-- what stands, stands -/
def Stays (h g : Heap) : Prop := ∀ b o, h.get? b = some o → g.get? b = some o
theorem Stays.rfl {h : Heap} : Stays h h := fun _ _ e => e
theorem Stays.trans {h g k : Heap} (x : Stays h g) (y : Stays g k) : Stays h k := fun b o e => y b o (x b o e)
theorem Stays.push {h : Heap} {o : Obj} : Stays h (h.push o) := fun _ _ e => Heap.get?_push_of_some _ e
theorem hot_stays {A : Around} {x1 : Addr} {h g : Heap} (hot : HotX.HotAt A x1 h) (k : Stays h g) : HotX.HotAt A x1 g := ⟨hot.1, hot.2.elim fun o p => ⟨o, p.elim fun vs q => ⟨vs, k _ _ q.1, q.2⟩⟩⟩
section
variable {prog : Program} {w : World} {A : Around} {E : Value → Shared → Prop} {s : Shared}
/-- a StopIteration, just made, is raised while x1 is handled -/
theorem stop_hot {α : Type} {x1 : Addr} {h : Heap} {tp : Obj} {vs : Array Value} {Q : α → Shared → Prop} (hot : HotX.HotAt A x1 h) (three : 2 < vs.size)
    (go : ∀ g e, Stays h g → (∃ o b, e = .ref b ∧ g.get? b = some o ∧ o.cls = .type "StopIteration") → E e { s with heap := g }) :
    wpAny (model prog w) A (raiseNew (.ref (h.push tp).objs.size) : Sem α) Q E { s with heap := (h.push tp).push { cls := .type "StopIteration", data := .fields vs } } := by
  have two : Stays h (h.push tp) := .push
  have old : x1 ≠ (h.push tp).objs.size := by
    have ⟨_, o, vs, k, _⟩ := hot_stays hot two
    exact Nat.ne_of_lt (Heap.lt_size k)
  refine HotX.raiseNew_hot (hot_stays hot (two.trans .push)) old (Heap.get?_push_size _ rfl) rfl three (go _ _ ?_ ⟨_, _, rfl, Heap.get?_update_self _ (Heap.get?_push_size _ rfl) rfl, rfl⟩)
  intro b o k
  have lt : b < (h.push tp).objs.size := Heap.lt_size (two b o k)
  rw [Heap.get?_update_ne _ _ _ _ (Nat.ne_of_lt lt)]
  exact (two.trans .push) b o k
/-- __next__ of an iterator, by the call of its slot -/
theorem next_by {it : Addr} {T id : String} {Q : Option Value → Shared → Prop} (is : s.TypeIs (.ref it) T) (sl : Slot T (Str.ofString "__next__") id)
    (h : wpAny (model prog w) A (call (.builtin id) [.ref it]) (fun v => Q (some v)) (fun e s1 => (∃ o b, e = .ref b ∧ s1.heap.get? b = some o ∧ o.cls = .type "StopIteration") ∧ Q none s1) s) : wpAny (model prog w) A (pyNext (.ref it)) Q E s := by
  unfold pyNext
  refine wpAny_bind (wpAny_attempt (wpAny_callSpecial?_slot is sl (wpAny_mono h (fun v s1 q => wpAny_pure q) ?_)))
  rintro e s1 ⟨⟨o, b, rfl, k, c⟩, q⟩
  wp_walk
  rw [c, isSubtype_stop]
  exact wpAny_pure (wpAny_pure q)
theorem tuple_end_hot {x1 it t : Addr} {i : Nat} {items : Array Value} {Q : Option Value → Shared → Prop} (hot : HotX.HotAt A x1 s.heap) (apart : x1 ≠ it) (hit : s.heap.IsTupleIter it t i) (ht : s.heap.IsTuple t items) (out : items[i]? = none)
    (go : ∀ g, Heap.ExtBut it s.heap g → Q none { s with heap := g }) : wpAny (model prog w) A (pyNext (.ref it)) Q E s := by
  rcases hit with ⟨⟨c, d, sl⟩, here, hc, hd⟩
  rcases ht with ⟨⟨c2, d2, sl2⟩, there, hc2, n, hd2⟩
  cases hc
  cases hd
  cases hc2
  cases hd2
  have is : s.TypeIs (.ref it) "tuple_iterator" := ⟨_, here, rfl⟩
  refine next_by is F.slot_tuple_iterator_next (wpAny_call_entry F.slot_tuple_iterator_next is F.entry_tuple_iterator_next ?_ (F.args_tuple_iterator_next_1 _))
  unfold Builtin.«tuple_iterator.__next__»
  wp_walk
  rw [show ((i : Int)).toNat = i from Int.toNat_natCast i, out]
  wp_walk
  have mid : Heap.SameBut it s.heap (s.heap.update it (Obj.mapFields fun x => x.setIfInBounds 0 Value.none)) := .update _ _ _
  refine stop_hot (x1 := x1) (h := s.heap.update it (Obj.mapFields fun x => x.setIfInBounds 0 Value.none)) ⟨hot.1, ?_⟩ ?_ fun g e k is => ⟨is, go g fun b o nb e => k _ _ (mid.extBut b o nb e)⟩
  · rcases hot.2 with ⟨o, vs, e, r⟩
    exact ⟨o, vs, mid.extBut _ _ apart e, r⟩
  · rw [Array.size_append]
    exact Nat.lt_of_lt_of_le (show 2 < 6 by decide) (Nat.le_add_right _ _)
theorem list_end_hot {x1 it t : Addr} {i : Nat} {items : Array Value} {Q : Option Value → Shared → Prop} (hot : HotX.HotAt A x1 s.heap) (apart : x1 ≠ it) (hit : s.heap.IsListIter it t i) (ht : s.heap.IsList t items) (out : items[i]? = none)
    (go : ∀ g, Heap.ExtBut it s.heap g → Q none { s with heap := g }) : wpAny (model prog w) A (pyNext (.ref it)) Q E s := by
  rcases hit with ⟨⟨c, d, sl⟩, here, hc, hd⟩
  rcases ht with ⟨⟨c2, d2, sl2⟩, there, hc2, n, hd2⟩
  cases hc
  cases hd
  cases hc2
  cases hd2
  have is : s.TypeIs (.ref it) "list_iterator" := ⟨_, here, rfl⟩
  refine next_by is slot_listiter_next (wpAny_call_entry slot_listiter_next is entry_listiter_next ?_ (args_listiter_next _))
  unfold Builtin.«list_iterator.__next__»
  wp_walk
  rw [show ((i : Int)).toNat = i from Int.toNat_natCast i, out]
  wp_walk
  have mid : Heap.SameBut it s.heap (s.heap.update it (Obj.mapFields fun x => x.setIfInBounds 0 Value.none)) := .update _ _ _
  refine stop_hot (x1 := x1) (h := s.heap.update it (Obj.mapFields fun x => x.setIfInBounds 0 Value.none)) ⟨hot.1, ?_⟩ ?_ fun g e k is => ⟨is, go g fun b o nb e => k _ _ (mid.extBut b o nb e)⟩
  · rcases hot.2 with ⟨o, vs, e, r⟩
    exact ⟨o, vs, mid.extBut _ _ apart e, r⟩
  · rw [Array.size_append]
    exact Nat.lt_of_lt_of_le (show 2 < 6 by decide) (Nat.le_add_right _ _)
/-- a tuple unpacked into as many names while an exception is handled: all that stood stands -/
theorem unpack_hot {x1 t : Addr} {items : Array Value} {Q : List Value → Shared → Prop} (hot : HotX.HotAt A x1 s.heap) (ht : s.heap.IsTuple t items) (go : ∀ g, Stays s.heap g → Q items.toList { s with heap := g }) :
    wpAny (model prog w) A (unpackItems (.ref t) items.size none) Q E s := by
  have is : s.TypeIs (.ref t) "tuple" := ht.elim fun o p => ⟨o, p.1, p.2.1⟩
  have before : t < s.heap.objs.size ∧ x1 < s.heap.objs.size := ⟨ht.elim fun _ p => Heap.lt_size p.1, hot.2.elim fun _ p => p.elim fun _ q => Heap.lt_size q.1⟩
  unfold unpackItems notIterableAtAll
  wp_walk
  rw [F.slot_tuple_iter.lookup]
  refine wpAny_pure ?_
  rw [if_pos (show (some (Value.builtin "tuple.__iter__")).isSome = true from rfl)]
  refine wpAny_pure ?_
  rw [if_neg Bool.false_ne_true]
  refine wpAny_bind (wpAny_holding (wpAny_pyIter_tuple ht ?_))
  dsimp only
  have hit : ({ s with heap := s.heap.push { cls := .type "tuple_iterator", data := .fields #[.ref t, .int 0 0] } } : Shared).heap.IsTupleIter s.heap.objs.size t 0 := ⟨_, Heap.get?_push_size _ rfl, rfl, rfl⟩
  refine wpAny_bind (wpAny_holding (wpAny_draw_tuple (Nat.ne_of_lt before.1) items.size 0 _ _ hit (ht.push _) (by omega) fun g spent same => ?_))
  have all : (items.toList.drop 0).take items.size = items.toList := by rw [List.drop_zero, ← Array.length_toList, List.take_length]
  rw [all, Array.length_toList]
  rw [if_neg (Nat.lt_irrefl _)]
  have stood : ∀ b o, s.heap.get? b = some o → g.get? b = some o := fun b o k => same.extBut b o (Nat.ne_of_lt (Heap.lt_size k)) (Heap.get?_push_of_some _ k)
  have ht2 : g.IsTuple t items := ht.elim fun o p => ⟨o, stood _ _ p.1, p.2⟩
  have none_ : items[0 + items.size]? = none := Array.getElem?_eq_none (by omega)
  refine wpAny_bind (wpAny_holding (tuple_end_hot (hot_stays hot stood) (Nat.ne_of_lt before.2) spent ht2 none_ fun g' ex => ?_))
  rw [if_neg (show ¬ (Option.none : Option Value).isSome = true from Bool.false_ne_true)]
  exact wpAny_pure (go g' fun b o k => ex b o (Nat.ne_of_lt (Heap.lt_size k)) (stood b o k))
/-- a, b = a pair (two local names), while an exception is handled -/
theorem pair_hot {x1 t : Addr} {env : Env} {a b : Str} {pa pb tp : Pos} {kk : Nat} {u v : Value} {m : Str → Option Value} {Q : Unit → Shared → Prop} (hot : HotX.HotAt A x1 s.heap) (ht : s.heap.IsTuple t #[u, v]) (ns : s.heap.Ns env.locals m)
    (la : env.kindOf a = some .local) (lb : env.kindOf b = some .local) (plain : (env.scope.kind == .class || (env.scope.kind == .module && env.locals != env.globals)) = false)
    (go : ∀ g tk, g.Ns env.locals (fun x => if x = b then some v else if x = a then some u else m x) → Heap.ExtBut env.locals s.heap g → s.toks ≤ tk → Q () { s with heap := g, toks := tk }) :
    wpAny (model prog w) A (assign (.Tuple [.Name a pa, .Name b pb] kk tp) env (.ref t)) Q E s := by
  rw [assign_Tuple]
  refine wpAny_bind (wpAny_standAt ?_)
  unfold unpack
  refine wpAny_bind (wpAny_holding (unpack_hot (items := #[u, v]) hot ht fun g k => ?_))
  refine assignInOrder_cons (wpAny_assign_Name (wpAny_storeName_local la (ns.keeps k) (fun g1 n1 b1 => ?_) plain))
  refine assignInOrder_cons (wpAny_assign_Name (wpAny_storeName_local lb n1 (fun g2 n2 b2 => ?_) plain))
  refine assignInOrder_nil (go _ _ n2 (fun c o ne e => b2.extBut c o ne (b1.extBut c o ne (k c o e))) (by show s.toks ≤ s.toks + 1 + 1; omega))
/-- a list of references walked with several names as target, while x1 is handled -/
theorem goes_hot {x1 l I : Addr} {items : Array Value} {elts : List Expr} {kk : Nat} {tp : Pos} (n1 : l ≠ I) (n2 : x1 ≠ I) (refs : ∀ (i : Nat) v, items[i]? = some v → ∃ T, v = .ref T) :
    Goes prog w A (.Tuple elts kk tp) I [I, l, x1] [I] items.size (fun i v _ => items[i]? = some v) (fun i h => h.IsListIter I l i ∧ h.IsList l items ∧ HotX.HotAt A x1 h) where
  sub b m := List.mem_singleton.mp m ▸ List.mem_cons_self
  frame i h h' st k := ⟨st.1.at fun o e => k I List.mem_cons_self o e, st.2.1.at fun o e => k l (List.mem_cons_of_mem _ List.mem_cons_self) o e,
    st.2.2.1, st.2.2.2.elim fun o p => ⟨o, p.elim fun vs q => ⟨vs, k x1 (List.mem_cons_of_mem _ (List.mem_cons_of_mem _ List.mem_cons_self)) _ q.1, q.2⟩⟩⟩
  goes i s Q E lt st go := by
    rcases st with ⟨it, li, hot⟩
    have at_ : items[i]? = some items[i] := Array.getElem?_eq_getElem lt
    refine wpAny_pyNext_list_item it li at_ fun g it2 same => ⟨_, rfl, ?_⟩
    rcases refs i _ at_ with ⟨T, eT⟩
    have keep : ∀ b o, b ∉ [I] → s.heap.get? b = some o → g.get? b = some o := fun b o nm e => same.extBut b o (fun z => nm (z ▸ List.mem_cons_self)) e
    have st2 : g.IsListIter I l (i + 1) ∧ g.IsList l items ∧ HotX.HotAt A x1 g := ⟨it2, li.at fun o e => same.extBut l o n1 e, hot.1, hot.2.elim fun o p => ⟨o, p.elim fun vs q => ⟨vs, same.extBut _ _ n2 q.1, q.2⟩⟩⟩
    rw [eT]
    exact wpAny_letOwnedTupleGo_listiter it2 (go _ g s.toks (by rw [← eT]; exact at_) st2 keep (Nat.le_refl _))
  stops s Q E st go := list_end_hot st.2.2 n2 st.1 st.2.1 (Array.getElem?_eq_none (Nat.le_refl _)) fun g ex => ⟨rfl, go g s.toks (fun b o nm e => ex b o (fun z => nm (z ▸ List.mem_cons_self)) e) (Nat.le_refl _)⟩
  self i s Q E st q := wpAny_pyIter_listiter st.1 q
end
section
variable {M : Model} {A : Around} {E : Value → Shared → Prop} {s : Shared} {env : Env}
/-- one test, of a local name that holds a truth value -/
theorem test_name {b : Str} {pb : Pos} {m : Str → Option Value} {k : Bool} {Q : Bool → Shared → Prop} (kind : env.scope.kind = .function) (lb : env.kindOf b = some .local) (ns : s.heap.Ns env.locals m) (hv : m b = some (.bool k)) (nd : (b == ("__debug__" : Str)) = false) (q : Q k s) :
    wpAny M A (testsOf [.Name b pb] env) Q E s := by
  have one : wpAny M A (isTrue (.Name b pb) env (eval (.Name b pb) env)) Q E s := wpAny_isTrue_value (wpAny_Name (wpAny_loadName_local kind lb ns hv (wpAny_truthy_bool q)) nd)
  show wpAny M A (forIn [Expr.Name b pb] true _) Q E s
  simp only [List.forIn_cons, List.forIn_nil, if_pos]
  refine wpAny_bind (wpAny_bind (wpAny_mono one (fun ok s1 h => wpAny_pure ?_) fun _ _ x => x))
  exact wpAny_pure h
end
/-! ### [a for a, b in pairs if b], while an exception is handled -/
/-- a list of new pairs of a text and a truth value -/
def Pairs (K : PySem.W.Frag) (H : Hp) (p : Addr) (ws : List (Str × Bool)) : Prop := ∃ xs : List V, SqL K H p xs ∧ xs.length = ws.length ∧ ∀ (i : Nat) (w : Str × Bool), ws[i]? = some w → ∃ t, xs[i]? = some (.ref t) ∧ H t = some (.tup [.str w.1, .bl w.2])
def picked (ws : List (Str × Bool)) : List V := (ws.filter (·.2)).map fun w => .str w.1
def tPick (K : PySem.W.Frag) (te : TE) : TE := fun σ H Q => te σ H fun x H1 => ∃ p ws, x = .ref p ∧ Pairs K H1 p ws ∧ ∀ q, H1 q = none → Q (.ref q) (upd H1 q (.lst (picked ws)))
theorem picked_succ {ws : List (Str × Bool)} {i : Nat} {w : Str × Bool} (h : ws[i]? = some w) : picked (ws.take (i + 1)) = picked (ws.take i) ++ (if w.2 = true then [.str w.1] else []) := by
  unfold picked
  rw [take_succ_of h, List.filter_append, List.map_append]
  cases e : w.2 <;> simp [e]
theorem picked_le (ws : List (Str × Bool)) : (picked ws).length ≤ ws.length := by
  unfold picked
  rw [List.length_map]
  exact List.length_filter_le ..
theorem pe_pickH {X : Cx} {iter : Expr} {te : TE} {a b : Str} {pa pb pa2 pb2 tp pos : Pos} {kk : Nat} {scope : Scope} {cl : List (Str × Addr)} (hc : L2H.HotC X) (he : PE X iter te) (clos : closureFor scope X.env = pure cl) (cells : ∀ y ∈ scope.names, y.2 ≠ .cell)
    (kind : scope.kind = .function) (names : ∀ y ∈ scope.names, y.2 = .local → scope.names.lookup y.1 = some .local) (la : scope.names.lookup a = some .local) (lb : scope.names.lookup b = some .local) (ne : a ≠ b) (na : (a == ("__debug__" : Str)) = false) (nb : (b == ("__debug__" : Str)) = false)
    (fold : ∀ x, foldedSetIterable iter X.env x = pure x) : PE X (.ListComp (.Name a pa2) [⟨.Tuple [.Name a pa, .Name b pb] kk tp, iter, [.Name b pb2], 0⟩] scope pos) (tPick X.K te) where
  run pins s σ H Q I h := by
    refine ListComp_goes clos cells kind names (thn (he.run pins s σ H _ I h) ?_) fold
    rintro xv s1 ⟨x, H1, I1, rx, p, ws, rfl, ⟨xs, sq, len, each⟩, q⟩
    cases rx
    obtain ⟨its, vs, plain, size⟩ := I1.list sq
    obtain ⟨x1, hot⟩ := hc.at I1
    have len2 : its.length = ws.length := vs.length.symm.trans len
    refine wpAny_pyIter_list plain.isList ?_
    have pOld : p < s1.heap.objs.size := plain.isList.elim fun _ k => Heap.lt_size k.1
    have xOld : x1 < s1.heap.objs.size := hot.2.elim fun _ k => k.elim fun _ k => Heap.lt_size k.1
    have grown : Stays s1.heap (s1.heap.push { cls := .type "list_iterator", data := .fields #[.ref p, .int 0 0] }) := .push
    -- each item: a pair
    have pair : ∀ (i : Nat) v, its.toArray[i]? = some v → ∃ t w tk, v = .ref t ∧ ws[i]? = some w ∧ s1.heap.IsTuple t #[.str w.1 tk, .bool w.2] := by
      intro i v k
      have k' : its[i]? = some v := by simpa using k
      have lt : i < ws.length := len2 ▸ (List.getElem?_eq_some_iff.mp k').1
      obtain ⟨t, xt, ht⟩ := each i _ (List.getElem?_eq_getElem lt)
      obtain ⟨u, eu, ru⟩ := vs.get xt
      have same : v = u := Option.some.inj (k'.symm.trans eu)
      obtain ⟨us, vu, isT, _⟩ := I1.tuple (SqT.of ht)
      cases ru
      rcases vu with _ | ⟨⟨tk, r1⟩, _ | ⟨r2, _ | _⟩⟩
      cases r1
      cases r2
      exact ⟨t, ws[i], tk, same, List.getElem?_eq_getElem lt, isT⟩
    have refs : ∀ (i : Nat) v, its.toArray[i]? = some v → ∃ T, v = .ref T := fun i v k => (pair i v k).elim fun t r => r.elim fun _ r => r.elim fun _ r => ⟨t, r.1⟩
    refine ⟨_, _, _, _, _, _, rfl, goes_hot (x1 := x1) (Nat.ne_of_lt pOld) (Nat.ne_of_lt xOld) refs, ?_, ⟨⟨_, Heap.get?_push_size _ rfl, rfl, rfl⟩, plain.isList.elim fun o k => ⟨o, grown _ _ k.1, k.2⟩, hot_stays hot grown⟩, ?_, ?_⟩
    · rw [List.size_toArray, len2, ← len]
      exact size
    · intro c m
      rw [show ({ s1 with heap := s1.heap.push { cls := .type "list_iterator", data := .fields #[.ref p, .int 0 0] } } : Shared).heap.objs.size = s1.heap.objs.size + 1 from Array.size_push _]
      rcases List.mem_cons.mp m with m | m
      · exact m ▸ Nat.lt_succ_self _
      rcases List.mem_cons.mp m with m | m
      · exact m ▸ Nat.lt_succ_of_lt pOld
      · exact List.mem_singleton.mp m ▸ Nat.lt_succ_of_lt xOld
    rintro D C s3 ⟨⟨h3, tk3, rfl⟩, old, newD, newC, neDC, nsC⟩
    have sz : ({ s1 with heap := s1.heap.push { cls := .type "list_iterator", data := .fields #[.ref p, .int 0 0] } } : Shared).heap.objs.size = s1.heap.objs.size + 1 := Array.size_push _
    rw [sz] at newD newC
    have offD : ∀ c o, s1.heap.get? c = some o → c ≠ D := fun c o k => Nat.ne_of_lt (Nat.lt_of_lt_of_le (Nat.lt_succ_of_lt (Heap.lt_size k)) newD)
    have offC : ∀ c o, s1.heap.get? c = some o → c ≠ C := fun c o k => Nat.ne_of_lt (Nat.lt_of_lt_of_le (Nat.lt_succ_of_lt (Heap.lt_size k)) newC)
    have offI : ∀ c o, s1.heap.get? c = some o → c ≠ s1.heap.objs.size := fun c o k => Nat.ne_of_lt (Heap.lt_size k)
    have neCI : C ≠ s1.heap.objs.size := Nat.ne_of_gt newC
    refine ⟨fun i ys s' => (∃ g tk, s' = { s1 with heap := g, toks := tk } ∧ Stays s1.heap g ∧ ∃ m, g.Ns C m) ∧ Vals (picked (ws.take i)) ys, ⟨⟨h3, tk3, rfl, grown.trans old, _, nsC⟩, .nil⟩, ?_, ?_, ?_⟩
    · rintro i ys _ g' tk ⟨⟨g, tk0, rfl, st, m, ns⟩, v⟩ but more
      refine ⟨⟨g', tk, rfl, fun c o k => but c o ?_ (st c o k), m, ns.at' fun o k => but C o ?_ k⟩, v⟩
      · intro z
        rcases List.mem_cons.mp z with z | z
        · exact offD c o k z
        · exact offI c o k (List.mem_singleton.mp z)
      · intro z
        rcases List.mem_cons.mp z with z | z
        · exact neDC z.symm
        · exact neCI (List.mem_singleton.mp z)
    · rintro i v ys _ lt at_ ⟨it2, li2, hot2⟩ ⟨⟨g, tk0, rfl, st, m, ns⟩, vals⟩ pl
      obtain ⟨t, w, tk, rfl, aw, isT⟩ := pair i v at_
      refine pair_hot hot2 (isT.elim fun o k => ⟨o, st _ _ k.1, k.2⟩) ns (lookup_relabel_local la) (lookup_relabel_local lb) ?_ fun g2 tk2 ns2 ex2 more => ?_
      · simp [compEnvC, relabel, kind]
      · have kC : (compEnvC scope cl C X.env).scope.kind = .function := by simp [compEnvC, relabel, kind]
        have hb : (fun x => if x = b then some (Value.bool w.2) else if x = a then some (.str w.1 tk) else m x) b = some (.bool w.2) := if_pos rfl
        have ha : (fun x => if x = b then some (Value.bool w.2) else if x = a then some (.str w.1 tk) else m x) a = some (.str w.1 tk) := by
          show (if a = b then _ else if a = a then _ else _) = _
          rw [if_neg ne, if_pos rfl]
        have st2 : Stays s1.heap g2 := fun c o k => ex2 c o (offC c o k) (st c o k)
        have next : g2.IsListIter s1.heap.objs.size p (i + 1) ∧ g2.IsList p its.toArray ∧ HotX.HotAt X.A x1 g2 := ⟨it2.at fun o k => ex2 _ _ (Ne.symm neCI) k, plain.isList.elim fun o k => ⟨o, st2 _ _ k.1, k.2⟩, hot_stays hot st2⟩
        have pl2 : g2.PlainList D ys.toArray := pl.at fun o k => ex2 _ _ neDC k
        refine test_name kC (lookup_relabel_local lb) ns2 hb nb ?_
        have more2 := picked_succ aw
        cases e : w.2 with
        | true =>
          rw [if_pos rfl]
          rw [e, if_pos rfl] at more2
          refine wpAny_Name (wpAny_loadName_local kC (lookup_relabel_local la) ns2 ha ?_) na
          refine ⟨⟨⟨g2, tk2, rfl, st2, _, ns2⟩, ?_⟩, next, pl2⟩
          rw [more2]
          exact vals.append (.cons ⟨tk, rfl⟩ .nil)
        | false =>
          rw [if_neg Bool.false_ne_true]
          rw [e, if_neg Bool.false_ne_true, List.append_nil] at more2
          exact ⟨⟨⟨g2, tk2, rfl, st2, _, ns2⟩, by rw [more2]; exact vals⟩, next, pl2⟩
    · rintro ys _ ⟨⟨g, tk, rfl, st, m, ns⟩, vals⟩ ⟨n, pl⟩
      have whole : ws.take its.toArray.size = ws := by rw [List.size_toArray, len2, List.take_length]
      rw [whole] at vals
      have fits : (picked ws).length ≤ sizeLine := Nat.le_trans (picked_le ws) (len ▸ size)
      exact ⟨m, ns, fun g' same => ⟨.ref D, _, I1.laid (o := .lst (picked ws)) (fun c o k => same.extBut c o (offC c o k) (st c o k)) (Nat.le_of_lt newD) ⟨fits, ys, n, vals, same.extBut _ _ neDC pl⟩, rfl, q D (I1.hok.fresh (Nat.le_of_lt newD))⟩⟩

end U

set_option Elab.async false
set_option linter.all false
set_option maxRecDepth 100000
set_option maxHeartbeats 4000000
/-! # U: try with any number of named clauses, by what each clause wishes -/
namespace U
open PySem PySem.Spec PyProof.Rows L2
/-- an exception of class cls lies before the clauses of X's try -/
def Ground (X : Cx) (pins : List (Addr × Obj)) (σ : L2.St) (H : Hp) (a : Addr) (cls : Value) (d : Option Addr) (s : Shared) : Prop :=
  ∃ (B : Heap) (sI : Shared), Inv X pins σ H sI ∧ (∀ b o, sI.heap.get? b = some o → b ∉ frs X.stack → B.get? b = some o) ∧ sI.heap.UpToSlots s.heap ∧ HandSPX.FlyingZ B X.stack a (L2N.Zn cls d) s.heap ∧ H a = none ∧ s.os = sI.os ∧ AllBare s.gens
section
variable {X : Cx} {pins : List (Addr × Obj)} {σ : L2.St} {H : Hp} {a : Addr} {cls : Value} {d : Option Addr} {s : Shared}
theorem Ground.inv (G : Ground X pins σ H a cls d s) : Inv X pins σ H s := by
  rcases G with ⟨B, sI, I, young, up, fl, fresh, os, bare⟩
  exact I.landed young fl.1 up os bare
theorem Ground.obj (G : Ground X pins σ H a cls d s) : ∃ o vs, s.heap.get? a = some o ∧ L2N.Zn cls d o ∧ o.data = .fields vs := by
  rcases G with ⟨B, sI, I, young, up, fl, fresh, os, bare⟩
  exact fl.there
theorem Ground.fresh (G : Ground X pins σ H a cls d s) : H a = none := by
  rcases G with ⟨B, sI, I, young, up, fl, fresh, os, bare⟩
  exact fresh
theorem up_stays {h g k : Heap} (u : h.UpToSlots g) (y : Stays g k) : h.UpToSlots k := fun b o e n => (u b o e n).elim fun sl q => ⟨sl, y _ _ q⟩
theorem fly_stays {B h k : Heap} {l : List Env} {Z : Obj → Prop} (f : HandSPX.FlyingZ B l a Z h) (y : Stays h k) : HandSPX.FlyingZ B l a Z k := by
  rcases f with ⟨st, no, fr, oe, vs, T, oT, ts, g1, z, d1, v1, n1, ne, g2, d2, v2⟩
  exact ⟨fun b o e => y b o (st b o e), no, fr.of_keeps fun b o e _ => ⟨o, y b o e, rfl⟩, oe, vs, T, oT, ts, y _ _ g1, z, d1, v1, n1, ne, y _ _ g2, d2, v2⟩
theorem Ground.grow {g : Heap} (G : Ground X pins σ H a cls d s) (y : Stays s.heap g) : Ground X pins σ H a cls d { s with heap := g } := by
  rcases G with ⟨B, sI, I, young, up, fl, fresh, os, bare⟩
  exact ⟨B, sI, I, young, up_stays up y, fly_stays fl y, fresh, os, bare⟩
/-- its frames are not it -/
theorem Ground.apart (G : Ground X pins σ H a cls d s) : a ∉ frs X.stack := by
  rcases G with ⟨B, sI, I, young, up, fl, fresh, os, bare⟩
  rcases fl.there with ⟨o, vs, e, _, dat⟩
  intro m
  rcases fl.2.2.1.mem m with ⟨_, o', e', no⟩
  rw [e] at e'
  exact no vs (Option.some.inj e' ▸ dat)
/-- the context of a suite -/
theorem Ground.suite (G : Ground X pins σ H a cls d s) (hs : X.stack = X.env :: X.outer) (hf : X.env.frame = some X.env.locals) : ∃ o vs, L2N.Zn cls d o ∧ o.data = .fields vs ∧ Inv (X.suite a ((a, o) :: (X.pn ++ pins))) [] σ H s := by
  rcases G.obj with ⟨o, vs, e, z, dat⟩
  have far := G.apart
  rw [hs] at far
  refine ⟨o, vs, z, dat, G.inv.suite e dat G.fresh (fun q => far ?_) fun q => far ?_⟩
  · exact List.mem_filterMap.mpr ⟨X.env, List.mem_cons_self, by rw [hf, q]⟩
  · rcases List.mem_filterMap.mp q with ⟨ev, m, fr⟩
    exact List.mem_filterMap.mpr ⟨ev, List.mem_cons_of_mem _ m, fr⟩
/-- once more on the ground -/
theorem Ground.again {M : Model} {A : Around} {E : Value → Shared → Prop} {Q : Unit → Shared → Prop} (G : Ground X pins σ H a cls d s) (q : ∀ g, Ground X pins σ H a cls d { s with heap := g } → Q () { s with heap := g }) : wpAny M A (setFlight (.ref a) none) Q E s := by
  rcases G with ⟨B, sI, I, young, up, fl, fresh, os, bare⟩
  exact HandSPX.lands_againZ fl fun g fl2 up2 => q g ⟨B, sI, I, young, up.trans up2, fl2, fresh, os, bare⟩
/-- no clause takes it -/
theorem Ground.leaves {Wout : WX} {D : Ends} (G : Ground X pins σ H a cls d s) (hf : X.env.frame = some X.env.locals) (tk : L2N.Takes X Wout) (w : Wout cls d σ H) :
    wpAny (model X.prog X.w) X.A (passOn "try.no-clause-matches" (.ref a) X.env) (SP X pins D) X.xe s := by
  rcases G with ⟨B, sI, I, young, up, fl, fresh, os, bare⟩
  have out : wpAny (model X.prog X.w) X.A (setFlight (.ref a) X.env.frame) (fun _ s1 => wpAny (model X.prog X.w) X.A (throw (.ref a) : Sem Flow) (SP X pins D) X.xe s1) X.xe s := by
    rw [hf]
    exact HandSPX.setFlight_upZ fl fun g held up2 => wpAny_throw (tk _ _ ⟨a, B, sI, pins, σ, H, cls, d, rfl, I, young, up.trans up2, .inr (.inr held), fresh, os, bare, w⟩)
  rcases fl with ⟨_, _, _, oe, vs, T, _, _, here, _, dat, one, _⟩
  unfold PySem.passOn
  wp_walk
  rw [dat]
  refine wpAny_pure ?_
  rw [one]
  refine wpAny_pure ?_
  rw [if_neg (show ¬ (Value.ref T == Value.none) = true from fun z => Bool.noConfusion z)]
  exact wpAny_bind out
end
/-! ### what a clause's classes say -/
/-- the test of a clause: hit tells it by the exception's class -/
def Decides (X : Cx) (t : Expr) (hit : Value → Option Bool) : Prop :=
  ∀ {pins : List (Addr × Obj)} {σ : L2.St} {H : Hp} {a : Addr} {cls : Value} {d : Option Addr} {s : Shared} {b : Bool} {Q : Bool → Shared → Prop} {E E2 : Value → Shared → Prop}, Ground X pins σ H a cls d s → hit cls = some b →
    (∀ g, Ground X pins σ H a cls d { s with heap := g } → Q b { s with heap := g }) →
    wpAny (model X.prog X.w) (X.A.mark (some (.ref a))) (eval t X.env) (fun c s1 => wpAny (model X.prog X.w) (X.A.mark (some (.ref a))) (excMatches (.ref a) c) Q E s1) E2 s
section
variable {X : Cx} (hs : X.stack = X.env :: X.outer) (hf : X.env.frame = some X.env.locals)
include hs hf
theorem name_of {pins : List (Addr × Obj)} {σ : L2.St} {H : Hp} {a : Addr} {cls : Value} {d : Option Addr} {s : Shared} {x : Str} {c : Value} {p : Pos} {Q E : Value → Shared → Prop} (n : Names X x c) (G : Ground X pins σ H a cls d s) (q : Q c s) :
    wpAny (model X.prog X.w) (X.A.mark (some (.ref a))) (eval (.Name x p) X.env) Q E s := by
  rcases G.suite hs hf with ⟨o, vs, z, dat, S⟩
  rcases n with ⟨gl, nd, own | ⟨no, bt, nn⟩⟩
  · exact ld_glob (X := X.suite a ((a, o) :: (X.pn ++ pins))) S gl own q nd
  · exact ld_blt (X := X.suite a ((a, o) :: (X.pn ++ pins))) S gl no bt q nn nd
theorem decides_name {x : Str} {c : Value} {p : Pos} (n : Names X x c) : Decides X (.Name x p) (fun cls => PySem.W.exmOne X.K cls c) := by
  intro pins σ H a cls d s b Q E E2 G h q
  refine name_of hs hf n G ?_
  rcases G.obj with ⟨o, vs, e, z, dat⟩
  have looks : PySem.W.Looks (model X.prog X.w) s.heap (typeOf (.ref a)) cls := fun A Q E s k q => wpAny_typeOf_ref (k _ _ e) (by rw [z.1]; exact q)
  exact (PySem.W.exm_one G.inv.kIn looks h).here (q s.heap G)
theorem decides_tup4 {x1 x2 x3 x4 : Str} {c1 c2 c3 c4 : Value} {p1 p2 p3 p4 tp : Pos} {kk : Nat} (n1 : Names X x1 c1) (n2 : Names X x2 c2) (n3 : Names X x3 c3) (n4 : Names X x4 c4) :
    Decides X (.Tuple [.Name x1 p1, .Name x2 p2, .Name x3 p3, .Name x4 p4] kk tp) (fun cls => PySem.W.exmAny X.K cls [c1, c2, c3, c4]) := by
  intro pins σ H a cls d s b Q E E2 G h q
  have made : wpAny (model X.prog X.w) (X.A.mark (some (.ref a))) (eval (.Tuple [.Name x1 p1, .Name x2 p2, .Name x3 p3, .Name x4 p4] kk tp) X.env) (fun c s1 => c = .ref s.heap.objs.size ∧ s1 = { s with heap := s.heap.push { cls := .type "tuple", data := .seq [c1, c2, c3, c4].toArray } }) E2 s := by
    refine wpAny_Tuple_spliced ?_
    refine Calls.spliced_cons (name_of hs hf n1 G ?_)
    refine Calls.spliced_cons (name_of hs hf n2 G ?_)
    refine Calls.spliced_cons (name_of hs hf n3 G ?_)
    refine Calls.spliced_cons (name_of hs hf n4 G ?_)
    refine Calls.spliced_nil ⟨?_, rfl, rfl⟩
    show 4 ≤ sizeLine
    rw [sizeLine_eq]
    decide
  refine wpAny_mono made ?_ fun _ _ x => x
  rintro _ _ ⟨rfl, rfl⟩
  have G2 := G.grow (Stays.push (o := { cls := .type "tuple", data := .seq [c1, c2, c3, c4].toArray }))
  rcases G2.obj with ⟨o, vs, e, z, dat⟩
  have looks : PySem.W.Looks (model X.prog X.w) (s.heap.push { cls := .type "tuple", data := .seq [c1, c2, c3, c4].toArray }) (typeOf (.ref a)) cls := fun A Q E s k q => wpAny_typeOf_ref (k _ _ e) (by rw [z.1]; exact q)
  exact (PySem.W.exm_tup4 G2.inv.kIn looks (Heap.get?_push_size _ rfl) h).here (q _ G2)
end
/-! ### the clauses, one behind the other -/
/-- R: what the clauses wish of an exception -/
def Clauses (X : Cx) (hds : List ExceptHandler) (R : Ends → L2.WX) : Prop :=
  ∀ {pins : List (Addr × Obj)} {σ : L2.St} {H : Hp} {a : Addr} {cls : Value} {d : Option Addr} {s : Shared} {D : Ends}, Ground X pins σ H a cls d s → R D cls d σ H → wpAny (model X.prog X.w) X.A (handleBy (.ref a) X.env hds) (SP X pins D) X.xe s
/-- behind a suite its name is gone -/
def goneE (i : Nat) (D : Ends) : Ends := ⟨fun σ H => D.nx (σ.set i none) H, D.rt, fun σ H => D.bk (σ.set i none) H, fun σ H => D.ct (σ.set i none) H⟩
section
variable {X : Cx} {t : Expr} {hit : Value → Option Bool} {rest : List ExceptHandler} {R : Ends → L2.WX}
theorem clauses_nil {Wout : L2.WX} (hf : X.env.frame = some X.env.locals) (tk : L2N.Takes X Wout) : Clauses X [] (fun _ => Wout) := fun G w => wpAny_handleBy_nil (G.leaves hf tk w)
/-- a clause that never takes what comes -/
theorem clauses_skip {n : Option Str} {body : List Stmt} {pos : Pos} (test : Decides X t hit) (r : Clauses X rest R) : Clauses X (.ExceptHandler (some t) n body pos :: rest) (fun D cls d σ H => hit cls = some false ∧ R D cls d σ H) := by
  intro pins σ H a cls d s D G w
  refine wpAny_handleBy_cons (codeAny_handlers_test (test G w.1 fun g G2 => ?_)) (fun z => nomatch z)
  exact r G2 w.2
theorem clauses_as {n : Str} {i : Nat} {b0 : Stmt} {suite : List Stmt} {pos : Pos} {ts : Addr → Value → Option Addr → L2.TS} (hs : X.stack = X.env :: X.outer) (hf : X.env.frame = some X.env.locals) (once : X.N.Nodup) (at_ : X.N[i]? = some n) (loc : X.env.kindOf n = some .local)
    (test : Decides X t hit) (su : ∀ (a : Addr) (o : Obj) (cls : Value) (d : Option Addr) (pn : List (Addr × Obj)), L2N.Zn cls d o → (∃ vs, o.data = .fields vs) → PSs (X.suite a ((a, o) :: pn)) (b0 :: suite) (ts a cls d)) (r : Clauses X rest R) :
    Clauses X (.ExceptHandler (some t) (some n) (b0 :: suite) pos :: rest) (fun D cls d σ H => ∃ b, hit cls = some b ∧ (b = true → ∀ a, H a = none → ts a cls d (goneE i D) (σ.set i (some (.ref a))) H) ∧ (b = false → R D cls d σ H)) := by
  intro pins σ H a cls d s D G w
  rcases w with ⟨b, h, yes, no⟩
  refine wpAny_handleBy_cons (codeAny_handlers_test (test G h fun g G2 => ?_)) (fun z => nomatch z)
  cases b with
  | false => exact r G2 (no rfl)
  | true =>
    have ok := G2.inv.ok
    refine codeAny_handlers_suite_as (G2.again fun g3 G3 => ?_)
    rcases G3.suite hs hf with ⟨o, vs, z, dat, S⟩
    refine store_ok (X := X.suite a ((a, o) :: (X.pn ++ pins))) (v := .ref a) S once at_ (.inl loc) rfl (fun s4 S4 => ?_) (.inr loc)
    refine wpAny_mono ((su a o cls d (X.pn ++ pins) z ⟨vs, dat⟩).run [] s4 _ H _ S4 (yes rfl a G3.fresh)) (fun f s5 e => ?_) fun _ _ z => False.elim z
    have forget : ∀ {σ' : L2.St} {H' : Hp} {Q : Shared → Prop}, Inv (X.suite a ((a, o) :: (X.pn ++ pins))) [] σ' H' s5 → (∀ s6, Inv X pins (σ'.set i none) H' s6 → Q s6) →
        wpAny (model X.prog X.w) X.A (do bindName X.env n .none; unbindBehindTheSuite X.env n pos) (fun _ s6 => Q s6) X.xe s5 := fun J q => gone_ok (J.unsuite ok) once at_ loc q
    cases f with
    | ret u => rcases e with ⟨v, σ', H', J, ru, q⟩; exact forget J fun s6 K => ⟨v, _, _, K, ru, q⟩
    | next => rcases e with ⟨σ', H', J, q⟩; exact forget J fun s6 K => ⟨_, _, K, q⟩
    | brk => rcases e with ⟨σ', H', J, q⟩; exact forget J fun s6 K => ⟨_, _, K, q⟩
    | cont => rcases e with ⟨σ', H', J, q⟩; exact forget J fun s6 K => ⟨_, _, K, q⟩
theorem ps_tryC {body : List Stmt} {h0 : ExceptHandler} {pos : Pos} {tb : L2.WX → L2.TS} (hs : X.stack = X.env :: X.outer) (hf : X.env.frame = some X.env.locals)
    (hb : ∀ (W : L2.WX) (pn : List (Addr × Obj)) (xe : Value → Shared → Prop), L2N.Takes (X.tr pn xe) W → PassesOwn (model X.prog X.w) X.A X.env xe → PSs (X.tr pn xe) body (tb W)) (c : Clauses X (h0 :: rest) R) :
    PS X (.Try body (h0 :: rest) [] [] pos) (fun D σ H => tb (R D) D σ H) where
  run pins s σ H D I h := by
    have ok := I.ok
    have take : L2N.Takes (X.tr (X.pn ++ pins) fun e s1 => wpAny (model X.prog X.w) X.A (noteFrame e X.env) (fun _ s2 => wpAny (model X.prog X.w) X.A (setFlight e none) (fun _ s3 => wpAny (model X.prog X.w) X.A (handleBy e X.env (h0 :: rest)) (SP X pins D) X.xe s3) X.xe s2) X.xe s1) (R D) := by
      rintro _ s1 ⟨a, B, sI, pins', σ', H', cls, d, rfl, J, young, up, sky, fresh, os, bare, w⟩
      have frames : X.A.frames = some (X.env :: X.outer) := ok.frames.trans (congrArg some hs)
      have sky2 : L2.Sky B (X.env :: X.outer) a (L2N.Zn cls d) X.env.locals s1.heap := hs ▸ sky
      exact L2N.Sky.land L2N.Zn.steady frames hf sky2 fun g fl up2 => c ⟨B, sI, J.ofTry ok, young, up.trans up2, by rw [hs]; exact fl, fresh, os, bare⟩ w
    refine wpAny_Try_except (wpAny_mono ((hb (R D) (X.pn ++ pins) _ take PassesOwn.looking).run [] s σ H D (I.toTry _) h) (fun f s1 e => ?_) fun _ _ z => z)
    cases f with
    | ret u => rcases e with ⟨v, σ', H', J, ru, q⟩; exact ⟨v, _, _, J.ofTry ok, ru, q⟩
    | next => rcases e with ⟨σ', H', J, q⟩; exact wpAny_execs_nil ⟨_, _, J.ofTry ok, q⟩
    | brk => rcases e with ⟨σ', H', J, q⟩; exact ⟨_, _, J.ofTry ok, q⟩
    | cont => rcases e with ⟨σ', H', J, q⟩; exact ⟨_, _, J.ofTry ok, q⟩
end
/-! ### isinstance of the exception that is handled, in a def that is called there -/
theorem call_held {X : Cx} {a D : Addr} {o : Obj} (C : ExcC X.K D) (held : (a, o) ∈ X.pn) (z : Zc (.ref D) none o) (fl : ∃ vs, o.data = .fields vs) : CallR X (.builtin "isinstance") (rIsE X.K D a) := by
  rintro pins s σ H _ us Q I r ⟨c, cv, b, rfl, only, e, q⟩
  rcases r with _ | ⟨ra, _ | ⟨rc, _ | _⟩⟩
  cases ra
  cases only _ rc
  have here := (I.pin _ (List.mem_append_left _ held)).1
  have inst : PySem.W.InstAt s.heap a o D none := by
    rcases o with ⟨oc, od, da, sl⟩
    rcases z with ⟨z1, z2⟩
    rcases fl with ⟨vs, z3⟩
    cases z1
    cases z2
    cases z3
    exact ⟨here, rfl, rfl, trivial⟩
  exact PySem.W.kia_one (PySem.W.handS_kitx_exc C.hg C.hk C.hs C.hd C.ha C.hn C.ht C.hm) I.kIn inst e (fun y => nomatch y) fun tk => ⟨.bl b, H, I.kept (t' := tk) fun _ _ y => y, rfl, q⟩
theorem takesF {X : Cx} : L2N.Takes X (fun _ _ _ _ => False) := by
  rintro u s ⟨_, _, _, _, _, _, _, _, _, _, _, _, _, _, _, _, no⟩
  exact no.elim
end U

set_option Elab.async false
set_option linter.all false
set_option maxRecDepth 100000
set_option maxHeartbeats 4000000
/-! # U: a lambda handed to a def, what its body raises being told with its context -/
namespace U
open PySem PySem.Spec PyProof.Rows L2 LamX
/-- the frame of a lambda's body leaves its exceptions to the caller, contexts told -/
def lamOut (X : Cx) (A : Around) (outer : List Env) (s : Shared) (H : Hp) (E : XK) (env : Env) : Value → Shared → Prop :=
  fun e s' => wpAny (model X.prog X.w) (A.deeper env) (leaving env e) (fun _ s'' => L2N.CX X.prog X.w outer H s E e s'') (fun e' s'' => L2N.CX X.prog X.w outer H s E e' s'') s'
def lamX (X : Cx) (A : Around) (outer : List Env) (s : Shared) (H : Hp) (E : XK) (scope : Scope) (f c' : Addr) : Cx := (lamCx X A outer s H E scope f c').tr [] (lamOut X A outer s H E (lamEnv X scope s.heap.objs.size f c'))
section
variable {X : Cx} {pins : List (Addr × Obj)} {σ : L2.St} {H HZ : Hp} {s s1 : Shared} {f c' : Addr} {params : Arguments} {body : Expr} {scope : Scope} {pm ctv : Value} {k : Nat} {E : XK} {Q : VK} {tb : TE}
/-- the function object that a lambda of this def's is -/
abbrev lamObj (X : Cx) (params : Arguments) (body : Expr) (scope : Scope) (pm ctv : Value) (c' : Addr) : Obj := PySem.W.kla_obj "<lambda>" (X.env.qual ++ "<lambda>") params body scope (cloFrom X.env.cells scope.names []) pm c' ctv
/-- called at s1 from the frames outer: the body runs over the slots of the def that made it -/
theorem lam_called {A : Around} {outer : List Env} (I : Inv X pins σ H s) (L : LamS X.env.scope scope) (un : Un (frs X.stack) [] H HZ s.heap s1.heap) (e0 : Env0 X.prog X.w X.K X.mg X.base A outer s1 HZ) (calm : A.handled = none) (room : Room (k + 1) A)
    (lim : s1.heap.NoLimit) (here : s1.heap.get? f = some (lamObj X params body scope pm ctv c')) (code : s1.heap.CodeRec (.ref c') (X.env.qual ++ "<lambda>")) (nob : bindArgs (PySem.W.kla_fn "<lambda>" (X.env.qual ++ "<lambda>") params body scope (cloFrom X.env.cells scope.names []) pm (.ref c') ctv) ⟨[], []⟩ = pure [])
    (hb : PE (lamX X A outer s1 HZ E scope f c') body tb) (t : tb σ HZ Q) : codeAny (model X.prog X.w) A (.call (.ref f) ⟨[], []⟩) (CR (L2N.CX X.prog X.w) outer X.prog X.w HZ s1 Q E) s1 := by
  apply PySem.W.kla_callFunE room.depth here rfl L.co L.gen rfl code
  rw [nob]
  apply wpAny_pure
  apply wpAny_newFunctionEnv (fun y m => (L.own y m).2) (fun y m => (List.not_mem_nil m).elim) _ L.kind
  intro g ns same
  have y : Stays s1.heap g := fun b o e => same.extBut b o (Nat.ne_of_lt (Heap.lt_size e)) (Heap.get?_push_of_some _ e)
  have J := (lam_start2 (f := f) (c' := c') (E := E) (tk := s1.toks + ([] : List (Str × Value)).length) I L e0 calm un ns y).toTry (lamOut X A outer s1 HZ E (lamEnv X scope s1.heap.objs.size f c'))
  refine ⟨lim.fresh _ same, PySem.W.kla_codeExpr (wpAny_mono (hb.run [] _ _ HZ Q J t) ?_ fun e s' z => z)⟩
  rintro v s' ⟨x, H', J', r, q⟩
  exact ⟨x, H', J'.os, J'.bare, J'.base, J'.hok, r, q⟩
/-- what calling slot 0 of the def that got the lambda asks; tl: the lambda's reading -/
def tAct (f c' : Addr) (q : Str) (W : L2.WX) (tl : XK → Hp → VK → Prop) : TE := fun σ H Q => σ[0]? = some (some (.ref f)) ∧ H c' = some (CodeO c' q) ∧
  ∃ (E : XK) (R : VK), (∀ cls d H', E cls d H' → W cls d σ H') ∧ (∀ v H', R v H' → Q v H') ∧ tl E H R
/-- the context of the def that the law hands its lambda to -/
abbrev getCx (X : Cx) (N : List Str) (x : Str) (sg : Scope) (g : Addr) (cdg : Value) (s : Shared) (H : Hp) : Cx := cxOf C8.CX0 X.prog X.w X.K X.mg X.base N x sg g cdg X.A X.stack s H C8.E0
theorem lam_act {N : List Str} {x a : Str} {sg : Scope} {g : Addr} {cdg : Value} {pn : List (Addr × Obj)} {xe : Value → Shared → Prop} {p1 p2 : Pos} {W : L2.WX} (I : Inv X pins σ H s) (L : LamS X.env.scope scope) (made : s.heap.get? f = some (lamObj X params body scope pm ctv c')) (free : H f = none) (nofr : f ∉ frs X.stack)
    (nob : bindArgs (PySem.W.kla_fn "<lambda>" (X.env.qual ++ "<lambda>") params body scope (cloFrom X.env.cells scope.names []) pm (.ref c') ctv) ⟨[], []⟩ = pure []) (room : Room (k + 1) (X.A.deeper (envOfC x sg s.heap.objs.size g cdg)))
    {tb : XK → TE} (tk : L2N.Takes ((getCx X N x sg g cdg s H).tr pn xe) W) (hb : ∀ (A : Around) (outer : List Env) (s : Shared) (H : Hp) (E : XK), Room k (A.deeper (lamEnv X scope s.heap.objs.size f c')) → PE (lamX X A outer s H E scope f c') body (tb E))
    (n0 : N[0]? = some a) (vis : Vis sg a) (hd : (a == ("__debug__" : Str)) = false) (hcd : (a == ("__classdict__" : Str)) = false) :
    PE ((getCx X N x sg g cdg s H).tr pn xe) (.Call (.Name a p1) [] [] p2) (tAct f c' (X.env.qual ++ "<lambda>") W (fun E H' Q' => tb E σ H' Q')) where
  run pinsZ sZ σZ HZ Q IZ h := by
    rcases h with ⟨slot, co, E, R, toW, toQ, t⟩
    have name := (pe_var (X := (getCx X N x sg g cdg s H).tr pn xe) (pos := p1) (i := 0) n0 vis hd hcd).run pinsZ sZ σZ HZ (fun v H1 => v = .ref f ∧ H1 = HZ) IZ ⟨.ref f, slot, rfl, rfl⟩
    refine wpAny_Call_Name_kw (thn name ?_)
    rintro u s2 ⟨v, H1, I2, r, ev, eH⟩
    subst ev
    subst eH
    cases r
    have here : s2.heap.get? f = some (lamObj X params body scope pm ctv c') := I2.base.keep f _ made free nofr (fun z => (List.not_mem_nil z).elim)
    have un : Un (frs X.stack) [] H H1 s.heap s2.heap := I2.base
    refine PySem.W.callWith_F0 ⟨_, _, _, _, here⟩ ?_
    rcases (I2.hok c' _ co).1 with ⟨oc, vs, tk', k1, k2, k3⟩
    have run := lam_called (E := E) (Q := R) (tb := tb E) (k := k) I L un I2.env0 room.hd room I2.nolimit here ⟨c', oc, vs, tk', rfl, k1, k2, k3⟩ nob (hb _ _ s2 H1 _ (room.deeper _)) t
    refine wpAny_call (codeAny_mono run fun r s3 e => ?_)
    cases r with
    | error z =>
      rcases e with ⟨b, B, H', cls, d, e1, e2, e3, e4, e5, e6, e7, e8⟩
      exact L2N.passAt tk σZ pinsZ H1 s2 z s3 I2 ⟨b, B, H', cls, d, e1, e2, e3, e4, e5, e6, e7, toW _ _ _ e8⟩
    | ok fl =>
      cases fl with
      | ret u =>
        rcases e with ⟨v, H', e1, e2, e3, e4, e5, e6⟩
        exact I2.after ⟨v, H', e1, e2, e3, e4, e5, toQ _ _ e6⟩
      | _ => exact e.elim
/-- a def that gets a lambda: its body's reading by what it makes (TT) of the lambda's -/
structure Taker (X : Cx) (r : Nat) (N : List Str) (x : Str) (sg : Scope) (g : Addr) (cdg : Value) (bg : List Stmt) (a : Str) (q : Str) (TT : (XK → Hp → VK → Prop) → Hp → VK → Prop) : Prop where
  walks : ∀ (s : Shared) (H : Hp) (f c' : Addr) (tl : XK → Hp → VK → Prop) (Q : VK),
    (∀ (W : L2.WX) (pn : List (Addr × Obj)) (xe : Value → Shared → Prop) (p1 p2 : Pos), L2N.Takes ((getCx X N x sg g cdg s H).tr pn xe) W → PE ((getCx X N x sg g cdg s H).tr pn xe) (.Call (.Name a p1) [] [] p2) (tAct f c' q W tl)) →
    Room r (X.A.deeper (envOfC x sg s.heap.objs.size g cdg)) → H c' = some (CodeO c' q) → TT tl H Q → ∃ t, PSs (getCx X N x sg g cdg s H) bg t ∧ t { nx := fun _ H' => Q .non H', rt := Q } (L2.start N [.ref f]) H
theorem pe_lamto {T : List (Addr × Str)} {TT : (XK → Hp → VK → Prop) → Hp → VK → Prop} {x a : Str} {g c P : Addr} {pg : Arguments} {bg : List Stmt} {sg : Scope} {dV kV doc pmg cdv ct oc : Value} {an od : Option Addr} {osl : Array (Option Value)} {N : List Str} {t : XK → TE} {p lpos pos : Pos}
    (gl : Gl X x) (mg : X.mg x = some (.ref g)) (kept : PySem.W.keepIn X.K (.ref g) = true) (lk : X.K.lookup g = some ⟨oc, od, .func (PySem.W.fnOf x x pg bg sg dV kV doc pmg an cdv ct), osl⟩) (cd : PySem.W.codeIn X.K cdv x = true) (bd : L2.Binds X.K (PySem.W.fnOf x x pg bg sg dV kV doc pmg an cdv ct) [a] [])
    (Sg : FnScope N [a] sg) (n0 : N[0]? = some a) (vis : Vis sg a) (tkr : Taker X (k + 1) N x sg g cdv bg a (X.env.qual ++ "<lambda>") TT) (TB : TabB X.base X.mg c P) (xcode : X.env.code = .ref c) (inT : (P, X.env.qual ++ "<lambda>") ∈ T) (sole : ∀ p ∈ T, p.1 = P → p.2 = X.env.qual ++ "<lambda>")
    (room : Room (k + 2) X.A) (L : LamS X.env.scope scope) (nod : defaultsOf params X.env = ([], [])) (nob : ∀ (q : Str) (cl : List (Str × Addr)) (pm cv ctv : Value), bindArgs (PySem.W.kla_fn "<lambda>" q params body scope cl pm cv ctv) ⟨[], []⟩ = pure [])
    (hb : ∀ (A : Around) (outer : List Env) (s : Shared) (H : Hp) (E : XK) (f c' : Addr), Room k (A.deeper (lamEnv X scope s.heap.objs.size f c')) → PE (lamX X A outer s H E scope f c') body (t E))
    (dx : (x == ("__debug__" : Str)) = false := by decide) (da : (a == ("__debug__" : Str)) = false := by decide) (dc : (a == ("__classdict__" : Str)) = false := by decide) :
    PE X (.Call (.Name x p) [.Lambda params body scope lpos] [] pos) (tLam T TT t) where
  run pins s σ H Q I h := by
    have lam := fun R => lam_make2 (E := X.xe) (pos := lpos) (params := params) (body := body) (Q := R) I TB xcode inT sole h.1 nod (L.has I.ok)
    refine wpAny_Call_Name_kw (ld_glob I gl mg (PySem.W.callWith_K (h₀ := X.base) I.ok.mod.kin kept ?_ (by rfl) (by rfl)) dx)
    refine Calls.spliced_cons (lam _ fun f c' pm ctv H1 s1 I1 eN T1 made free nofr co => Calls.spliced_nil ⟨I1.kIn, ?_⟩)
    have all : codeAny (model X.prog X.w) X.A (.call (.ref g) ⟨[.ref f], []⟩) (CR C8.CX0 X.stack X.prog X.w H1 s1 Q C8.E0) s1 :=
      run_ofS (N := N) (ps := [a]) (us := [.ref f]) (vs := [.ref f]) lk cd Sg room I1.env0 (bd s1 [.ref f] I1.kIn rfl) (.cons rfl .nil) rfl fun room1 =>
        tkr.walks s1 H1 f c' (fun E H' Q' => t E σ H' Q') Q (fun W pn xe p1 p2 tk => lam_act (tb := t) I1 L made free nofr (nob _ _ _ _ _) room1 tk (fun A outer s H E r => hb A outer s H E f c' r) n0 vis da dc) room1 co (h.2 H1 eN T1)
    refine wpAny_call (codeAny_mono all fun r s2 e => ?_)
    cases r with
    | error z => exact (show False from e).elim
    | ok fl =>
      cases fl with
      | ret u => exact I1.after e
      | _ => exact (show False from e).elim
end
end U

set_option Elab.async false
set_option linter.all false
set_option maxRecDepth 100000
set_option maxHeartbeats 4000000
/-! # U: a def that gets the exception that is handled, called in an except suite -/
namespace U
open PySem PySem.Spec PyProof.Rows L2 L2H
section
variable {P : Program} {w : World} {K : PySem.W.Frag} {mg : Str → Option Value} {base : Heap} {CX : CXT}
/-- such a def called at one state: its body in the context that bears the exception (as in the suite itself) -/
theorem held_called {k : Nat} {f : Addr} {name qual : Str} {params : Arguments} {body : List Stmt} {scope : Scope} {dV kV doc pm cdv ct oc : Value} {an od : Option Addr} {osl : Array (Option Value)} {N ps : List Str}
    (lk : K.lookup f = some ⟨oc, od, .func (PySem.W.fnOf name qual params body scope dV kV doc pm an cdv ct), osl⟩) (cd : PySem.W.codeIn K cdv qual = true) (S : FnScope N ps scope)
    {A : Around} {outer : List Env} {s : Shared} {H : Hp} {us : List Value} {vs : List V} {Q : VK} {E : XK} {p : Addr × Obj} (room : RoomH (k + 1) A) (pin : PinOk outer H s p) (e0 : Env0 P w K mg base A outer s H) (bd : BindsTo s (PySem.W.fnOf name qual params body scope dV kV doc pm an cdv ct) ⟨us, []⟩ (ps.zip us))
    (rv : Vals vs us) (len : vs.length = ps.length) (walks : RoomH k (A.deeper (envOfC qual scope s.heap.objs.size f cdv)) → ∃ t, PSs (cxH CX P w K mg base N qual scope f cdv A outer s H E p) body t ∧ t { nx := fun _ H' => Q .non H', rt := Q } (L2.start N vs) H) :
    codeAny (model P w) A (.call (.ref f) ⟨us, []⟩) (CR CX outer P w H s Q E) s := by
  have kin : K.In s.heap := e0.mod.kin.keeps fun b o e => (e0.bs b o e).1
  have nolim : s.heap.NoLimit := e0.mod.nolimit.keeps fun b o e => (e0.bs b o e).1
  rcases walks (room.deeper _) with ⟨t, ht, q⟩
  apply codeAny_call_function room.depth (kin _ _ lk) rfl S.co S.gen rfl (PySem.W.codeRec_of kin cd)
  apply bd
  apply wpAny_newFunctionEnv_cells S.kind
  · rintro ⟨y, v⟩ m
    have z := S.par y (List.of_mem_zip m).1
    exact z.imp id fun z => ⟨z, PySem.W.cellsFrom_some _ _ _ (.inl z)⟩
  · rintro _ rfl s1 into
    refine ⟨nolim.keeps into.toInCall.keep, codeAny_func (wpAny_mono (ht.run [] s1 (L2.start N vs) H _ (inv_startH S pin e0 len rv into) q) ?_ fun e s' z => z)⟩
    rintro fl s2 e
    cases fl with
    | ret u => rcases e with ⟨v, σ', H', J, ru, q⟩; exact ⟨v, H', J.os, J.bare, J.base, J.hok, ru, q⟩
    | next => rcases e with ⟨σ', H', J, q⟩; exact ⟨.non, H', J.os, J.bare, J.base, J.hok, rfl, q⟩
    | brk => rcases e with ⟨_, _, _, q⟩; exact q.elim
    | cont => rcases e with ⟨_, _, _, q⟩; exact q.elim
end
section
variable {X : Cx} {p : Addr × Obj} {k : Nat} {f : Addr} {x : Str} {q pos : Pos} {e : Expr} {params : Arguments} {body : List Stmt} {scope : Scope} {dV kV doc pm cdv ct oc : Value} {an od : Option Addr} {osl : Array (Option Value)} {N : List Str} {a : Str} {te : TE}
/-- f(e): nothing is raised there -/
theorem pe_held {t : V → Hp → VK → Prop} (in_ : p ∈ X.pn) (gl : Gl X x) (mg : X.mg x = some (.ref f)) (kept : PySem.W.keepIn X.K (.ref f) = true) (lk : X.K.lookup f = some ⟨oc, od, .func (PySem.W.fnOf x x params body scope dV kV doc pm an cdv ct), osl⟩) (cd : PySem.W.codeIn X.K cdv x = true) (S : FnScope N [a] scope)
    (bd : Binds X.K (PySem.W.fnOf x x params body scope dV kV doc pm an cdv ct) [a] []) (room : RoomH (k + 1) X.A) (he : PE X e te) (dx : (x == ("__debug__" : Str)) = false) (one : starEach [e] X.env = [(false, eval e X.env)])
    (walks : ∀ (s : Shared) (H : Hp) (v : V) (Q : VK), t v H Q → RoomH k (X.A.deeper (envOfC x scope s.heap.objs.size f cdv)) → ∃ u, PSs (cxH C8.CX0 X.prog X.w X.K X.mg X.base N x scope f cdv X.A X.stack s H C8.E0 p) body u ∧ u { nx := fun _ H' => Q .non H', rt := Q } (L2.start N [v]) H) :
    PE X (.Call (.Name x q) [e] [] pos) (fun σ H Q => te σ H fun v H1 => t v H1 Q) where
  run pins s σ H Q I h := by
    refine wpAny_Call_Name_kw (ld_glob I gl mg (PySem.W.callWith_K (h₀ := X.base) I.ok.mod.kin kept ?_ one (by rfl)) dx)
    rw [one]
    refine Calls.spliced_cons (thn (he.run pins s σ H _ I h) ?_)
    rintro u s1 ⟨v, H1, I1, r, h1⟩
    refine Calls.spliced_nil ⟨I1.kIn, ?_⟩
    have there := I1.pin p (List.mem_append_left _ in_)
    have pin : PinOk X.stack H1 s1 p := ⟨there.1, there.2.1, fun m => (List.mem_cons.mp (I1.stkSub p.1 m)).elim there.2.2.1 there.2.2.2.1, there.2.2.2.2⟩
    have all := held_called (CX := C8.CX0) (E := C8.E0) (Q := Q) lk cd S room pin I1.env0 (bd s1 [u] I1.kIn rfl) (.cons r .nil) rfl (walks s1 H1 v Q h1)
    refine wpAny_call (codeAny_mono all fun res s2 z => ?_)
    cases res with
    | error y => exact (show False from z).elim
    | ok fl =>
      cases fl with
      | ret y => exact I1.after z
      | _ => exact (show False from z).elim
end
/-! ### readings -/
section
variable {σ : L2.St} {H : Hp} {Q : VK} {K : PySem.W.Frag} {ta tb : TE}
theorem i_cat {l b : Addr} {xs zs : List V} (h1 : H l = some (.lst xs)) (h2 : H b = some (.lst zs)) (z : xs.length + zs.length ≤ sizeLine) (q : ∀ p, H p = none → Q (.ref p) (upd H p (.lst (xs ++ zs)))) : rCat (.ref l) (.ref b) H Q := ⟨l, b, xs, zs, rfl, rfl, h1, h2, z, q⟩
theorem i_isE {D a C : Addr} {b : Bool} (e : PySem.W.kitOne K (.ref D) (.ref C) = some b) (q : Q (.bl b) H) : rIsE K D a [.ref a, .ref C] H Q := ⟨.ref C, .ref C, b, rfl, fun _ r => r, e, q⟩
theorem i_pick {te : TE} (q : te σ H fun x H1 => ∃ p ws, x = .ref p ∧ Pairs K H1 p ws ∧ ∀ r, H1 r = none → Q (.ref r) (upd H1 r (.lst (picked ws)))) : tPick K te σ H Q := q
/-- one pair laid, told by its text and its truth value -/
def Pr (H : Hp) (x : V) (w : Str × Bool) : Prop := ∃ t, x = .ref t ∧ H t = some (.tup [.str w.1, .bl w.2])
inductive Prs (H : Hp) : List V → List (Str × Bool) → Prop
  | nil : Prs H [] []
  | cons {x w xs ws} : Pr H x w → Prs H xs ws → Prs H (x :: xs) (w :: ws)
theorem Prs.con {t : Addr} {a : Str} {b : Bool} {xs : List V} {ws : List (Str × Bool)} (h : H t = some (.tup [.str a, .bl b])) (r : Prs H xs ws) : Prs H (.ref t :: xs) ((a, b) :: ws) := .cons ⟨t, rfl, h⟩ r
theorem Prs.append {xs zs : List V} {ws us : List (Str × Bool)} (a : Prs H xs ws) (b : Prs H zs us) : Prs H (xs ++ zs) (ws ++ us) := by
  induction a with
  | nil => exact b
  | cons p _ ih => exact .cons p ih
theorem Prs.same {H' : Hp} {xs : List V} {ws : List (Str × Bool)} (s : Same H H') (a : Prs H xs ws) : Prs H' xs ws := by
  induction a with
  | nil => exact .nil
  | cons p _ ih => exact .cons (p.elim fun t q => ⟨t, q.1, s _ _ q.2⟩) ih
theorem Prs.len {xs : List V} {ws : List (Str × Bool)} (a : Prs H xs ws) : xs.length = ws.length := by
  induction a with
  | nil => rfl
  | cons _ _ ih => simp [ih]
theorem Prs.at {xs : List V} {ws : List (Str × Bool)} (a : Prs H xs ws) : ∀ (i : Nat) (w : Str × Bool), ws[i]? = some w → ∃ t, xs[i]? = some (.ref t) ∧ H t = some (.tup [.str w.1, .bl w.2]) := by
  induction a with
  | nil => intro i w h; simp at h
  | cons p _ ih =>
    intro i w h
    cases i with
    | zero =>
      rcases p with ⟨t, rfl, k⟩
      cases Option.some.inj h
      exact ⟨t, rfl, k⟩
    | succ i => exact ih i w h
theorem Prs.pairs {p : Addr} {xs : List V} {ws : List (Str × Bool)} (a : Prs H xs ws) (h : H p = some (.lst xs)) : Pairs K H p ws := ⟨xs, SqL.of h, a.len, a.at⟩
def words (ws : List (Str × Bool)) : List Str := (ws.filter (·.2)).map (·.1)
theorem picked_words (ws : List (Str × Bool)) : picked ws = (words ws).map V.str := by unfold picked words; rw [List.map_map]; rfl
theorem lens_le (ws : List (Str × Bool)) : ((words ws).map (·.length)).sum ≤ ((ws.map (·.1)).map (·.length)).sum ∧ (words ws).length ≤ ws.length := by
  induction ws with
  | nil => exact ⟨Nat.le_refl _, Nat.le_refl _⟩
  | cons w ws ih =>
    unfold words at ih ⊢
    cases e : w.2 <;> simp only [List.filter_cons, e, if_true, Bool.false_eq_true, if_false, List.map_cons, List.sum_cons, List.length_cons] <;> omega
/-! ### values of one shape on both sides -/
theorem i_isi {K : PySem.W.Frag} {x : V} {t n : String} {b : Bool} (ty : TyX K H x (.type t)) (e : kitB t n = some b) (q : Q (.bl b) H) : rIsi K [x, .ty n] H Q := ⟨x, .ty n, _, _, b, rfl, .ty n, ty, kit_ty e, q⟩
/-- plain data, as a value of the heap: numbers, texts, None, lists and tuples of them, no deeper than n -/
inductive Dt (H : Hp) : Nat → V → V → Prop
  | non {n} : Dt H n .non .non
  | int {n} (i : Int) : Dt H n (.int i) (.int i)
  | str {n} (s : Str) : Dt H n (.str s) (.str s)
  | bl {n} (b : Bool) : Dt H n (.bl b) (.bl b)
  | lst {n a b xs ys} : H a = some (.lst xs) → H b = some (.lst ys) → xs.length = ys.length → xs.length < 1000 → (∀ (i : Nat) x y, xs[i]? = some x → ys[i]? = some y → Dt H n x y) → Dt H (n + 1) (.ref a) (.ref b)
  | tup {n a b xs ys} : H a = some (.tup xs) → H b = some (.tup ys) → xs.length = ys.length → xs.length < 1000 → (∀ (i : Nat) x y, xs[i]? = some x → ys[i]? = some y → Dt H n x y) → Dt H (n + 1) (.ref a) (.ref b)
theorem Dt.same {H H' : Hp} {n : Nat} {x y : V} (s : Same H H') (d : Dt H n x y) : Dt H' n x y := by
  induction d with
  | non => exact .non
  | int i => exact .int i
  | str t => exact .str t
  | bl b => exact .bl b
  | lst h1 h2 l z _ ih => exact .lst (s _ _ h1) (s _ _ h2) l z ih
  | tup h1 h2 l z _ ih => exact .tup (s _ _ h1) (s _ _ h2) l z ih
theorem i_andV (q : ta σ H fun x H1 => ∃ c, x = .bl c ∧ if c = true then tb σ H1 Q else Q (.bl false) H1) : tAndV ta tb σ H Q := q
theorem i_notV (q : ta σ H fun x H1 => ∃ c, x = .bl c ∧ Q (.bl (!c)) H1) : tNotV ta σ H Q := q
theorem i_truth {c : Bool} {R : Bool → Prop} (q : R c) : ∃ c', V.bl c = .bl c' ∧ R c' := ⟨c, rfl, q⟩
theorem i_isNn {x : V} {b : Bool} (e : decide (x = V.non) = b) (q : Q (.bl b) H) : V.non = V.non ∧ Q (.bl (decide (x = .non))) H := ⟨rfl, by rw [e]; exact q⟩
theorem iteT' {A B : Prop} (q : A) : if true = true then A else B := by rw [if_pos rfl]; exact q
theorem iteF' {A B : Prop} (q : B) : if false = true then A else B := by rw [if_neg Bool.false_ne_true]; exact q
theorem i_isiT {K : PySem.W.Frag} {x : V} {t n : String} (ty : TyX K H x (.type t)) (e : kitB t n = some true) (q : Q (.bl true) H) : rIsi K [x, .ty n] H Q := i_isi ty e q
theorem i_isiF {K : PySem.W.Frag} {x : V} {t n : String} (ty : TyX K H x (.type t)) (e : kitB t n = some false) (q : Q (.bl false) H) : rIsi K [x, .ty n] H Q := i_isi ty e q
theorem i_isNT {x : V} (e : x = V.non) (q : Q (.bl true) H) : rIsN x .non H Q := i_isNn (decide_eq_true e) q
theorem i_isNF {x : V} (e : x ≠ V.non) (q : Q (.bl false) H) : rIsN x .non H Q := i_isNn (decide_eq_false e) q
theorem i_neBB {b : Bool} (q : Q (.bl false) H) : rNe (.bl b) (.bl b) H Q := ⟨rfl, by rw [decide_eq_true rfl]; exact q⟩
theorem i_eqBB {b : Bool} (q : Q (.bl true) H) : rEq (.bl b) (.bl b) H Q := ⟨rfl, by rw [decide_eq_true rfl]; exact q⟩
theorem i_eqSS {t : Str} (q : Q (.bl true) H) : rEq (.str t) (.str t) H Q := ⟨rfl, by rw [decide_eq_true rfl]; exact q⟩
theorem i_eqII {i : Int} (q : Q (.bl true) H) : rEq (.int i) (.int i) H Q := ⟨rfl, by rw [decide_eq_true rfl]; exact q⟩
/-- a statement and what follows it, shown once for all ends of the statement -/
theorem i_seqK {t u : TS} {D : Ends} (R : L2.St → Hp → Prop) (rest : ∀ σ' H', R σ' H' → u D σ' H') (q : (∀ σ' H', R σ' H' → u D σ' H') → t { D with nx := u D } σ H) : tSeq t u D σ H := q rest
end
end U

set_option Elab.async false
set_option linter.all false
set_option maxRecDepth 100000
set_option maxHeartbeats 4000000
/-! # U: more readings; plain data side by side; heaps that grow but for their tables -/
namespace U
open PySem L2 LamX
section
variable {σ : L2.St} {H H1 H2 : Hp} {Q : VK} {K : PySem.W.Frag} {ta tb tc : TE}
/-- 0 <= x < y, all of them at hand -/
theorem i_chLL {a b : Nat} {i j k : Int} (hj : σ[a]? = some (some (.int j))) (hk : σ[b]? = some (some (.int k))) (q : Q (.bl (decide (i ≤ j ∧ j < k))) H) : tChain rLe rLt (tC (.int i)) (tVar a) (tVar b) σ H Q := by
  refine i_chain (i_c (i_var hj (i_le (i_bl ?_))))
  by_cases h : i ≤ j
  · rw [decide_eq_true h, if_pos rfl]
    refine i_var hk (i_lt ?_)
    rw [show decide (j < k) = decide (i ≤ j ∧ j < k) by simp [h]]
    exact q
  · rw [decide_eq_false h, if_neg Bool.false_ne_true]
    rw [show (false : Bool) = decide (i ≤ j ∧ j < k) by simp [h]]
    exact q
/-- a and b, both truth values -/
theorem i_andP {P R : Prop} {_ : Decidable P} {_ : Decidable R} {te : TE} (h : te σ H fun y H' => y = .bl (decide R) ∧ Q (.bl (decide (P ∧ R))) H') (n : ¬ P → Q (.bl (decide (P ∧ R))) H) : ∃ c, V.bl (decide P) = .bl c ∧ if c = true then te σ H (fun y H' => y = .bl (decide R) ∧ Q (.bl (decide (P ∧ R))) H') else Q (.bl (decide (P ∧ R))) H := by
  refine ⟨_, rfl, ?_⟩
  by_cases z : P
  · rw [if_pos (decide_eq_true z)]; exact h
  · rw [if_neg (by rw [decide_eq_false z]; exact Bool.false_ne_true)]; exact n z
theorem i_lam {T : List (Addr × Str)} {TT : (XK → Hp → VK → Prop) → Hp → VK → Prop} {t : XK → TE} (h : Tabs T H) (q : ∀ H1, ExtN H H1 → Tabs T H1 → TT (fun E H' Q' => t E σ H' Q') H1 Q) : tLam T TT t σ H Q := ⟨h, q⟩
theorem ExtN.of_same (s : Same H H1) : ExtN H H1 := fun b o h _ => s b o h
theorem ne_of_get {a b : Addr} {o u : HO} (h : H a = some o) (g : H b = some u) (n : o ≠ u) : a ≠ b := fun e => by
  rw [e, g] at h
  exact n (Option.some.inj h).symm
theorem ExtN.lst {a : Addr} {xs : List V} (e : ExtN H H1) (h : H a = some (.lst xs)) : H1 a = some (.lst xs) := e _ _ h fun _ z => nomatch z
theorem ExtN.tup {a : Addr} {xs : List V} (e : ExtN H H1) (h : H a = some (.tup xs)) : H1 a = some (.tup xs) := e _ _ h fun _ z => nomatch z
theorem ExtN.ins {a C dx : Addr} {fs : List (Str × V)} (e : ExtN H H1) (h : H a = some (.ins C dx fs)) : H1 a = some (.ins C dx fs) := e _ _ h fun _ z => nomatch z
/-- a statement and what follows it; what follows is not seen within -/
theorem i_seqG {D : Ends} {t u : TS} (R : L2.St → Hp → Prop) (rest : ∀ σ' H', R σ' H' → u D σ' H') (q : ∀ N : L2.St → Hp → Prop, (∀ σ' H', R σ' H' → N σ' H') → t { D with nx := N } σ H) : tSeq t u D σ H := q _ rest
/-- an expression and what follows it, likewise -/
theorem i_cutG {te : TE} (P : V → Hp → Prop) (rest : ∀ x H', P x H' → Q x H') (q : ∀ Q' : VK, (∀ x H', P x H' → Q' x H') → te σ H Q') : te σ H Q := q _ rest
/-! plain data, side by side -/
inductive Dts (H : Hp) (n : Nat) : List V → List V → Prop
  | nil : Dts H n [] []
  | cons {x y xs ys} : Dt H n x y → Dts H n xs ys → Dts H n (x :: xs) (y :: ys)
theorem Dts.len {n : Nat} {xs ys : List V} (d : Dts H n xs ys) : xs.length = ys.length := by
  induction d with
  | nil => rfl
  | cons _ _ ih => simp [ih]
theorem Dts.get {n : Nat} {xs ys : List V} (d : Dts H n xs ys) : ∀ (i : Nat) x y, xs[i]? = some x → ys[i]? = some y → Dt H n x y := by
  induction d with
  | nil => intro i x y h; simp at h
  | cons d _ ih =>
    intro i x y h g
    cases i with
    | zero =>
      cases Option.some.inj h
      cases Option.some.inj g
      exact d
    | succ i => exact ih i x y h g
theorem Dts.lst {n : Nat} {a b : Addr} {xs ys : List V} (h1 : H a = some (.lst xs)) (h2 : H b = some (.lst ys)) (d : Dts H n xs ys) (l : xs.length < 1000) : Dt H (n + 1) (.ref a) (.ref b) := .lst h1 h2 d.len l d.get
theorem Dts.tup {n : Nat} {a b : Addr} {xs ys : List V} (h1 : H a = some (.tup xs)) (h2 : H b = some (.tup ys)) (d : Dts H n xs ys) (l : xs.length < 1000) : Dt H (n + 1) (.ref a) (.ref b) := .tup h1 h2 d.len l d.get
end
end U
namespace LamX
open PySem L2
/-- what the end asks of a law with one table -/
def LawAtS' (P : Program) (w : World) (K : PySem.W.Frag) (CX : World → CXT) (k : Nat) (fa : Addr) (h : Heap) (mg : Str → Option Value) (Pt c : Addr) (sp : Sp) : Prop :=
  ∃ fd : FuncData, h.get? Pt = some { cls := .none, data := .fields #[] } ∧ K.lookup Pt = none ∧ PySem.W.CodeHd h c Pt ∧ (∀ (s : Shared) (v : Value), BindsTo s fd ⟨[v], []⟩ [("_law_script", v)]) ∧
    ∀ base : Heap, K.In base → base.Ns mainGlobals mg → TabB base mg c Pt → FnOk P w K mg base (CX w) k fa fd ["_law_script"] sp
end LamX

set_option Elab.async false
set_option linter.all false
set_option maxRecDepth 100000
set_option maxHeartbeats 4000000
/-! # U: defs with keyword-only parameters; what a call of a certain form binds -/
namespace U
open PySem L2
/-- positional call: ds are lacking at the end -/
abbrev BP (K : PySem.W.Frag) (fd : FuncData) (ps : List Str) (ds : List V) : Prop := ∃ us, Vals ds us ∧ Binds K fd ps us
/-- n positional values and the keywords ks -/
abbrev BN (K : PySem.W.Frag) (fd : FuncData) (ps : List Str) (n : Nat) (ks : List Str) (gV : List V → List V → List V) : Prop := ∃ g, KBn K fd ps n ks g gV
structure DK (K : PySem.W.Frag) (mg : Str → Option Value) (x : Str) (st : Stmt) (dv : List V) (kws : List (Str × V)) (B : FuncData → Prop) : Prop where
  ex : ∃ (f : Addr) (fd : FuncData), FunA K x x st dv kws f fd ∧ mg x = some (.ref f) ∧ B fd
structure MK (K : PySem.W.Frag) (C : Addr) (m q : Str) (st : Stmt) (dv : List V) (kws : List (Str × V)) (B : FuncData → Prop) : Prop where
  ex : ∃ (f : Addr) (fd : FuncData), FunA K m q st dv kws f fd ∧ Cls K C ∧ Meth K C m f ∧ B fd
structure NK (K : PySem.W.Frag) (mg : Str → Option Value) (x : Str) (C : Addr) (q : Str) (st : Stmt) (dv : List V) (kws : List (Str × V)) (B : FuncData → Prop) : Prop where
  ex : ∃ (f : Addr) (fd : FuncData), FunA K "__init__" q st dv kws f fd ∧ Mk K C f ∧ mg x = some (.ref C) ∧ B fd
section
variable (P : Program) (w : World) (K : PySem.W.Frag) (mg : Str → Option Value) (base : Heap)
structure ClK (k : Nat) (x : Str) (ps : List Str) (sp : Sp) (B : FuncData → Prop) : Prop where
  ex : ∃ (f : Addr) (fd : FuncData), FnOk P w K mg base (L2N.CX P w) k f fd ps sp ∧ mg x = some (.ref f) ∧ PySem.W.keepIn K (.ref f) = true ∧ B fd
structure MtK (k : Nat) (C : Addr) (m : Str) (ps : List Str) (sp : Sp) (B : FuncData → Prop) : Prop where
  ex : ∃ (f : Addr) (fd : FuncData), FnOk P w K mg base (L2N.CX P w) k f fd ps sp ∧ Cls K C ∧ Meth K C m f ∧ B fd
structure NwK (k : Nat) (x : Str) (C : Addr) (ps : List Str) (sp : Sp) (B : FuncData → Prop) : Prop where
  ex : ∃ (f : Addr) (fd : FuncData), FnOk P w K mg base (L2N.CX P w) k f fd ps sp ∧ Mk K C f ∧ mg x = some (.ref C) ∧ B fd
end
section
variable {P : Program} {w : World} {K : PySem.W.Frag} {mg : Str → Option Value} {base : Heap} {st : Stmt} {ps N : List Str} {dv : List V} {kws : List (Str × V)} {k : Nat} {sp : Sp} {B : FuncData → Prop} {x q : Str}
/-- what is asked of the body -/
abbrev BodyOk (P : Program) (w : World) (K : PySem.W.Frag) (mg : Str → Option Value) (base : Heap) (k : Nat) (q : Str) (st : Stmt) (N : List Str) (sp : Sp) : Prop :=
  ∀ (f : Addr) (cdv : Value) (A : Around) (outer : List Env) (s : Shared) (H : Hp) (vs : List V) (Q : VK) (E : XK), Room k (A.deeper (PyProof.Rows.envOfC q (defScope st) s.heap.objs.size f cdv)) → sp vs H Q E →
    ∃ t, PSs (cxOf (L2N.CX P w) P w K mg base N q (defScope st) f cdv A outer s H E) (defBody st) t ∧ t { nx := fun _ H' => Q .non H', rt := Q } (start N vs) H
theorem DK.ok (F : DK K mg x st dv kws B) (S : FnScope N ps (defScope st)) (len : ∀ vs H Q E, sp vs H Q E → vs.length = ps.length) (b : BodyOk P w K mg base k x st N sp) : ClK P w K mg base (k + 1) x ps sp B :=
  F.ex.elim fun f z => z.elim fun fd ⟨F, m, h⟩ => ⟨f, fd, F.ok S len (b f), m, F.kp, h⟩
theorem MK.ok {C : Addr} {m : Str} (F : MK K C m q st dv kws B) (S : FnScope N ps (defScope st)) (len : ∀ vs H Q E, sp vs H Q E → vs.length = ps.length) (b : BodyOk P w K mg base k q st N sp) : MtK P w K mg base (k + 1) C m ps sp B :=
  F.ex.elim fun f z => z.elim fun fd ⟨F, c, m, h⟩ => ⟨f, fd, F.ok S len (b f), c, m, h⟩
theorem NK.ok {C : Addr} (F : NK K mg x C q st dv kws B) (S : FnScope N ps (defScope st)) (len : ∀ vs H Q E, sp vs H Q E → vs.length = ps.length) (b : BodyOk P w K mg base k q st N sp) : NwK P w K mg base (k + 1) x C ps sp B :=
  F.ex.elim fun f z => z.elim fun fd ⟨F, c, m, h⟩ => ⟨f, fd, F.ok S len (b f), c, m, h⟩
/-- every parameter is told: the defaults are not looked at -/
theorem bnAll {params : Arguments} {body : List Stmt} {scope : Scope} {f : Addr} {fd : FuncData} {n : Nat} {ks : List Str} (F : FunD K x q params body scope dv kws f fd) (g : {α : Type} → List α → List α → List α) (rel : ∀ {vs zs : List V} {us ws : List Value}, Vals vs us → Vals zs ws → Vals (g vs zs) (g us ws))
    (h : ∀ (dV kV doc pm : Value) (an : Option Addr) (cdv ct : Value) (us ws : List Value), us.length = n → ws.length = ks.length → bindArgs (PySem.W.fnOf x q params body scope dV kV doc pm an cdv ct) ⟨us, ks.zip ws⟩ = pure (ps.zip (g us ws))) : BN K fd ps n ks g := by
  rcases F.ex with ⟨oc, od, dV, kV, doc, pm, an, cdv, ct, osl, rfl, _⟩
  exact ⟨g, fun s us ws _ l1 l2 => BindsTo.of_eq (h dV kV doc pm an cdv ct us ws l1 l2), rel⟩
/-- the same of a def whose only defaults are keyword-only ones -/
theorem bnAll0 {params : Arguments} {body : List Stmt} {scope : Scope} {f : Addr} {fd : FuncData} {n : Nat} {ks : List Str} (F : FunD K x q params body scope [] kws f fd) (ne : kws ≠ []) (g : {α : Type} → List α → List α → List α) (rel : ∀ {vs zs : List V} {us ws : List Value}, Vals vs us → Vals zs ws → Vals (g vs zs) (g us ws))
    (h : ∀ (D : Addr) (doc pm : Value) (an : Option Addr) (cdv ct : Value) (us ws : List Value), us.length = n → ws.length = ks.length → bindArgs (PySem.W.fnOf x q params body scope .none (.ref D) doc pm an cdv ct) ⟨us, ks.zip ws⟩ = pure (ps.zip (g us ws))) : BN K fd ps n ks g := by
  rcases F.ex with ⟨oc, od, dV, kV, doc, pm, an, cdv, ct, osl, rfl, _, _, d, k⟩
  rcases d with ⟨_, rfl⟩ | ⟨no, _⟩
  · rcases k with no | ⟨D, rfl, _⟩
    · exact absurd no ne
    · exact ⟨g, fun s us ws _ l1 l2 => BindsTo.of_eq (h D doc pm an cdv ct us ws l1 l2), rel⟩
  · exact absurd rfl no
end
section
variable {σ : L2.St} {H : Hp} {Q : VK}
theorem i_callN {n m : Nat} {sp : Sp} {gV : List V → List V → List V} {E : XK} {t tk : TA} (q : t σ H fun vs H1 => tk σ H1 fun zs H2 => vs.length = n ∧ zs.length = m ∧ sp (gV vs zs) H2 Q E) : tCallN n m sp gV E t tk σ H Q := q
theorem i_lens {xs ys : List V} {n m : Nat} {R : Prop} (h1 : xs.length = n) (h2 : ys.length = m) (q : R) : xs.length = n ∧ ys.length = m ∧ R := ⟨h1, h2, q⟩
end
end U

set_option Elab.async false
set_option linter.all false
set_option maxRecDepth 100000
set_option maxHeartbeats 4000000
/-! # U: zip(.., strict=True) over two lists or tuples of one length -/
namespace U
open PySem PySem.Spec PyProof.Rows L2
/-- the record of a strict zip: f, the flag of the pair that is out; TI, its iterators; TO, its pair -/
def zrec (f : Value) (TI TO : Addr) : Obj := { cls := .type "zip", dict := none, data := .fields #[f, .bool false, .bool true, .ref TI, .ref TO], slots := #[] }
abbrev zipNext (z : Addr) : Sem PySem.Fin := Builtin.«zip.__next__» ⟨[.ref z], []⟩
def duo (x y : Value) : Obj := { cls := .type "tuple", data := .seq #[x, y] }
section
variable {prog : Program} {w : World} {A : Around} {E : Value → Shared → Prop} {it j1 j2 z TI TO : Addr} {fp f1 f2 : List Addr} {n m i : Nat} {R R1 R2 : Nat → Value → Prop} {St S1 S2 : Nat → Heap → Prop} {u v : Value}
theorem draw_item {s : Shared} {Q : Option Value → Shared → Prop} (D : Draws prog w A it fp n R St) (lt : i < n) (st : St i s.heap) (q : ∀ x h tk, R i x → St (i + 1) h → Heap.SameBut it s.heap h → Q (some x) { s with heap := h, toks := tk }) :
    wpAny (model prog w) A (Builtin.SmallTypes.nextOrEnd (.ref it)) Q E s := by
  unfold Builtin.SmallTypes.nextOrEnd
  apply wpAny_bind
  apply wpAny_attempt
  exact D.item i s _ _ lt st fun x h tk a b c => wpAny_pure (q x h tk a b c)
theorem draw_done {s : Shared} {Q : Option Value → Shared → Prop} (D : Draws prog w A it fp n R St) (st : St n s.heap) (q : ∀ h, Heap.ExtBut it s.heap h → Q none { s with heap := h }) :
    wpAny (model prog w) A (Builtin.SmallTypes.nextOrEnd (.ref it)) Q E s := by
  unfold Builtin.SmallTypes.nextOrEnd
  apply wpAny_bind
  apply wpAny_attempt
  refine D.done s _ _ st ?_
  rintro h e k ⟨o, there, c⟩
  exact wpAny_bind (wpAny_isInstance (T := "StopIteration") (b := true) ⟨o, there, c⟩ isSubtype_stop (wpAny_pure (q h k)))
/-- the pair of the record gets its k-th -/
theorem duo_set {s : Shared} {Q : Unit → Shared → Prop} {x : Value} {k : Nat} (t : s.heap.get? TO = some (duo u v)) (q : ∀ h, h.get? TO = some (if k = 0 then duo x v else duo u x) → Heap.SameBut TO s.heap h → Q () { s with heap := h }) (hk : k < 2) :
    wpAny (model prog w) A (updateSeq TO (·.setIfInBounds k x)) Q E s := by
  apply wpAny_updateSeq t rfl
  apply q
  · rw [Heap.get?_update_self _ t rfl]
    have two : k = 0 ∨ k = 1 := by omega
    rcases two with rfl | rfl <;> rfl
  · exact Heap.SameBut.update ..
theorem zs_item {s : Shared} {Q : Value → Shared → Prop} (S : ZipSep2 z TI TO j1 j2 f1 f2) (D1 : Draws prog w A j1 f1 n R1 S1) (D2 : Draws prog w A j2 f2 m R2 S2) (lt : i < n) (lt2 : i < m)
    (tz : s.heap.get? z = some (zrec .none TI TO)) (ti : s.heap.get? TI = some (duo (.ref j1) (.ref j2))) (to_ : s.heap.get? TO = some (duo u v)) (a1 : S1 i s.heap) (a2 : S2 i s.heap)
    (q : ∀ x y h tk, R1 i x → R2 i y → h.get? z = some (zrec (rawInt s.heap.objs.size) TI TO) → h.get? TO = some (duo x y) → S1 (i + 1) h → S2 (i + 1) h → h.get? s.heap.objs.size = some (duo x y) →
      (∀ c o, c ≠ z → c ≠ TO → c ≠ j1 → c ≠ j2 → s.heap.get? c = some o → h.get? c = some o) → Q (.ref s.heap.objs.size) { s with heap := h, toks := tk }) : wpAny (model prog w) A (zipNext z) (fun fin s' => ∃ v, fin = .done (.ret v) ∧ Q v s') E s := by
  rcases s with ⟨hp, gs, dd, t0, os⟩
  have zj1 : z ≠ j1 := S.zi1
  have zj2 : z ≠ j2 := S.zi2
  have Tj1 : TO ≠ j1 := S.Ti1
  have Tj2 : TO ≠ j2 := S.Ti2
  -- what the record tells
  apply wpAny_bind (m := field (.ref z) 2)
  apply wpAny_field tz rfl (x := .bool true) rfl
  apply wpAny_bind (m := field (.ref z) 3)
  apply wpAny_field tz rfl (x := .ref TI) rfl
  apply wpAny_bind (m := seqItems? (.ref TI))
  apply wpAny_seqItems ti rfl
  apply wpAny_bind (m := Builtin.SmallTypes.ownedTupleIsFree (.ref z))
  delta Builtin.SmallTypes.ownedTupleIsFree
  dsimp only
  apply wpAny_bind
  apply wpAny_field tz rfl (x := .none) rfl
  apply wpAny_pure
  rw [if_pos (by rfl)]
  apply wpAny_bind
  apply wpAny_rule
  apply wpAny_bind
  apply wpAny_field tz rfl (x := .ref TO) rfl
  apply wpAny_bind
  apply wpAny_setField_rec tz (by show 0 < 5; decide)
  intro k0 b0 c0
  have tz0 : k0.get? z = some (zrec .ellipsis TI TO) := b0
  have c0 : Heap.SameBut z hp k0 := c0
  apply wpAny_bind
  rw [show (#[Value.ref j1, Value.ref j2].toList.zipIdx) = [(.ref j1, 0), (.ref j2, 1)] from rfl]
  rw [List.forIn_cons]
  -- the first one's
  apply wpAny_bind
  apply wpAny_bind
  apply wpAny_onRaise
  refine draw_item D1 lt (D1.over a1 c0 S.zf1) fun x k1 t1 r1 n1 c1 => ?_
  have c1 : Heap.SameBut j1 k0 k1 := c1
  have to1 : k1.get? TO = some (duo u v) := c1.extBut _ _ Tj1 (c0.extBut _ _ S.TOz to_)
  apply wpAny_bind
  apply wpAny_seqItems (s := ⟨k1, gs, dd, t1, os⟩) to1 rfl
  apply wpAny_bind
  refine duo_set (s := ⟨k1, gs, dd, t1, os⟩) to1 (k := 0) (fun k2 to2 c2 => ?_) (by decide)
  rw [if_pos rfl] at to2
  have c2 : Heap.SameBut TO k1 k2 := c2
  apply wpAny_bind
  apply wpAny_letGo
  apply wpAny_pure
  dsimp only
  rw [List.forIn_cons]
  -- the second one's
  apply wpAny_bind
  apply wpAny_bind
  apply wpAny_onRaise
  refine draw_item (s := ⟨k2, gs, dd, t1, os⟩) D2 lt2 (D2.over (D2.over (D2.over a2 c0 S.zf2) c1 S.sep1_2) c2 S.Tf2) fun y k3 t2 r2 n2 c3 => ?_
  have c3 : Heap.SameBut j2 k2 k3 := c3
  have to3 : k3.get? TO = some (duo x v) := c3.extBut _ _ Tj2 to2
  apply wpAny_bind
  apply wpAny_seqItems (s := ⟨k3, gs, dd, t2, os⟩) to3 rfl
  apply wpAny_bind
  refine duo_set (s := ⟨k3, gs, dd, t2, os⟩) to3 (k := 1) (fun k4 to4 c4 => ?_) (by decide)
  rw [if_neg (by decide)] at to4
  have c4 : Heap.SameBut TO k3 k4 := c4
  apply wpAny_bind
  apply wpAny_letGo
  apply wpAny_pure
  dsimp only
  rw [List.forIn_nil]
  apply wpAny_pure
  dsimp only
  -- the pair is handed out
  apply wpAny_bind
  apply wpAny_seqItems (s := ⟨k4, gs, dd, t2, os⟩) to4 rfl
  apply wpAny_bind
  refine wpAny_newTuple ?_
  have size4 : k4.objs.size = hp.objs.size := by rw [c4.1, c3.1, c2.1, c1.1, c0.1]
  have tz4 : k4.get? z = some (zrec .ellipsis TI TO) := by
    refine c4.extBut _ _ S.TOz.symm (c3.extBut _ _ zj2 (c2.extBut _ _ S.TOz.symm (c1.extBut _ _ zj1 tz0)))
  have ext4 : ∀ c o, c ≠ z → c ≠ TO → c ≠ j1 → c ≠ j2 → hp.get? c = some o → k4.get? c = some o := by
    intro c o m1 m2 m3 m4 e
    exact c4.extBut c o m2 (c3.extBut c o m4 (c2.extBut c o m2 (c1.extBut c o m3 (c0.extBut c o m1 e))))
  have e1 : S1 (i + 1) k4 := D1.over (D1.over (D1.over n1 c2 S.Tf1) c3 S.sep2_1) c4 S.Tf1
  have e2 : S2 (i + 1) k4 := D2.over n2 c4 S.Tf2
  have low : z < k4.objs.size := Heap.lt_size tz4
  apply wpAny_bind
  delta Builtin.SmallTypes.ownedTupleHandOut
  dsimp only
  have tz5 : (k4.push (duo x y)).get? z = some (zrec .ellipsis TI TO) := Heap.get?_push_of_some _ tz4
  have new5 : (k4.push (duo x y)).get? k4.objs.size = some (duo x y) := Heap.get?_push_size _ rfl
  apply wpAny_bind
  apply wpAny_setField_rec (s := ⟨k4.push (duo x y), gs, dd, t2, os⟩) tz5 (by show 0 < 5; decide)
  intro k6 b6 c6
  have tz6 : k6.get? z = some (zrec (rawInt k4.objs.size) TI TO) := b6
  have c6 : Heap.SameBut z (k4.push (duo x y)) k6 := c6
  apply wpAny_setField_rec (s := ⟨k6, gs, dd, t2, os⟩) tz6 (by show 1 < 5; decide)
  intro k7 b7 c7
  have tz7 : k7.get? z = some (zrec (rawInt k4.objs.size) TI TO) := b7
  have c7 : Heap.SameBut z k6 k7 := c7
  have on : ∀ c o, c ≠ z → k4.get? c = some o → k7.get? c = some o := by
    intro c o m e
    exact c7.extBut c o m (c6.extBut c o m (Heap.get?_push_of_some _ e))
  have new7 : k7.get? k4.objs.size = some (duo x y) := c7.extBut _ _ (Nat.ne_of_gt low) (c6.extBut _ _ (Nat.ne_of_gt low) new5)
  rw [size4] at tz7 new7
  apply wpAny_pure
  refine ⟨_, rfl, ?_⟩
  show Q (.ref k4.objs.size) ⟨k7, gs, dd, t2, os⟩
  rw [size4]
  refine q x y k7 t2 r1 r2 tz7 (on _ _ S.TOz to4) ?_ ?_ new7 ?_
  · exact D1.frame _ _ _ e1 fun c m o e => on c o (fun h => S.zf1 (h ▸ m)) e
  · exact D2.frame _ _ _ e2 fun c m o e => on c o (fun h => S.zf2 (h ▸ m)) e
  · intro c o m1 m2 m3 m4 e
    exact on c o m1 (ext4 c o m1 m2 m3 m4 e)
/-- StopIteration is raised where nothing is handled -/
theorem stop_cool {α : Type} {s : Shared} {Q : α → Shared → Prop} (cool : A.handled = none) (q : ∀ h e, (∀ c o, s.heap.get? c = some o → h.get? c = some o) → (∃ o, h.get? e = some o ∧ o.cls = .type "StopIteration") → E (.ref e) { s with heap := h }) :
    wpAny (model prog w) A (Builtin.SmallTypes.stopIteration : Sem α) Q E s := by
  unfold Builtin.SmallTypes.stopIteration
  wp_walk
  unfold raiseNew
  apply wpAny_bind
  apply wpAny_handled
  rw [cool]
  apply wpAny_throw
  refine q _ _ ?_ ⟨_, Heap.get?_push_size _ rfl, rfl⟩
  intro c o e
  apply Heap.get?_push_of_some
  apply Heap.get?_push_of_some
  exact e
/-- both have come to their ends -/
theorem zs_done {s : Shared} {Q : Fin → Shared → Prop} (cool : A.handled = none) (S : ZipSep2 z TI TO j1 j2 f1 f2) (D1 : Draws prog w A j1 f1 n R1 S1) (D2 : Draws prog w A j2 f2 n R2 S2)
    (tz : s.heap.get? z = some (zrec .none TI TO)) (ti : s.heap.get? TI = some (duo (.ref j1) (.ref j2))) (to_ : s.heap.get? TO = some (duo u v)) (a1 : S1 n s.heap) (a2 : S2 n s.heap)
    (q : ∀ h e, (∀ c o, c ≠ z → c ≠ TO → c ≠ j1 → c ≠ j2 → s.heap.get? c = some o → h.get? c = some o) → (∃ o, h.get? e = some o ∧ o.cls = .type "StopIteration") → E (.ref e) { s with heap := h }) : wpAny (model prog w) A (zipNext z) Q E s := by
  rcases s with ⟨hp, gs, dd, t0, os⟩
  have zj1 : z ≠ j1 := S.zi1
  have zj2 : z ≠ j2 := S.zi2
  apply wpAny_bind (m := field (.ref z) 2)
  apply wpAny_field tz rfl (x := .bool true) rfl
  apply wpAny_bind (m := field (.ref z) 3)
  apply wpAny_field tz rfl (x := .ref TI) rfl
  apply wpAny_bind (m := seqItems? (.ref TI))
  apply wpAny_seqItems ti rfl
  apply wpAny_bind (m := Builtin.SmallTypes.ownedTupleIsFree (.ref z))
  delta Builtin.SmallTypes.ownedTupleIsFree
  dsimp only
  apply wpAny_bind
  apply wpAny_field tz rfl (x := .none) rfl
  apply wpAny_pure
  rw [if_pos (by rfl)]
  apply wpAny_bind
  apply wpAny_rule
  apply wpAny_bind
  apply wpAny_field tz rfl (x := .ref TO) rfl
  apply wpAny_bind
  apply wpAny_setField_rec tz (by show 0 < 5; decide)
  intro k0 b0 c0
  have tz0 : k0.get? z = some (zrec .ellipsis TI TO) := b0
  have c0 : Heap.SameBut z hp k0 := c0
  apply wpAny_bind
  rw [show (#[Value.ref j1, Value.ref j2].toList.zipIdx) = [(.ref j1, 0), (.ref j2, 1)] from rfl]
  rw [List.forIn_cons]
  apply wpAny_bind
  apply wpAny_bind
  apply wpAny_onRaise
  refine draw_done D1 (D1.over a1 c0 S.zf1) fun k1 c1 => ?_
  have c1 : Heap.ExtBut j1 k0 k1 := c1
  have tz1 : k1.get? z = some (zrec .ellipsis TI TO) := c1 _ _ zj1 tz0
  have a2' : S2 n k1 := D2.frame _ _ _ (D2.over a2 c0 S.zf2) fun c m o e => c1 c o (fun h => S.sep1_2 (h ▸ m)) e
  dsimp only
  apply wpAny_bind
  apply wpAny_setField_rec (s := ⟨k1, gs, dd, t0, os⟩) tz1 (by show 0 < 5; decide)
  intro k2 b2 c2
  have c2 : Heap.SameBut z k1 k2 := c2
  apply wpAny_bind
  show wpAny (model prog w) A _ _ _ _
  k_delta "zipStrictEnd"
  dsimp only
  rw [if_neg (Nat.lt_irrefl 0)]
  rw [show ((List.drop 1 [Value.ref j1, Value.ref j2]).zipIdx 1) = [(.ref j2, 1)] from rfl]
  rw [List.forIn_cons]
  apply wpAny_bind
  apply wpAny_bind
  apply wpAny_bind
  refine draw_done (s := ⟨k2, gs, dd, t0, os⟩) D2 (D2.over a2' c2 S.zf2) fun k3 c3 => ?_
  have c3 : Heap.ExtBut j2 k2 k3 := c3
  dsimp only
  rw [if_neg (by decide)]
  apply wpAny_pure
  dsimp only
  rw [List.forIn_nil]
  apply wpAny_pure
  apply wpAny_bind
  apply wpAny_rule
  refine stop_cool (s := ⟨k3, gs, dd, t0, os⟩) cool fun k4 e k is => ?_
  refine q k4 e (fun c o m1 m2 m3 m4 g => ?_) is
  exact k c o (c3 c o m4 (c2.extBut c o m1 (c1 c o m3 (c0.extBut c o m1 g))))
end
/-! ### a strict zip, made -/
def zs1 (h : Heap) (o1 o2 : Obj) : Heap := ((h.push o1).push o2).push (duo (.ref h.objs.size) (.ref (h.push o1).objs.size))
def zs2 (h : Heap) (o1 o2 : Obj) : Heap := (zs1 h o1 o2).push (duo .none .none)
def zs3 (h : Heap) (o1 o2 : Obj) : Heap := (zs2 h o1 o2).push (zrec .none ((h.push o1).push o2).objs.size (zs1 h o1 o2).objs.size)
theorem zs_new {v1 v2 : Value} {o1 o2 : Obj} {G1 G2 : Heap → Prop} (B1 : Begins v1 o1 G1) (B2 : Begins v2 o2 G2) (k : Str) (hk : (k != "strict") = false) :
    Meets (Builtin.«zip.__new__» ⟨[.type "zip", v1, v2], [(k, .bool true)]⟩) (fun _ R s => (G1 s.heap ∧ G2 s.heap) ∧ R (.ok (.ret (.ref (zs2 s.heap o1 o2).objs.size))) { s with heap := zs3 s.heap o1 o2 }) := by
  refine .of_wp ?_
  rintro prog w A R ⟨hp, gs, dd, t0, os⟩ ⟨⟨g1, g2⟩, go⟩
  have sub := sub_zip
  have first : ∀ {A₁ : Around} {E₁ Q₁ : Value → Shared → Prop}, Q₁ (.ref hp.objs.size) ⟨hp.push o1, gs, dd, t0, os⟩ → wpAny (model prog w) A₁ (pyIter v1) Q₁ E₁ ⟨hp, gs, dd, t0, os⟩ := fun z => B1.iter prog w _ _ ⟨hp, gs, dd, t0, os⟩ _ g1 z
  have second : ∀ {A₁ : Around} {E₁ Q₁ : Value → Shared → Prop}, Q₁ (.ref (hp.push o1).objs.size) ⟨(hp.push o1).push o2, gs, dd, t0, os⟩ → wpAny (model prog w) A₁ (pyIter v2) Q₁ E₁ ⟨hp.push o1, gs, dd, t0, os⟩ :=
    fun z => B2.iter prog w _ _ ⟨hp.push o1, gs, dd, t0, os⟩ _ (B2.keeps _ _ g2 fun b o e => Heap.get?_push_of_some _ e) z
  wp_walk using first, second
  exact ⟨_, rfl, go⟩
section
variable {A : Around} {E : Value → Shared → Prop} {prog : Program} {w : World}
theorem zs_type (a b c : Value) : checkTypeCall "zip" ⟨[a, b], [(PySem.Str.ofString "strict", c)]⟩ = pure () := by kernel_rfl
theorem zs_make (a b c : Value) : checkBuiltinCall "zip.__new__" ⟨[.type "zip", a, b], [(PySem.Str.ofString "strict", c)]⟩ = pure () := by kernel_rfl
theorem zs_init (o a b c : Value) : argsOk "object.__init__" ⟨[o, a, b], [(PySem.Str.ofString "strict", c)]⟩ := by
  unfold argsOk
  kernel_rfl
theorem zs_call {s : Shared} {v1 v2 : Value} {o1 o2 : Obj} {G1 G2 : Heap → Prop} {Q : Value → Shared → Prop} (B1 : Begins v1 o1 G1) (B2 : Begins v2 o2 G2) (g1 : G1 s.heap) (g2 : G2 s.heap)
    (q : Q (.ref (zs2 s.heap o1 o2).objs.size) { s with heap := zs3 s.heap o1 o2 }) : wpAny (model prog w) A (call (.type "zip") [v1, v2] [(PySem.Str.ofString "strict", .bool true)]) Q E s :=
  callType_newKw F.called_zip (by decide) (zs_type _ _ _) (zs_make _ _ _) (fun o => zs_init o _ _ _) F.entry_zip_new (zs_new B1 B2 _ (by decide +kernel)) ⟨⟨g1, g2⟩, ⟨_, Heap.get?_push_size (zs2 s.heap o1 o2) rfl, rfl⟩, q⟩
/-- a builtin type, called with keywords -/
theorem with_kw {M : Model} {env : Env} {s : Shared} {pos : Pos} {T : String} {x : Sem Value} {rest : List (Bool × Sem Value)} {ks : List (Option Str × Sem Value)} {Q : Value → Shared → Prop} (p1 : rest.any (·.1) = false) (p2 : ks.any (·.1.isNone) = false) (p3 : ks.all (·.1.isSome) = true)
    (h : wpAny M A (spliced ((false, x) :: rest)) (fun vs s1 => wpAny M A (evalAll (ks.map (·.2))) (fun us s2 => wpAny M A (call (.type T) vs ((ks.filterMap (·.1)).zip us)) Q E s2) E s1) E s) :
    wpAny M A (callWith pos (.type T) [] ((false, x) :: rest) ks) Q E s := by
  unfold callWith
  apply wpAny_bind
  apply wpAny_holding
  refine wpAny_mono (evalArgs_kwB (Q := fun a s1 => wpAny M A (call (.type T) a.pos a.kw) Q E s1) p3 h) ?_ fun _ _ z => z
  intro a s1 h1
  apply wpAny_bind
  apply wpAny_standAt
  simp only [List.any_cons, p1, p2, Bool.or_false]
  apply wpAny_bind
  apply wpAny_pure
  apply wpAny_bind
  apply wpAny_mono h1 ?_ fun _ _ z => z
  intro r s2 h2
  apply wpAny_bind
  apply wpAny_holding
  apply wpAny_point
  exact wpAny_pure h2
/-- the pair that is out is let go ahead of the store -/
theorem zs_go {s : Shared} {elts : List Expr} {kk : Nat} {tp : Pos} {z TI TO T : Addr} {Q : Unit → Shared → Prop} (tz : s.heap.get? z = some (zrec (rawInt T) TI TO)) (q : ∀ h, h.get? z = some (zrec .none TI TO) → Heap.SameBut z s.heap h → Q () { s with heap := h }) :
    wpAny (model prog w) A (letOwnedTupleGo (.Tuple elts kk tp) (.ref z) (.ref T)) Q E s := by
  unfold letOwnedTupleGo
  apply wpAny_bind
  apply wpAny_load tz
  show wpAny (model prog w) A (if _ then _ else _) Q E s
  rw [if_pos (by simp [zrec])]
  apply wpAny_bind
  apply wpAny_rule
  show wpAny (model prog w) A (setField (.ref z) 0 .none) Q E s
  apply wpAny_setField_rec tz (by show 0 < 5; decide)
  intro h a b
  exact q h a b
end
/-! ### the kinds: lists and tuples -/
inductive Kd | l | t
namespace Kd
def Sq : Kd → PySem.W.Frag → Hp → Addr → List V → Prop
  | .l => SqL
  | .t => SqT
def Cur : Kd → Heap → Addr → Addr → Nat → Prop
  | .l => Heap.IsListIter
  | .t => Heap.IsTupleIter
def Has : Kd → Heap → Addr → Array Value → Prop
  | .l => fun h a xs => h.IsList a xs
  | .t => fun h a xs => h.IsTuple a xs
def new : Kd → Addr → Obj
  | .l => fun a => { cls := .type "list_iterator", data := .fields #[.ref a, .int 0 0] }
  | .t => fun a => { cls := .type "tuple_iterator", data := .fields #[.ref a, .int 0 0] }
variable {h h' : Heap} {it a : Addr} {i : Nat} {us : Array Value}
theorem draws (k : Kd) {prog : Program} {w : World} {A : Around} (cool : A.handled = none) (ne : a ≠ it) : Draws prog w A it [it, a] us.size (fun i v => us[i]? = some v) (fun i h => k.Cur h it a i ∧ k.Has h a us) := by
  cases k with
  | l => exact .list cool it a ne us
  | t => exact .tuple cool it a ne us
theorem begins (k : Kd) : Begins (.ref a) (k.new a) (fun h => k.Has h a us) := by
  cases k with
  | l => exact begins_list a us
  | t => exact begins_tuple a us
theorem low (k : Kd) (x : k.Has h a us) : a < h.objs.size := by
  cases k with
  | l => exact x.elim fun _ p => Heap.lt_size p.1
  | t => exact x.elim fun _ p => Heap.lt_size p.1
theorem cur0 (k : Kd) (x : h.get? it = some (k.new a)) : k.Cur h it a 0 := by
  cases k with
  | l => exact ⟨_, x, rfl, rfl⟩
  | t => exact ⟨_, x, rfl, rfl⟩
theorem stays (k : Kd) (x : k.Cur h it a i) (e : ∀ o, h.get? it = some o → h'.get? it = some o) : k.Cur h' it a i := by
  cases k with
  | l => exact Heap.IsListIter.at x e
  | t => exact Heap.IsTupleIter.at x e
theorem obj (k : Kd) (x : k.Cur h it a i) : ∃ o, h.get? it = some o ∧ ∀ v, o.data ≠ .cell v := by
  cases k <;> (obtain ⟨o, g, _, d⟩ := x; exact ⟨o, g, fun v e => by rw [d] at e; cases e⟩)
section
variable {X : Cx} {pins : List (Addr × Obj)} {σ : L2.St} {H : Hp} {s : Shared} {xs ys : List V}
theorem at_ (k : Kd) (I : Inv X pins σ H s) (q : k.Sq X.K H a xs) : ∃ us : List Value, Vals xs us ∧ k.Has s.heap a us.toArray ∧ us.length = xs.length := by
  cases k with
  | l => exact (I.list q).elim fun us p => ⟨us, p.1, p.2.1.isList, p.1.length.symm⟩
  | t => exact (I.tuple q).elim fun us p => ⟨us, p.1, p.2.1, p.1.length.symm⟩
theorem inj (k : Kd) (I : Inv X pins σ H s) (q : k.Sq X.K H a xs) (r : k.Sq X.K H a ys) : xs = ys := by
  cases k with
  | l => exact I.list_inj q r
  | t => exact I.tuple_inj q r
end
end Kd
end U

set_option Elab.async false
set_option linter.all false
set_option maxRecDepth 100000
set_option maxHeartbeats 4000000
/-! # U: the walk over a strict zip -/
namespace U
open PySem PySem.Spec PyProof.Rows L2
/-- turn i gives a new pair of the i-th of both -/
def Its (k1 k2 : Kd) (K : PySem.W.Frag) (a b : Addr) : It where
  go i H := ∃ xs ys x y, k1.Sq K H a xs ∧ k2.Sq K H b ys ∧ xs[i]? = some x ∧ ys[i]? = some y
  yld i H v H' := ∃ T, H T = none ∧ v = .ref T ∧ ∃ x y, H' = upd H T (.tup [x, y]) ∧ (∀ xs, k1.Sq K H a xs → xs[i]? = some x) ∧ ∀ ys, k2.Sq K H b ys → ys[i]? = some y
  stop i H := ∃ xs ys, k1.Sq K H a xs ∧ k2.Sq K H b ys ∧ xs.length = i ∧ ys.length = i
/-- the cells of a strict zip at turn i -/
def Ats (k1 k2 : Kd) (z TI TO j1 j2 a b : Addr) (i : Nat) (h : Heap) : Prop :=
  h.get? z = some (zrec .none TI TO) ∧ h.get? TI = some (duo (.ref j1) (.ref j2)) ∧ (∃ u v, h.get? TO = some (duo u v)) ∧ k1.Cur h j1 a i ∧ k2.Cur h j2 b i
section
variable {P : Program} {w : World} {K : PySem.W.Frag} {k1 k2 : Kd} {z TI TO j1 j2 a b : Addr} {elts : List Expr} {kk : Nat} {tp : Pos}
theorem zs_turn (S : ZipSep2 z TI TO j1 j2 [j1, a] [j2, b]) (d1 : a ≠ j1) (d2 : b ≠ j2) : Turn P w K (.Tuple elts kk tp) (Its k1 k2 K a b) [z, TI, TO, j1, j2] z (Ats k1 k2 z TI TO j1 j2 a b) where
  mem := List.mem_cons_self
  obj i h := by
    rintro ⟨g1, g2, ⟨u, v, g3⟩, c1, c2⟩ c m
    simp only [List.mem_cons, List.not_mem_nil, or_false] at m
    rcases m with m | m | m | m | m
    · exact ⟨_, m ▸ g1, fun v e => (by cases e)⟩
    · exact ⟨_, m ▸ g2, fun v e => (by cases e)⟩
    · exact ⟨_, m ▸ g3, fun v e => (by cases e)⟩
    · exact m ▸ k1.obj c1
    · exact m ▸ k2.obj c2
  keep i h h' := by
    rintro ⟨g1, g2, ⟨u, v, g3⟩, c1, c2⟩ same
    exact ⟨same z (by simp) _ g1, same TI (by simp) _ g2, ⟨u, v, same TO (by simp) _ g3⟩, k1.stays c1 (same j1 (by simp)), k2.stays c2 (same j2 (by simp))⟩
  item X := by
    rintro rfl rfl rfl calm i pins s σ H E I ff ⟨g1, g2, ⟨u, v, g3⟩, c1, c2⟩ ⟨xs, ys, x, y, q1, q2, e1, e2⟩
    obtain ⟨us, r1, h1, l1⟩ := k1.at_ I q1
    obtain ⟨ws, r2, h2, l2⟩ := k2.at_ I q2
    obtain ⟨x', f1, rx⟩ := r1.get e1
    obtain ⟨y', f2, ry⟩ := r2.get e2
    have lt1 : i < us.toArray.size := by
      rw [List.size_toArray]
      exact (List.getElem?_eq_some_iff.mp f1).1
    have lt2 : i < ws.toArray.size := by
      rw [List.size_toArray]
      exact (List.getElem?_eq_some_iff.mp f2).1
    have is : s.TypeIs (.ref z) "zip" := ⟨_, g1, rfl⟩
    have zlow : z < s.heap.objs.size := Heap.lt_size g1
    refine next_by is F.slot_zip_next (wpAny_call_entry F.slot_zip_next is F.entry_zip_next ?_ (F.args_zip_next_1 _))
    refine zs_item (A := X.A.in1) S (k1.draws (I.ok.hd calm) d1 (us := us.toArray)) (k2.draws (I.ok.hd calm) d2 (us := ws.toArray)) lt1 lt2 g1 g2 g3 ⟨c1, h1⟩ ⟨c2, h2⟩ ?_
    intro x2 y2 g tk p1 p2 tz to_ a1 a2 new kept
    have ex : x2 = x' := Option.some.inj ((show us[i]? = some x2 by simpa using p1).symm.trans f1)
    have ey : y2 = y' := Option.some.inj ((show ws[i]? = some y2 by simpa using p2).symm.trans f2)
    rw [ex, ey] at new
    refine ⟨_, rfl, zs_go (s := { s with heap := g, toks := tk }) tz fun g7 tz7 c7 => ?_⟩
    have new7 : g7.get? s.heap.objs.size = some (duo x' y') := c7.extBut _ _ (Nat.ne_of_gt zlow) new
    have low : ∀ c ∈ [z, TI, TO, j1, j2], c ≠ s.heap.objs.size := by
      intro c m
      have there : ∃ o, s.heap.get? c = some o := by
        simp only [List.mem_cons, List.not_mem_nil, or_false] at m
        rcases m with m | m | m | m | m
        · exact ⟨_, m ▸ g1⟩
        · exact ⟨_, m ▸ g2⟩
        · exact ⟨_, m ▸ g3⟩
        · exact m ▸ (k1.obj c1).elim fun o p => ⟨o, p.1⟩
        · exact m ▸ (k2.obj c2).elim fun o p => ⟨o, p.1⟩
      exact there.elim fun o e => Nat.ne_of_lt (Heap.lt_size e)
    refine ⟨.ref s.heap.objs.size, upd H s.heap.objs.size (.tup [x, y]), ?_, rfl, ⟨_, I.hok.fresh (Nat.le_refl _), rfl, x, y, rfl, fun l q => k1.inj I q1 q ▸ e1, fun l q => k2.inj I q2 q ▸ e2⟩, ⟨tz7, ?_, ⟨_, _, c7.extBut _ _ S.TOz to_⟩, k1.stays a1.1 fun o e => c7.extBut _ _ S.zi1.symm e, k2.stays a2.1 fun o e => c7.extBut _ _ S.zi2.symm e⟩, fun c m => ?_⟩
    · refine I.turnedNew (ch := [z, TI, TO, j1, j2]) ?_ ff (Nat.le_refl _) ⟨?_, [x', y'], .cons rx (.cons ry .nil), _, new7, rfl, 0, rfl⟩
      · intro c o nc e
        simp only [List.mem_cons, List.not_mem_nil, or_false, not_or] at nc
        exact (c7.2 c nc.1).trans (kept c o nc.1 nc.2.2.1 nc.2.2.2.1 nc.2.2.2.2 e)
      · show 2 ≤ sizeLine
        rw [sizeLine_eq]
        decide
    · exact c7.extBut _ _ S.TIz (kept TI _ S.TIz S.TITO S.TIi1 S.TIi2 g2)
    · rw [upd_ne (low c m)]
      exact (ff c m).1
  done X := by
    rintro rfl rfl rfl calm i pins s σ H E I ff ⟨g1, g2, ⟨u, v, g3⟩, c1, c2⟩ ⟨xs, ys, q1, q2, n1, n2⟩
    obtain ⟨us, r1, h1, l1⟩ := k1.at_ I q1
    obtain ⟨ws, r2, h2, l2⟩ := k2.at_ I q2
    have is : s.TypeIs (.ref z) "zip" := ⟨_, g1, rfl⟩
    refine next_by is F.slot_zip_next (wpAny_call_entry F.slot_zip_next is F.entry_zip_next ?_ (F.args_zip_next_1 _))
    have z1 : us.toArray.size = i := by rw [List.size_toArray, l1, n1]
    have z2 : ws.toArray.size = i := by rw [List.size_toArray, l2, n2]
    have D1 := k1.draws (prog := X.prog) (w := X.w) (A := X.A.in1) (I.ok.hd calm) d1 (us := us.toArray)
    have D2 := k2.draws (prog := X.prog) (w := X.w) (A := X.A.in1) (I.ok.hd calm) d2 (us := ws.toArray)
    rw [z1] at D1
    rw [z2] at D2
    refine zs_done (A := X.A.in1) (I.ok.hd calm) S D1 D2 g1 g2 g3 ⟨c1, h1⟩ ⟨c2, h2⟩ fun g e kept stop => ?_
    obtain ⟨o, there, c⟩ := stop
    refine ⟨⟨o, e, rfl, there, c⟩, rfl, I.turnedL (t' := s.toks) (ch := [z, TI, TO, j1, j2]) (fun c o nc e => ?_) ff⟩
    simp only [List.mem_cons, List.not_mem_nil, or_false, not_or] at nc
    exact kept c o nc.1 nc.2.2.1 nc.2.2.2.1 nc.2.2.2.2 e
  self A i s Q E st q := by
    have is : s.TypeIs (.ref z) "zip" := ⟨_, st.1, rfl⟩
    apply wpAny_pyIter_slot is F.slot_zip_iter
    apply wpAny_call_entry F.slot_zip_iter is F.entry_zip_iter ?_ (F.args_zip_iter_1 _)
    refine wpAny_pure ⟨_, rfl, "zip", _, is, F.slot_zip_next.lookup, q⟩
/-- a walk over a strict zip of two of one length -/
theorem walk_zs {xs ys : List V} (len : xs.length = ys.length) : Walk (Its k1 k2 K a b) xs.length (fun H => k1.Sq K H a xs ∧ k2.Sq K H b ys) (YPair (fun i => xs[i]?) (fun i => ys[i]?)) where
  goes i H lt q := ⟨xs, ys, xs[i], ys[i]'(len ▸ lt), q.1, q.2, List.getElem?_eq_getElem lt, List.getElem?_eq_getElem (len ▸ lt)⟩
  stops H q := ⟨xs, ys, q.1, q.2, rfl, len.symm⟩
  yields i H v H' _ q y := by
    rcases y with ⟨T, fresh, ev, x, u, eH, f, g⟩
    exact ⟨T, x, u, ev, fresh, eH, f xs q.1, g ys q.2⟩
end
def iZipS (K : PySem.W.Frag) (ts tk : TA) : TI := fun σ H R => ts σ H fun vs G => tk σ G fun us J => us = [.bl true] ∧ ∃ (k1 k2 : Kd) (a b : Addr) (xs ys : List V), vs = [.ref a, .ref b] ∧ k1.Sq K J a xs ∧ k2.Sq K J b ys ∧ R (Its k1 k2 K a b) J
theorem i_zipS {K : PySem.W.Frag} {σ : L2.St} {H : Hp} {ts tk : TA} {R : It → Hp → Prop} (q : ts σ H fun vs G => tk σ G fun us J => us = [.bl true] ∧ ∃ (k1 k2 : Kd) (a b : Addr) (xs ys : List V), vs = [.ref a, .ref b] ∧ k1.Sq K J a xs ∧ k2.Sq K J b ys ∧ R (Its k1 k2 K a b) J) : iZipS K ts tk σ H R := q
theorem i_zipTT {K : PySem.W.Frag} {H : Hp} {a b : Addr} {xs ys : List V} {R : Kd → Kd → Addr → Addr → Prop} (q1 : SqT K H a xs) (q2 : SqT K H b ys) (r : R .t .t a b) : [V.bl true] = [.bl true] ∧ ∃ (k1 k2 : Kd) (a' b' : Addr) (xs ys : List V), [V.ref a, V.ref b] = [.ref a', .ref b'] ∧ k1.Sq K H a' xs ∧ k2.Sq K H b' ys ∧ R k1 k2 a' b' := ⟨rfl, .t, .t, a, b, xs, ys, rfl, q1, q2, r⟩
theorem i_zipLL {K : PySem.W.Frag} {H : Hp} {a b : Addr} {xs ys : List V} {R : Kd → Kd → Addr → Addr → Prop} (q1 : SqL K H a xs) (q2 : SqL K H b ys) (r : R .l .l a b) : [V.bl true] = [.bl true] ∧ ∃ (k1 k2 : Kd) (a' b' : Addr) (xs ys : List V), [V.ref a, V.ref b] = [.ref a', .ref b'] ∧ k1.Sq K H a' xs ∧ k2.Sq K H b' ys ∧ R k1 k2 a' b' := ⟨rfl, .l, .l, a, b, xs, ys, rfl, q1, q2, r⟩
section
variable {X : Cx} {e e2 : Expr} {ts tk : TA} {p pos : Pos} {kws : List Keyword}
/-- for .. in zip(e, e2, strict=True) -/
theorem pi_zipS {elts : List Expr} {kk : Nat} {tp : Pos} (gl : Gl X "zip") (no : X.mg "zip" = none) (ar : PA X [e, e2] ts) (kw : PK X kws tk) (all : (backToKw pos (keywordEach kws X.env)).all (·.1.isSome) = true := by rfl)
    (named : (backToKw pos (keywordEach kws X.env)).filterMap (·.1) = [PySem.Str.ofString "strict"] := by rfl) (none_ : (backToKw pos (keywordEach kws X.env)).any (·.1.isNone) = false := by rfl)
    (two : backTo pos (starEach [e, e2] X.env) = (false, eval e X.env) :: backTo pos (starEach [e2] X.env) := by rfl) (flat : (backTo pos (starEach [e2] X.env)).any (·.1) = false := by rfl) :
    PI X (.Tuple elts kk tp) (.Call (.Name "zip" p) [e, e2] kws pos) (iZipS X.K ts tk) where
  run pins s σ H R I h := by
    refine wpAny_Call_Name_kw (ld_blt I gl no boot_zip ?_)
    rw [two]
    refine with_kw (env := X.env) flat none_ all ?_
    rw [← two]
    refine thn (ar.run pos pins s σ H _ I h) ?_
    rintro us s1 ⟨vs, H1, I1, rs, h1⟩
    refine thn (kw.run pos pins s1 σ H1 _ I1 h1) ?_
    rintro ws s2 ⟨zs, H2, I2, rz, eq, k1, k2, a, b, xs, ys, ev, q1, q2, r⟩
    subst eq
    subst ev
    rw [named]
    rcases rs with _ | ⟨ra, _ | ⟨rb, _ | _⟩⟩
    rcases rz with _ | ⟨rt, _ | _⟩
    cases ra
    cases rb
    cases rt
    obtain ⟨us1, _, f1, _⟩ := k1.at_ I2 q1
    obtain ⟨us2, _, f2, _⟩ := k2.at_ I2 q2
    refine zs_call (k1.begins (us := us1.toArray)) (k2.begins (us := us2.toArray)) f1 f2 ?_
    have n1 : (s2.heap.push (k1.new a)).objs.size = s2.heap.objs.size + 1 := Array.size_push _
    have n2 : ((s2.heap.push (k1.new a)).push (k2.new b)).objs.size = s2.heap.objs.size + 2 := (Array.size_push _).trans (congrArg (· + 1) n1)
    have n3 : (zs1 s2.heap (k1.new a) (k2.new b)).objs.size = s2.heap.objs.size + 3 := (Array.size_push _).trans (congrArg (· + 1) n2)
    have n4 : (zs2 s2.heap (k1.new a) (k2.new b)).objs.size = s2.heap.objs.size + 4 := (Array.size_push _).trans (congrArg (· + 1) n3)
    have old : ∀ c o, s2.heap.get? c = some o → (zs3 s2.heap (k1.new a) (k2.new b)).get? c = some o := by
      intro c o e
      unfold zs3 zs2 zs1
      iterate 5 apply Heap.get?_push_of_some
      exact e
    have at0 : (zs3 s2.heap (k1.new a) (k2.new b)).get? s2.heap.objs.size = some (k1.new a) := by
      unfold zs3 zs2 zs1
      iterate 4 apply Heap.get?_push_of_some
      exact Heap.get?_push_size _ (k1.begins (us := us1.toArray)).free
    have at1 : (zs3 s2.heap (k1.new a) (k2.new b)).get? (s2.heap.objs.size + 1) = some (k2.new b) := by
      unfold zs3 zs2 zs1
      iterate 3 apply Heap.get?_push_of_some
      rw [← n1]
      exact Heap.get?_push_size _ (k2.begins (us := us2.toArray)).free
    have at2 : (zs3 s2.heap (k1.new a) (k2.new b)).get? (s2.heap.objs.size + 2) = some (duo (.ref s2.heap.objs.size) (.ref (s2.heap.objs.size + 1))) := by
      unfold zs3 zs2
      iterate 2 apply Heap.get?_push_of_some
      rw [← n2, ← n1]
      apply Heap.get?_push_size
      rfl
    have at3 : (zs3 s2.heap (k1.new a) (k2.new b)).get? (s2.heap.objs.size + 3) = some (duo .none .none) := by
      unfold zs3
      apply Heap.get?_push_of_some
      rw [← n3]
      apply Heap.get?_push_size
      rfl
    have at4 : (zs3 s2.heap (k1.new a) (k2.new b)).get? (s2.heap.objs.size + 4) = some (zrec .none (s2.heap.objs.size + 2) (s2.heap.objs.size + 3)) := by
      rw [← n4, ← n3, ← n2]
      apply Heap.get?_push_size
      rfl
    rw [n4]
    have la : a < s2.heap.objs.size := k1.low f1
    have lb : b < s2.heap.objs.size := k2.low f2
    have T := zs_turn (P := X.prog) (w := X.w) (K := X.K) (k1 := k1) (k2 := k2) (elts := elts) (kk := kk) (tp := tp) (zip_sep2 (N := s2.heap.objs.size) (fp1 := [a]) (fp2 := [b]) (by simpa using la) (by simpa using lb)) (Nat.ne_of_lt la) (Nat.ne_of_lt (Nat.lt_succ_of_lt lb))
    refine T.self _ 0 _ _ _ ⟨at4, at2, ⟨_, _, at3⟩, k1.cur0 at0, k2.cur0 at1⟩ ?_
    refine ⟨s2.heap.objs.size + 4, [s2.heap.objs.size + 4, s2.heap.objs.size + 2, s2.heap.objs.size + 3, s2.heap.objs.size, s2.heap.objs.size + 1], _, _, H2, rfl, I2.kept (t' := s2.toks) old, T, ⟨at4, at2, ⟨_, _, at3⟩, k1.cur0 at0, k2.cur0 at1⟩, fun c m => ?_, r⟩
    have high : s2.heap.objs.size ≤ c := by
      have m' : c = s2.heap.objs.size + 4 ∨ c = s2.heap.objs.size + 2 ∨ c = s2.heap.objs.size + 3 ∨ c = s2.heap.objs.size ∨ c = s2.heap.objs.size + 1 := by simpa using m
      rcases m' with m' | m' | m' | m' | m' <;> subst m' <;> first | exact Nat.le_refl _ | exact Nat.le_add_right _ _
    exact I2.fpOk high (I2.hok.fresh high)
end
end U

set_option Elab.async false
set_option linter.all false
set_option maxRecDepth 100000
set_option maxHeartbeats 4000000
/-! # U: tuples times numbers, cut and joined; rows: tuples of ints -/
namespace U
open PySem PySem.Spec PyProof.Rows L2
section
variable {l : Addr} {us : Array Value} {n : Nat} {dd : Option Addr} {sl : Array (Option Value)} {x : Int} {u : Tok}
/-- a tuple once: itself -/
theorem tuple_once (o : Obj) (ho : o = { cls := .type "tuple", dict := dd, data := .seq us n, slots := sl }) : Meets (Builtin.«tuple.__mul__» ⟨[.ref l, .int 1 u], []⟩) (fun _ R s => s.heap.get? l = some o ∧ R (.ok (.ret (.ref l))) s) := by
  subst ho
  refine .of_wp ?_
  rintro prog w A R ⟨hp, gs, dr, t0, os⟩ ⟨here, go⟩
  have f1 := AutoSeq1.idx_int
  wp_walk using wpAny_loadPart' here
  exact ⟨_, rfl, go⟩
/-- a tuple no times: an empty one -/
theorem tuple_none (o : Obj) (ho : o = { cls := .type "tuple", dict := dd, data := .seq us n, slots := sl }) (ne : us.isEmpty = false) (neg : x ≤ 0) (low : -(2 ^ 63) ≤ x) : Meets (Builtin.«tuple.__mul__» ⟨[.ref l, .int x u], []⟩) (fun _ R s => s.heap.get? l = some o ∧
    R (.ok (.ret (.ref s.heap.objs.size))) { s with heap := s.heap.push { cls := .type "tuple", data := .seq #[] } }) := by
  subst ho
  refine .of_wp ?_
  rintro prog w A R ⟨hp, gs, dr, t0, os⟩ ⟨here, go⟩
  have f1 := AutoSeq1.idx_int
  wp_walk using wpAny_loadPart' here
  rw [if_neg (by rw [decide_eq_false (by omega), decide_eq_false (by omega)]; exact Bool.false_ne_true)]
  wp_walk using wpAny_loadPart' here
  rw [if_neg (by rw [ne, beq_eq_false_iff_ne.mpr (by omega)]; exact Bool.false_ne_true)]
  rw [if_pos (by rw [decide_eq_true neg]; rfl)]
  wp_walk using wpAny_loadPart' here
  exact ⟨_, rfl, go⟩
end
def rRepA : R2 := fun x y H Q => ∃ l k xs, x = .ref l ∧ y = .int k ∧ H l = some (.tup xs) ∧ xs ≠ [] ∧ -1000 ≤ k ∧ k ≤ 1000 ∧ xs.length ≤ 1000 ∧ ∀ p H', Same H H' → H' p = some (.tup (List.replicate k.toNat xs).flatten) → Q (.ref p) H'
section
variable {X : Cx}
/-- how a tuple times an int comes to tuple.__mul__ -/
theorem rep_to {s : Shared} {l : Addr} {us : Array Value} {n : Nat} {dd : Option Addr} {sl : Array (Option Value)} {k : Int} {t : Tok} {S : PySem.Spec} {Q : Value → Shared → Prop} (o : Obj) (ho : o = { cls := .type "tuple", dict := dd, data := .seq us n, slots := sl }) (here : s.heap.get? l = some o)
    (m : Meets (Builtin.«tuple.__mul__» ⟨[.ref l, .int k t], []⟩) S) (q : ∀ A, S A (PySem.wants Q X.xe) s) : wpAny (model X.prog X.w) X.A (binaryOp .Mult (.ref l) (.int k t)) Q X.xe s := by
  subst ho
  have ty : s.TypeIs (.ref l) "tuple" := ⟨_, here, rfl⟩
  have first := int_rmul_tuple k t l us n dd sl
  apply wpAny_binaryOp_repeat_ref (T := "tuple") (U := "int") (by decide) ty (fun s' => typeIs_int s' k t) noFill_tuple_mul F.fills_int_mul F.slot_int_rmul repeat_tuple F.slot_int_index.lookup
  apply call_meets F.slot_int_rmul (typeIs_int s k t) F.entry_int_rmul (F.args_int_rmul_2 _ _) first
  refine ⟨here, rfl, ty, ?_⟩
  exact call_meets F.slot_tuple_mul ty F.entry_tuple_mul (F.args_tuple_mul_2 _ _) m (q _)
theorem u_repA : OpR X (binaryOp .Mult) rRepA := by
  rintro pins s σ H x y v u Q I rx ry ⟨l, k, xs, rfl, rfl, at_, ne, k0, k1, few, q⟩
  by_cases big : 2 ≤ k
  · refine op_repT pins s σ H _ _ v u Q I rx ry ⟨l, k, xs, rfl, rfl, SqT.of at_, ne, big, k1, few, fun p hp => ?_⟩
    exact q p _ (same_new hp) upd_same
  cases rx
  obtain ⟨t, rfl⟩ := ry
  obtain ⟨us, r, ⟨⟨cls, dd, data, sl⟩, ho, hc, n, hd⟩, hs⟩ := I.tuple (SqT.of at_)
  simp only at hc hd
  subst hc hd
  have len : us.length = xs.length := r.length.symm
  by_cases one : k = 1
  · subst one
    refine rep_to _ rfl ho (tuple_once _ rfl) fun A => ⟨ho, ?_⟩
    refine ⟨.ref l, H, I, rfl, q l H (Same.refl H) ?_⟩
    rw [at_]
    simp
  · have emp : us.toArray.isEmpty = false := by
      cases us with
      | nil => exact absurd (List.eq_nil_of_length_eq_zero (by rw [← len]; rfl)) ne
      | cons a b => rfl
    refine rep_to _ rfl ho (tuple_none _ rfl emp (by omega) (by omega)) fun A => ⟨ho, ?_⟩
    have z : k.toNat = 0 := by omega
    refine ⟨.ref s.heap.objs.size, _, I.laid (t' := s.toks) (o := .tup []) (fun b ob q => Heap.get?_push_of_some _ q) (Nat.le_refl _) ?_, rfl, q _ _ (same_new (I.hok.fresh (Nat.le_refl _))) ?_⟩
    · exact ⟨Nat.zero_le _, [], .nil, IsTup.new _ _⟩
    · rw [z]
      exact upd_same
end
section
variable {σ : L2.St} {H : Hp} {Q : VK} {K : PySem.W.Frag}
theorem i_repA {l : Addr} {k : Int} {xs : List V} (h : H l = some (.tup xs)) (ne : xs ≠ []) (k0 : -1000 ≤ k) (k1 : k ≤ 1000) (few : xs.length ≤ 1000) (q : ∀ p H', Same H H' → H' p = some (.tup (List.replicate k.toNat xs).flatten) → Q (.ref p) H') : rRepA (.ref l) (.int k) H Q := ⟨l, k, xs, rfl, rfl, h, ne, k0, k1, few, q⟩
/-- t + u, told the same way whether or not something new is laid -/
theorem i_catA {a b : Addr} {xs ys : List V} (h1 : H a = some (.tup xs)) (h2 : H b = some (.tup ys)) (z : xs.length + ys.length ≤ sizeLine) (q : ∀ p H', Same H H' → H' p = some (.tup (xs ++ ys)) → Q (.ref p) H') : rCatA K (.ref a) (.ref b) H Q := by
  refine ⟨a, b, xs, ys, rfl, rfl, SqT.of h1, SqT.of h2, z, fun e => ?_, fun _ e => ?_, fun _ _ p hp => ?_⟩
  · subst e
    exact q b H (Same.refl H) h2
  · subst e
    exact q a H (Same.refl H) (by rw [List.append_nil]; exact h1)
  · exact q p _ (same_new hp) upd_same
/-- t[lo:hi], likewise -/
theorem i_slA {a : Addr} {xs : List V} {lo hi : Option Int} (h : H a = some (.tup xs)) (q : ∀ p H', Same H H' → H' p = some (.tup (cutV xs lo hi)) → Q (.ref p) H') : rSlA K (.ref a) lo hi H Q := by
  refine ⟨a, xs, rfl, SqT.of h, fun e => ?_, fun _ p hp => q p _ (same_new hp) upd_same⟩
  refine q a H (Same.refl H) ?_
  rw [h]
  unfold cutV
  rw [e.1, e.2]
  simp
end
def rTupleOf (K : PySem.W.Frag) : List V → Hp → VK → Prop := fun xs H Q => ∃ p ys, xs = [.ref p] ∧ ((SqL K H p ys ∧ ∀ l, H l = none → Q (.ref l) (upd H l (.tup ys))) ∨ (SqT K H p ys ∧ Q (.ref p) H))
theorem u_tupleOf {X : Cx} : CallR X (.type "tuple") (rTupleOf X.K) := call_tuple_of
theorem tupleOfK {X : Cx} (K : PySem.W.Frag) (h : X.K = K) : CallR X (.type "tuple") (rTupleOf K) := h ▸ u_tupleOf
theorem i_tupleOf {K : PySem.W.Frag} {H : Hp} {Q : VK} {p : Addr} {ys : List V} (h : H p = some (.lst ys)) (q : ∀ l, H l = none → Q (.ref l) (upd H l (.tup ys))) : rTupleOf K [.ref p] H Q := ⟨p, ys, rfl, .inl ⟨SqL.of h, q⟩⟩
theorem i_all {K : PySem.W.Frag} {H : Hp} {Q : VK} {p : Addr} {bs : List Bool} (h : H p = some (.lst (bs.map V.bl))) (q : Q (.bl (bs.all id)) H) : rAll K [.ref p] H Q := ⟨p, bs, rfl, SqL.of h, q⟩
theorem gd {l : List Int} {i : Nat} (h : i < l.length) : l[i]? = some (l.getD i 0) := by
  rw [List.getD_eq_getElem?_getD, List.getElem?_eq_getElem h]
  rfl
theorem gd_mem {l : List Int} {i : Nat} (h : i < l.length) : l.getD i 0 ∈ l := List.mem_of_getElem? (gd h)
/-- a def without defaults, called with keywords -/
theorem bnNone {K : PySem.W.Frag} {x q : Str} {ps : List Str} {params : Arguments} {body : List Stmt} {scope : Scope} {f : Addr} {fd : FuncData} {n : Nat} {ks : List Str} (F : FunD K x q params body scope [] [] f fd) (g : {α : Type} → List α → List α → List α) (rel : ∀ {vs zs : List V} {us ws : List Value}, Vals vs us → Vals zs ws → Vals (g vs zs) (g us ws))
    (h : ∀ (kV doc pm : Value) (an : Option Addr) (cdv ct : Value) (us ws : List Value), us.length = n → ws.length = ks.length → bindArgs (PySem.W.fnOf x q params body scope .none kV doc pm an cdv ct) ⟨us, ks.zip ws⟩ = pure (ps.zip (g us ws))) : BN K fd ps n ks g := by
  rcases F.ex with ⟨oc, od, dV, kV, doc, pm, an, cdv, ct, osl, rfl, _, _, d, _⟩
  rcases d with ⟨_, rfl⟩ | ⟨no, _⟩
  · exact ⟨g, fun s us ws _ l1 l2 => BindsTo.of_eq (h kV doc pm an cdv ct us ws l1 l2), rel⟩
  · exact absurd rfl no
/-! ### rows: tuples of ints; lists of rows -/
abbrev Row (H : Hp) (a : Addr) (r : List Int) : Prop := H a = some (.tup (r.map V.int))
inductive RowsAt (H : Hp) : List Addr → List (List Int) → Prop
  | nil : RowsAt H [] []
  | cons {a r as rs} : Row H a r → RowsAt H as rs → RowsAt H (a :: as) (r :: rs)
section
variable {H H' : Hp} {as bs : List Addr} {rs ts : List (List Int)}
theorem RowsAt.same (h : RowsAt H as rs) (s : Same H H') : RowsAt H' as rs := by
  induction h with
  | nil => exact .nil
  | cons r _ ih => exact .cons (s _ _ r) ih
theorem RowsAt.but {b : Addr} (h : RowsAt H as rs) (k : But b H H') (n : ∀ xs, H b ≠ some (.tup xs)) : RowsAt H' as rs := by
  induction h with
  | nil => exact .nil
  | cons r _ ih => exact .cons (k _ _ r fun e => n _ (e ▸ r)) ih
theorem RowsAt.ext (h : RowsAt H as rs) (s : LamX.ExtN H H') : RowsAt H' as rs := by
  induction h with
  | nil => exact .nil
  | cons r _ ih => exact .cons (ExtN.tup s r) ih
theorem RowsAt.app (h : RowsAt H as rs) (g : RowsAt H bs ts) : RowsAt H (as ++ bs) (rs ++ ts) := by
  induction h with
  | nil => exact g
  | cons r _ ih => exact .cons r ih
theorem RowsAt.len (h : RowsAt H as rs) : as.length = rs.length := by
  induction h with
  | nil => rfl
  | cons _ _ ih => simp [ih]
theorem RowsAt.get (h : RowsAt H as rs) : ∀ (i : Nat) (r : List Int), rs[i]? = some r → ∃ a, as[i]? = some a ∧ Row H a r := by
  induction h with
  | nil => intro i r e; simp at e
  | cons q _ ih =>
    intro i r e
    cases i with
    | zero =>
      cases Option.some.inj e
      exact ⟨_, rfl, q⟩
    | succ i => exact ih i r e
theorem RowsAt.getV (h : RowsAt H as rs) {i : Nat} {v : V} (e : (as.map V.ref)[i]? = some v) : ∃ a r, v = .ref a ∧ as[i]? = some a ∧ rs[i]? = some r ∧ Row H a r := by
  rw [List.getElem?_map] at e
  cases q : as[i]? with
  | none => rw [q] at e; cases e
  | some a =>
    rw [q] at e
    have lt := (List.getElem?_eq_some_iff.mp q).1
    obtain ⟨a', q', r'⟩ := h.get i _ (List.getElem?_eq_getElem (h.len ▸ lt))
    rw [q] at q'
    cases Option.some.inj q'
    exact ⟨a, _, (Option.some.inj e).symm, rfl, List.getElem?_eq_getElem (h.len ▸ lt), r'⟩
theorem RowsAt.set {a : Addr} {r : List Int} (h : RowsAt H as rs) (q : Row H a r) (i : Nat) : RowsAt H (as.set i a) (rs.set i r) := by
  induction h generalizing i with
  | nil => exact .nil
  | cons p t ih =>
    cases i with
    | zero => exact .cons q t
    | succ i => exact .cons p (ih i)
end
end U

set_option Elab.async false
set_option linter.all false
set_option maxRecDepth 100000
set_option maxHeartbeats 4000000
/-! # U: == and != of plain data -/
namespace U
open PySem L2
/-- plain data without texts and dicts, no deeper than n -/
inductive Pl : Nat → PyData → Prop
  | non {n} : Pl n .none
  | bl {n} (b : Bool) : Pl n (.bool b)
  | int {n} (i : Int) : Pl n (.int i)
  | str {n} (x : Str) (h : PyData.canLay0 (.str x) = true) : Pl n (.str x)
  | lst {n ds} : (∀ d ∈ ds, Pl n d) → Pl (n + 1) (.list ds)
  | tup {n ds} : (∀ d ∈ ds, Pl n d) → Pl (n + 1) (.tuple ds)
theorem layAll : ∀ {ds : List PyData}, (∀ d ∈ ds, PyData.canLay0 d = true) → PyData.canLayAll0 ds = true
  | [], _ => rfl
  | d :: ds, h => by
    show (PyData.canLay0 d && PyData.canLayAll0 ds) = true
    rw [h d List.mem_cons_self, layAll fun e m => h e (List.mem_cons_of_mem _ m)]
    rfl
theorem depAll {n : Nat} : ∀ {ds : List PyData}, (∀ d ∈ ds, PyData.depth d ≤ n) → PyData.depthAll ds ≤ n
  | [], _ => Nat.zero_le _
  | d :: ds, h => by
    show max (PyData.depth d) (PyData.depthAll ds) ≤ n
    have h1 := h d List.mem_cons_self
    have h2 := depAll fun e m => h e (List.mem_cons_of_mem _ m)
    omega
theorem eqAll : ∀ {ds : List PyData}, (∀ d ∈ ds, PyData.eqv d d = true) → PyData.eqvAll ds ds = true
  | [], _ => rfl
  | d :: ds, h => by
    show (PyData.eqv d d && PyData.eqvAll ds ds) = true
    rw [h d List.mem_cons_self, eqAll fun e m => h e (List.mem_cons_of_mem _ m)]
    rfl
theorem Pl.facts {n : Nat} {d : PyData} (p : Pl n d) : PyData.canLay0 d = true ∧ PyData.depth d ≤ n + 1 ∧ PyData.eqv d d = true := by
  induction p with
  | non => exact ⟨rfl, by simp [PyData.depth], rfl⟩
  | bl b => exact ⟨rfl, by simp [PyData.depth], by simp [PyData.eqv]⟩
  | int i => exact ⟨rfl, by simp [PyData.depth], by simp [PyData.eqv]⟩
  | str x h => exact ⟨h, by simp [PyData.depth], by simp [PyData.eqv]⟩
  | lst h ih =>
    refine ⟨?_, ?_, ?_⟩
    · simp only [PyData.canLay0]
      exact layAll fun d m => (ih d m).1
    · have := depAll fun d m => (ih d m).2.1
      simp only [PyData.depth]
      omega
    · simp only [PyData.eqv]
      exact eqAll fun d m => (ih d m).2.2
  | tup h ih =>
    refine ⟨?_, ?_, ?_⟩
    · simp only [PyData.canLay0]
      exact layAll fun d m => (ih d m).1
    · have := depAll fun d m => (ih d m).2.1
      simp only [PyData.depth]
      omega
    · simp only [PyData.eqv]
      exact eqAll fun d m => (ih d m).2.2
theorem Pl.shaped {n : Nat} {d : PyData} (p : Pl n d) (h : n ≤ 60) : SeqAt.shaped d = true := by
  have f := p.facts
  unfold SeqAt.shaped
  rw [f.1, decide_eq_true (by omega)]
  rfl
def rowD (r : List Int) : PyData := .tuple (r.map .int)
def rowsD (rs : List (List Int)) : PyData := .list (rs.map rowD)
theorem Pl.ints {n : Nat} {ns : List Int} : ∀ d ∈ ns.map PyData.int, Pl n d := fun d m => by
  obtain ⟨i, _, rfl⟩ := List.mem_map.mp m
  exact .int i
theorem Pl.row {n : Nat} (r : List Int) : Pl (n + 1) (rowD r) := .tup Pl.ints
theorem Pl.rows {n : Nat} (rs : List (List Int)) : Pl (n + 2) (rowsD rs) := .lst fun d m => by
  obtain ⟨r, _, rfl⟩ := List.mem_map.mp m
  exact .row r
section
variable {K : PySem.W.Frag} {H : Hp} {Q : VK}
theorem dpRow {a : Addr} {r : List Int} (h : Row H a r) : Dp K H (.ref a) (rowD r) := .tup (SqT.of h) (dpAll_ints r)
theorem dpRows {as : List Addr} {rs : List (List Int)} (h : RowsAt H as rs) : DpAll K H (as.map V.ref) (rs.map rowD) := by
  induction h with
  | nil => exact .nil
  | cons r _ ih => exact .cons (dpRow r) ih
theorem dpList {l : Addr} {as : List Addr} {rs : List (List Int)} (o : H l = some (.lst (as.map V.ref))) (h : RowsAt H as rs) : Dp K H (.ref l) (rowsD rs) := .lst (SqL.of o) (dpRows h)
theorem dpInts {l : Addr} {ns : List Int} (o : H l = some (.lst (ns.map V.int))) : Dp K H (.ref l) (.list (ns.map .int)) := .lst (SqL.of o) (dpAll_ints ns)
/-- x != y, both the same data -/
theorem i_neSame {x y : V} {n : Nat} {d : PyData} (h1 : Dp K H x d) (h2 : Dp K H y d) (p : Pl n d) (hn : n ≤ 60) (q : Q (.bl false) H) : rNeD K x y H Q := ⟨d, d, h1, h2, p.shaped hn, p.shaped hn, by rw [p.facts.2.2]; exact q⟩
/-- a list of rows against [] -/
theorem i_neNil {l e : Addr} {as : List Addr} {rs : List (List Int)} (o : H l = some (.lst (as.map V.ref))) (h : RowsAt H as rs) (oe : H e = some (.lst [])) (q : Q (.bl (!decide (rs = []))) H) : rNeD K (.ref l) (.ref e) H Q := by
  refine ⟨rowsD rs, .list [], dpList o h, .lst (SqL.of oe) .nil, (Pl.rows (n := 0) rs).shaped (by decide), (Pl.lst (n := 0) (fun _ m => by cases m)).shaped (by decide), ?_⟩
  have e1 : PyData.eqv (rowsD rs) (.list []) = decide (rs = []) := by
    unfold rowsD
    cases rs with
    | nil => simp [PyData.eqv, PyData.eqvAll]
    | cons r rs => simp [PyData.eqv, PyData.eqvAll]
  rw [e1]
  exact q
/-- a list of rows == [] -/
theorem i_eqNil {l e : Addr} {as : List Addr} {rs : List (List Int)} (o : H l = some (.lst (as.map V.ref))) (h : RowsAt H as rs) (oe : H e = some (.lst [])) (q : Q (.bl (decide (rs = []))) H) : rEqD K (.ref l) (.ref e) H Q := by
  refine ⟨rowsD rs, .list [], dpList o h, .lst (SqL.of oe) .nil, (Pl.rows (n := 0) rs).shaped (by decide), (Pl.lst (n := 0) (fun _ m => by cases m)).shaped (by decide), ?_⟩
  have e1 : PyData.eqv (rowsD rs) (.list []) = decide (rs = []) := by
    unfold rowsD
    cases rs with
    | nil => simp [PyData.eqv, PyData.eqvAll]
    | cons r rs => simp [PyData.eqv, PyData.eqvAll]
  rw [e1]
  exact q
theorem i_tupleOfT {p : Addr} {ys : List V} (h : H p = some (.tup ys)) (q : Q (.ref p) H) : rTupleOf K [.ref p] H Q := ⟨p, ys, rfl, .inr ⟨SqT.of h, q⟩⟩
end
end U

set_option Elab.async false
set_option linter.all false
set_option maxRecDepth 100000
set_option maxHeartbeats 4000000
/-! # U: len() and repr() of an own class, the truth of what has its own __len__ -/
namespace U
open PySem L2
section
variable {X : Cx} {n : Nat} {f C : Addr} {fd : FuncData} {ps : List Str} {sp : Sp}
/-- a def called somewhere below the running body -/
theorem own_call {A : Around} {pins : List (Addr × Obj)} {s : Shared} {σ : L2.St} {H : Hp} {xs : List V} {us : List Value} {Q : VK} (room : Room n A) (fr : A.frames = X.A.frames)
    (F : FnOk X.prog X.w X.K X.mg X.base (L2N.CX X.prog X.w) n f fd ps sp) (hb : Binds X.K fd ps []) (I : Inv X pins σ H s) (r : Vals xs us) (h : sp xs H Q fun _ _ _ => False) :
    wpAny (model X.prog X.w) A (call (.ref f) us) (EP X pins σ Q) X.xe s := by
  have e := I.env0
  have len : (us ++ []).length = ps.length := by
    rw [List.append_nil, ← F.len _ _ _ _ h]
    exact r.length.symm
  have bt : BindsTo s fd ⟨us, []⟩ (ps.zip us) := by simpa using hb s us I.kIn len
  have run := F.run A X.stack s H ⟨us, []⟩ us xs Q _ room { e with frames := fr ▸ e.frames } bt r h
  refine wpAny_call (codeAny_mono run ?_)
  intro z s' hz
  rcases z with er | fl
  · exact U.passN pins σ H s er s' I hz
  · cases fl with
    | ret u => exact I.after hz
    | _ => exact hz.elim
/-- what len() of an own thing asks -/
def rLenO (C : Addr) (sp : Sp) : List V → Hp → VK → Prop := fun xs H Q => ∃ a dx fs, xs = [.ref a] ∧ H a = some (.ins C dx fs) ∧ sp [.ref a] H (fun v H' => ∃ k : Int, v = .int k ∧ 0 ≤ k ∧ k < 2 ^ 63 ∧ Q (.int k) H') fun _ _ _ => False
theorem call_lenO (hs : PySem.W.findIn X.K (.ref C) "__len__" = some (some (.ref f))) (hf : PySem.W.isFn X.K (.ref f) = true) (room : Room (n + 1) X.A)
    (F : FnOk X.prog X.w X.K X.mg X.base (L2N.CX X.prog X.w) n f fd ps sp) (hb : Binds X.K fd ps []) : CallR X (.builtin "len") (rLenO C sp) := by
  intro pins s σ H xs us Q I r h
  obtain ⟨a, dx, fs, rfl, ha, hsp⟩ := h
  obtain ⟨u, rfl, ru⟩ : ∃ u, us = [u] ∧ RelV (.ref a) u := by
    cases r with
    | cons h t => cases t; exact ⟨_, rfl, h⟩
  cases ru
  obtain ⟨mA, J, _⟩ := ins_get I.hok ha
  obtain ⟨od, J, _⟩ := J.look
  obtain ⟨m, hF⟩ := I.fr
  refine PySem.W.len_K hF I.ok.mod.kin J hs hf ?_
  refine wpAny_mono (own_call room.in1 rfl F hb I r hsp) (fun v s' z => ?_) fun _ _ y => y
  obtain ⟨x, H', I', rx, k, rfl, k0, k1, q⟩ := z
  obtain ⟨t, rfl⟩ := rx
  exact ⟨⟨k0, k1⟩, .int k, H', I'.tok _, ⟨_, rfl⟩, q⟩
/-- the truth of an own thing without __bool__: its length -/
theorem own_truth {A : Around} {pins : List (Addr × Obj)} {s : Shared} {σ : L2.St} {H : Hp} {a dx : Addr} {fs : List (Str × V)} {Q : Bool → Hp → Prop} (room : Room (n + 1) A) (fr : A.frames = X.A.frames) (hbl : PySem.W.findIn X.K (.ref C) "__bool__" = some none) (hs : PySem.W.findIn X.K (.ref C) "__len__" = some (some (.ref f))) (hf : PySem.W.isFn X.K (.ref f) = true)
    (F : FnOk X.prog X.w X.K X.mg X.base (L2N.CX X.prog X.w) n f fd ps sp) (hb : Binds X.K fd ps []) (I : Inv X pins σ H s) (ha : H a = some (.ins C dx fs)) (hsp : sp [.ref a] H (fun v H' => ∃ k : Int, v = .int k ∧ 0 ≤ k ∧ k < 2 ^ 63 ∧ Q (k != 0) H') fun _ _ _ => False) :
    wpAny (model X.prog X.w) A (truthy (.ref a)) (TP X pins σ Q) X.xe s := by
  obtain ⟨mA, J, _⟩ := ins_get I.hok ha
  obtain ⟨od, J, _⟩ := J.look
  have K1 := I.kIn
  have inner : wpAny (model X.prog X.w) A (runValue (.builtin "len" ⟨[.ref a], []⟩)) (fun v s' => ∃ k t, v = .int k t ∧ TP X pins σ Q (k != 0) s') X.xe s := by
    refine wpAny_runValue (codeAny_builtin entry_len ?_)
    rw [Around.under_plainId plain_len _]
    unfold Builtin.«len»
    refine wpAny_bind (m := oneArg "len" _) (wpAny_pure ?_)
    refine wpAny_bind (m := callSpecial? (.ref a) (Str.ofString "__len__")) (PySem.W.special_fn K1 J hs (beq_iff_eq.mp hf) (wpAny_mono (own_call (xs := [.ref a]) room.in1 fr F hb I (.cons rfl .nil) hsp) (fun v s' z => ?_) fun _ _ y => y))
    obtain ⟨x, H', I', rx, k, rfl, k0, k1, q⟩ := z
    obtain ⟨t, rfl⟩ := rx
    refine wpAny_bind (wpAny_holding (wpAny_pure (wpAny_bind (wpAny_letGo ?_))))
    show wpAny _ _ (if k < 0 then _ else _) _ _ _
    rw [if_neg (Int.not_lt.mpr k0)]
    show wpAny _ _ (if k ≥ 2 ^ 63 then _ else _) _ _ _
    rw [if_neg (Int.not_le.mpr k1)]
    refine wpAny_bind (wpAny_mkInt (wpAny_pure ?_))
    exact ⟨k, _, rfl, H', I'.tok _, q⟩
  unfold truthy
  refine wpAny_bind (m := callSpecial? (.ref a) (Str.ofString "__bool__")) (DSub.special_no K1 J hbl ?_)
  refine wpAny_bind (wpAny_bind (J.type.here ((PySem.W.looks_findIn K1 hs).here ?_)))
  refine wpAny_bind (wpAny_mono inner (fun v s' z => ?_) fun _ _ y => y)
  obtain ⟨k, t, rfl, q⟩ := z
  exact wpAny_pure q
theorem tru_lenO (hbl : PySem.W.findIn X.K (.ref C) "__bool__" = some none) (hs : PySem.W.findIn X.K (.ref C) "__len__" = some (some (.ref f))) (hf : PySem.W.isFn X.K (.ref f) = true) (room : Room (n + 1) X.A)
    (F : FnOk X.prog X.w X.K X.mg X.base (L2N.CX X.prog X.w) n f fd ps sp) (hb : Binds X.K fd ps []) :
    TruR X (fun x H Q => ∃ a dx fs, x = .ref a ∧ H a = some (.ins C dx fs) ∧ sp [.ref a] H (fun v H' => ∃ k : Int, v = .int k ∧ 0 ≤ k ∧ k < 2 ^ 63 ∧ Q (k != 0) H') fun _ _ _ => False) := by
  intro pins s σ H x u Q I r h
  obtain ⟨a, dx, fs, rfl, ha, hsp⟩ := h
  cases r
  exact own_truth room rfl hbl hs hf F hb I ha hsp
/-- bool() of an own thing -/
def rBoolO (C : Addr) (sp : Sp) : List V → Hp → VK → Prop := fun xs H Q => ∃ a dx fs, xs = [.ref a] ∧ H a = some (.ins C dx fs) ∧ sp [.ref a] H (fun v H' => ∃ k : Int, v = .int k ∧ 0 ≤ k ∧ k < 2 ^ 63 ∧ Q (.bl (k != 0)) H') fun _ _ _ => False
theorem call_boolO (hbl : PySem.W.findIn X.K (.ref C) "__bool__" = some none) (hs : PySem.W.findIn X.K (.ref C) "__len__" = some (some (.ref f))) (hf : PySem.W.isFn X.K (.ref f) = true) (room : Room (n + 3) X.A)
    (F : FnOk X.prog X.w X.K X.mg X.base (L2N.CX X.prog X.w) n f fd ps sp) (hb : Binds X.K fd ps []) : CallR X (.type "bool") (rBoolO C sp) := by
  intro pins s σ H xs us Q I r h
  obtain ⟨a, dx, fs, rfl, ha, hsp⟩ := h
  obtain ⟨u, rfl, ru⟩ := vals1 r
  cases ru
  have g : MeetsIn X.prog X.w (Builtin.«bool.__new__» ⟨[.type "bool", .ref a], []⟩) (fun A R s => wpAny (model X.prog X.w) A.in1 (truthy (.ref a)) (fun b s' => R (.ok (.ret (.bool b))) s') (fun e s' => R (.error e) s') s) := MeetsIn.of_wp fun A R s1 hs1 => by
    obtain ⟨hp, gg, d, tk, os⟩ := s1
    have f1 := PySem.F.conv_sub_bool
    have hs2 := wpAny_mono hs1 (Q' := fun b s' => wpAny (model X.prog X.w) A.in1 (ret (.bool b)) (fun fin s' => ∃ v, fin = Fin.done (Flow.ret v) ∧ R (Except.ok (Flow.ret v)) s') (fun e s' => R (.error e) s') s') (fun b s' z => wpAny_pure ⟨_, rfl, z⟩) fun _ _ y => y
    repeat (any_goals (first | assumption | exact wpAny_bind hs2 | wp_step))
  refine callType_newIn PySem.F.called_bool PySem.F.newNe_bool (PySem.F.typeCall_bool_1 _) (PySem.F.newCall_bool_1 _) (fun obj => PySem.F.args_object_init_2 obj _) PySem.F.entry_bool_new g ?_
  refine wpAny_mono (own_truth (Q := fun b H' => Q (.bl b) H') room.in1.in1 rfl hbl hs hf F hb I ha hsp) (fun b s' z => ?_) fun _ _ y => y
  obtain ⟨H', I', q⟩ := z
  exact ⟨typeIs_bool _ _, .bl b, H', I', rfl, q⟩
/-- repr() of an own thing -/
def rReprO (C : Addr) (sp : Sp) : List V → Hp → VK → Prop := fun xs H Q => ∃ a dx fs, xs = [.ref a] ∧ H a = some (.ins C dx fs) ∧ sp [.ref a] H (fun v H' => ∃ z : Str, v = .str z ∧ Q (.str z) H') fun _ _ _ => False
theorem call_reprO (hs : PySem.W.findIn X.K (.ref C) "__repr__" = some (some (.ref f))) (hf : PySem.W.isFn X.K (.ref f) = true) (room : Room (n + 1) X.A)
    (F : FnOk X.prog X.w X.K X.mg X.base (L2N.CX X.prog X.w) n f fd ps sp) (hb : Binds X.K fd ps []) : CallR X (.builtin "repr") (rReprO C sp) := by
  intro pins s σ H xs us Q I r h
  obtain ⟨a, dx, fs, rfl, ha, hsp⟩ := h
  obtain ⟨u, rfl, ru⟩ := vals1 r
  cases ru
  obtain ⟨mA, J, _⟩ := ins_get I.hok ha
  obtain ⟨od, J, _⟩ := J.look
  obtain ⟨m, hF⟩ := I.fr
  refine PySem.W.repr_K room.in1.units0 hF I.ok.mod.kin J hs hf ?_
  refine wpAny_mono (own_call (xs := [.ref a]) room.in1 rfl F hb I (.cons rfl .nil) hsp) (fun v s' z => ?_) fun _ _ y => y
  obtain ⟨x, H', I', rx, z, rfl, q⟩ := z
  obtain ⟨t, rfl⟩ := rx
  exact ⟨.str z, H', I', ⟨_, rfl⟩, q⟩
/-- str() of an own thing -/
theorem call_strO (hs : PySem.W.findIn X.K (.ref C) "__str__" = some (some (.ref f))) (hf : PySem.W.isFn X.K (.ref f) = true) (room : Room (n + 3) X.A)
    (F : FnOk X.prog X.w X.K X.mg X.base (L2N.CX X.prog X.w) n f fd ps sp) (hb : Binds X.K fd ps []) : CallR X (.type "str") (rReprO C sp) := by
  intro pins s σ H xs us Q I r h
  obtain ⟨a, dx, fs, rfl, ha, hsp⟩ := h
  obtain ⟨u, rfl, ru⟩ := vals1 r
  cases ru
  obtain ⟨mA, J, _⟩ := ins_get I.hok ha
  obtain ⟨od, J, _⟩ := J.look
  have g : MeetsIn X.prog X.w (Builtin.«str.__new__» ⟨[.type "str", .ref a], []⟩) (fun A R s => wpAny (model X.prog X.w) A.in1 (Builtin.Str.strOf (.ref a)) (fun r s' => R (.ok (.ret r)) s') (fun e s' => R (.error e) s') s) := MeetsIn.of_wp fun A R s1 hs1 => by
    rw [str_new_tree]
    refine wpAny_bind (wpAny_pure (wpAny_bind (wpAny_of_eq isSubtype_str_str ?_)))
    exact wpAny_bind (wpAny_mono hs1 (fun r s' z => wpAny_pure ⟨_, rfl, z⟩) fun _ _ e => e)
  refine callType_newIn PySem.F.called_str (by decide) (PySem.F.typeCall_str_1 _) (PySem.F.newCall_str_1 _) (fun obj => PySem.F.args_object_init_2 obj _) PySem.F.entry_str_new g ?_
  show wpAny _ X.A.in1.in1 (Builtin.Str.strOf (.ref a)) _ _ s
  unfold Builtin.Str.strOf
  refine wpAny_bind (wpAny_cRoomFor room.in1.in1.units0 ?_)
  refine wpAny_bind (m := callSpecial? (.ref a) (Str.ofString "__str__")) (PySem.W.special_fn I.kIn J hs (beq_iff_eq.mp hf) (wpAny_mono (own_call (xs := [.ref a]) (room.in1.in1.mono (by omega)) rfl F hb I (.cons rfl .nil) hsp) (fun v s' z => ?_) fun _ _ y => y))
  obtain ⟨x, H', I', rx, z, rfl, q⟩ := z
  obtain ⟨t, rfl⟩ := rx
  exact wpAny_pure ⟨typeIs_str _ _ _, .str z, H', I', ⟨_, rfl⟩, q⟩
/-- what stands right of an own ==: one of the same class, a number, a text -/
def RightOf (K : PySem.W.Frag) (C : Addr) (y : V) (H : Hp) : Prop :=
  (∃ b dy gs, y = .ref b ∧ H b = some (.ins C dy gs)) ∨ (∃ i, y = .int i ∧ PySem.W.notFirst K C (.type "int") = true) ∨ (∃ z, y = .str z ∧ PySem.W.notFirst K C (.type "str") = true)
/-- x == y by an own __eq__ that tells True or False -/
def rEqO (K : PySem.W.Frag) (C : Addr) (sp : Sp) : R2 := fun x y H Q => ∃ a dx fs, x = .ref a ∧ H a = some (.ins C dx fs) ∧ RightOf K C y H ∧ sp [.ref a, y] H (fun v H' => ∃ b : Bool, v = .bl b ∧ Q (.bl b) H') fun _ _ _ => False
theorem op_eqO (hs : PySem.W.findIn X.K (.ref C) "__eq__" = some (some (.ref f))) (hf : PySem.W.isFn X.K (.ref f) = true) (room : Room n X.A)
    (F : FnOk X.prog X.w X.K X.mg X.base (L2N.CX X.prog X.w) n f fd ps sp) (hb : Binds X.K fd ps []) : OpR X (compareOp .Eq) (rEqO X.K C sp) := by
  intro pins s σ H x y v u Q I rx ry h
  obtain ⟨a, dx, fs, rfl, ha, hy, hsp⟩ := h
  cases rx
  obtain ⟨mA, J, _⟩ := ins_get I.hok ha
  obtain ⟨od, J, _⟩ := J.look
  obtain ⟨m, hF⟩ := I.fr
  obtain ⟨tb, look, nf⟩ : ∃ tb, PySem.W.Looks (model X.prog X.w) s.heap (typeOf u) tb ∧ PySem.W.notFirst X.K C tb = true := by
    rcases hy with ⟨b, dy, gs, rfl, hb'⟩ | ⟨i, rfl, nf⟩ | ⟨z, rfl, nf⟩
    · cases ry
      obtain ⟨mB, J', _⟩ := ins_get I.hok hb'
      obtain ⟨od', J', _⟩ := J'.look
      exact ⟨.ref C, J'.type, by simp [PySem.W.notFirst]⟩
    · obtain ⟨t, rfl⟩ := ry
      exact ⟨.type "int", PySem.W.Looks.of_pure rfl, nf⟩
    · obtain ⟨t, rfl⟩ := ry
      exact ⟨.type "str", PySem.W.Looks.of_pure rfl, nf⟩
  show wpAny (model X.prog X.w) X.A (richCompare .Eq (.ref a) u) (EP X pins σ Q) X.xe s
  refine PySem.W.cmp_K (op := .Eq) room.units0 hF I.ok.mod.kin J look nf hs hf ?_
  refine wpAny_mono (own_call (xs := [.ref a, y]) room rfl F hb I (.cons rfl (.cons ry .nil)) hsp) (fun w s' z => ?_) fun _ _ e => e
  obtain ⟨r, H', I', rr, b, rfl, q⟩ := z
  cases rr
  exact ⟨.bl b, H', I', rfl, q⟩
/-- a special name that a built-in serves, asked by the way of operators -/
theorem special_B {M : Model} {A : Around} {E : Value → Shared → Prop} {s : Shared} {K : PySem.W.Frag} {x C : Addr} {ox : Obj} {od : Option Obj} {name : Str} {id : String} {args : List Value} {R : Option Value → Shared → Prop} (hk : K.In s.heap) (J : PySem.W.InstAt s.heap x ox C od)
    (hs : PySem.W.findIn K (.ref C) name = some (some (.builtin id))) (bd : bindSpecial (.builtin id) (.ref x) = pure (.builtin id, [.ref x])) (h : wpAny M A (call (.builtin id) (.ref x :: args)) (fun v => R (some v)) E s) : wpAny M A (callSpecialIfBound? (.ref x) name args) R E s := by
  have last : wpAny M A (call (.builtin id) ([.ref x] ++ args) >>= fun v => pure (some v)) R E s := wpAny_bind (wpAny_mono h (fun _ _ z => wpAny_pure z) fun _ _ z => z)
  simp only [callSpecialIfBound?, bindSpecialIfBound?, bd]
  refine wpAny_holding ?_
  refine wpAny_bind (wpAny_bind (wpAny_bind ?_))
  refine J.type.here ((PySem.W.looks_findIn hk hs).here ?_)
  refine wpAny_bind (wpAny_askSetting (wpAny_ite ?_))
  rw [bd]
  split
  · exact wpAny_bind (wpAny_pure (wpAny_pure last))
  · exact wpAny_tryCatch (wpAny_bind (wpAny_pure (wpAny_pure last)))
/-- object.__ne__ by an own __eq__ that tells True or False -/
theorem ne_body {A : Around} {pins : List (Addr × Obj)} {s : Shared} {σ : L2.St} {H : Hp} {a dx : Addr} {fs : List (Str × V)} {y : V} {u : Value} {Q : Bool → Hp → Prop} (room : Room (n + 1) A) (fr : A.frames = X.A.frames)
    (ob : PySem.W.mroIn X.K C (.type "object") = some true) (hs : PySem.W.findIn X.K (.ref C) "__eq__" = some (some (.ref f))) (hf : PySem.W.isFn X.K (.ref f) = true)
    (F : FnOk X.prog X.w X.K X.mg X.base (L2N.CX X.prog X.w) n f fd ps sp) (hb : Binds X.K fd ps []) (I : Inv X pins σ H s) (ha : H a = some (.ins C dx fs)) (ry : RelV y u) (hsp : sp [.ref a, y] H (fun v H' => ∃ b : Bool, v = .bl b ∧ Q (!b) H') fun _ _ _ => False) :
    wpAny (model X.prog X.w) A (call (.builtin "object.__ne__") [.ref a, u]) (fun v s' => ∃ b : Bool, v = .bool b ∧ TP X pins σ Q b s') X.xe s := by
  obtain ⟨mA, J, _⟩ := ins_get I.hok ha
  obtain ⟨od, J, _⟩ := J.look
  refine wpAny_call (codeAny_call_builtin PySem.F.slot_object_ne.plain PySem.F.entry_object_ne (PySem.W.check_slot (owner := "object") (n := "__ne__") (by decide +kernel) (by decide +kernel) (J.type.andThen (PySem.W.looks_mroIn I.kIn ob)) (PySem.F.args_object_ne_2 _ _) ?_))
  unfold Builtin.«object.__ne__»
  refine wpAny_bind (m := slotArgs "__ne__" 1 _) (wpAny_pure ?_)
  refine wpAny_bind (wpAny_cRoomFor room.in1.units0 (wpAny_bind (m := callSpecialIfBound? (.ref a) (Str.ofString "__eq__") _) (PySem.W.ifBound_K I.kIn J hs hf ?_)))
  refine wpAny_mono (own_call (xs := [.ref a, y]) room.in1 fr F hb I (.cons rfl (.cons ry .nil)) hsp) (fun v s' z => ?_) fun _ _ e => e
  obtain ⟨r, H', I', rr, b, rfl, q⟩ := z
  cases rr
  refine wpAny_bind (wpAny_truthy_bool (wpAny_pure ?_))
  exact ⟨!b, rfl, H', I', q⟩
/-- x != y of two of one class -/
def rNeO (C : Addr) (sp : Sp) : R2 := fun x y H Q => ∃ a dx fs c dy gs, x = .ref a ∧ H a = some (.ins C dx fs) ∧ y = .ref c ∧ H c = some (.ins C dy gs) ∧ sp [.ref a, .ref c] H (fun v H' => ∃ b : Bool, v = .bl b ∧ Q (.bl (!b)) H') fun _ _ _ => False
theorem op_neO (ob : PySem.W.mroIn X.K C (.type "object") = some true) (hn : PySem.W.findIn X.K (.ref C) "__ne__" = some (some (.builtin "object.__ne__"))) (hs : PySem.W.findIn X.K (.ref C) "__eq__" = some (some (.ref f))) (hf : PySem.W.isFn X.K (.ref f) = true) (room : Room (n + 1) X.A)
    (F : FnOk X.prog X.w X.K X.mg X.base (L2N.CX X.prog X.w) n f fd ps sp) (hb : Binds X.K fd ps []) : OpR X (compareOp .NotEq) (rNeO C sp) := by
  intro pins s σ H x y v u Q I rx ry h
  obtain ⟨a, dx, fs, c, dy, gs, rfl, ha, rfl, hc, hsp⟩ := h
  cases rx
  cases ry
  obtain ⟨mA, J, _⟩ := ins_get I.hok ha
  obtain ⟨od, J, _⟩ := J.look
  obtain ⟨mC, J', _⟩ := ins_get I.hok hc
  obtain ⟨od', J', _⟩ := J'.look
  have tell : wpAny (model X.prog X.w) X.A (tryCompare (.ref a) (cmpInfo .NotEq).2.1 (.ref c)) (fun r s' => ∃ b : Bool, r = some (.bool b) ∧ TP X pins σ (fun b H' => Q (.bl b) H') b s') X.xe s := by
    unfold tryCompare
    refine wpAny_bind (special_B I.kIn J hn (PySem.F.slot_object_ne.bind _) (wpAny_mono (ne_body (y := .ref c) (Q := fun b H' => Q (.bl b) H') room rfl ob hs hf F hb I ha rfl hsp) (fun v s' z => ?_) fun _ _ e => e))
    obtain ⟨b, rfl, q⟩ := z
    exact wpAny_pure ⟨b, rfl, q⟩
  show wpAny (model X.prog X.w) X.A (richCompare .NotEq (.ref a) (.ref c)) (EP X pins σ Q) X.xe s
  unfold richCompare
  simp only [oneThing_ref]
  refine wpAny_holding (wpAny_bind (wpAny_cRoomFor room.units0 (wpAny_bind (J.type.here (wpAny_bind (J'.type.here ?_))))))
  have same : (Value.ref C != Value.ref C) = false := by simp
  rw [same]
  refine wpAny_bind (wpAny_pure ?_)
  simp only [Bool.false_eq_true, if_false]
  refine wpAny_bind (wpAny_mono tell (fun r s' z => ?_) fun _ _ e => e)
  obtain ⟨b, rfl, H', I', q⟩ := z
  exact wpAny_pure ⟨.bl b, H', I', rfl, q⟩
end
end U

set_option Elab.async false
set_option linter.all false
set_option maxRecDepth 100000
set_option maxHeartbeats 4000000
/-! # U: x in [y], y of an own class with its own == -/
namespace U
open PySem L2 MeetsSeq MeetsSeq2 MeetsSeq3 SeqRoads2
section
variable {X : Cx} {n : Nat} {f C : Addr} {fd : FuncData} {ps : List Str} {sp : Sp} {pins : List (Addr × Obj)} {s : Shared} {σ : L2.St} {H : Hp}
/-- == of two of one class, somewhere below the running body -/
theorem eq_below {A : Around} {a c dx dy : Addr} {fs gs : List (Str × V)} {Q : Bool → Hp → Prop} (hs : PySem.W.findIn X.K (.ref C) "__eq__" = some (some (.ref f))) (hf : PySem.W.isFn X.K (.ref f) = true) (room : Room n A) (fr : A.frames = X.A.frames)
    (F : FnOk X.prog X.w X.K X.mg X.base (L2N.CX X.prog X.w) n f fd ps sp) (hb : Binds X.K fd ps []) (I : Inv X pins σ H s) (ha : H a = some (.ins C dx fs)) (hc : H c = some (.ins C dy gs)) (hsp : sp [.ref c, .ref a] H (fun v H' => ∃ b : Bool, v = .bl b ∧ Q b H') fun _ _ _ => False) :
    wpAny (model X.prog X.w) A (richCompare .Eq (.ref c) (.ref a)) (fun v s' => ∃ b, v = .bool b ∧ TP X pins σ Q b s') X.xe s := by
  obtain ⟨mA, J', _⟩ := ins_get I.hok ha
  obtain ⟨oa, J', _⟩ := J'.look
  obtain ⟨mC, J, _⟩ := ins_get I.hok hc
  obtain ⟨oc, J, _⟩ := J.look
  obtain ⟨m, hF⟩ := I.fr
  refine PySem.W.cmp_K (op := .Eq) (tb := .ref C) room.units0 hF I.ok.mod.kin J J'.type (by simp [PySem.W.notFirst]) hs hf (wpAny_mono (own_call (xs := [.ref c, .ref a]) room fr F hb I (.cons rfl (.cons rfl .nil)) hsp) (fun w s' z => ?_) fun _ _ e => e)
  obtain ⟨r, H', I', rr, b, rfl, q⟩ := z
  cases rr
  exact ⟨b, rfl, H', I', q⟩
/-- x in [y] -/
def rInO (C : Addr) (sp : Sp) : R2 := fun x y H Q => ∃ a dx fs l c dy gs, x = .ref a ∧ H a = some (.ins C dx fs) ∧ y = .ref l ∧ H l = some (.lst [.ref c]) ∧ H c = some (.ins C dy gs) ∧ c ≠ a ∧
  sp [.ref c, .ref a] H (fun v H' => ∃ b : Bool, v = .bl b ∧ H' l = some (.lst [.ref c]) ∧ Q (.bl b) H') fun _ _ _ => False
theorem op_inO (hs : PySem.W.findIn X.K (.ref C) "__eq__" = some (some (.ref f))) (hf : PySem.W.isFn X.K (.ref f) = true) (room : Room (n + 2) X.A)
    (F : FnOk X.prog X.w X.K X.mg X.base (L2N.CX X.prog X.w) n f fd ps sp) (hb : Binds X.K fd ps []) : OpR X (compareOp .In) (rInO C sp) := by
  intro pins s σ H x y v u Q I rx ry h
  obtain ⟨a, dx, fs, l, c, dy, gs, rfl, ha, rfl, hl, hc, ne, hsp⟩ := h
  cases rx
  cases ry
  obtain ⟨_, its, k, rv, ln, e⟩ := I.lstM hl
  obtain ⟨w0, rfl, r0⟩ := vals1 rv
  cases r0
  have g : MeetsIn X.prog X.w (Builtin.«list.__contains__» ⟨[.ref l, .ref a], []⟩) (fun A R s1 => s1 = s ∧ Room n A.in1 ∧ A.frames = X.A.frames ∧ (∀ b s', EP X pins σ Q (.bool b) s' → R (.ok (.ret (.bool b))) s') ∧ ∀ e s', X.xe e s' → R (.error e) s') := by
    rintro A R s1 ⟨rfl, rm, fr, q, er⟩
    have turn : wpAny (model X.prog X.w) A.in1 (eqBool (.ref c) (.ref a)) (TP X pins σ (fun b H' => H' l = some (.lst [.ref c]) ∧ Q (.bl b) H')) X.xe s1 := GQ.eqBool_refG ne (eq_below hs hf rm fr F hb I ha hc hsp)
    have turn2 := wpAny_mono (E' := fun e s' => R (.error e) s') turn (fun b s' z => z) fun e s' z => er e s' z
    clear I er
    obtain ⟨hp, gg, d, tk, os⟩ := s1
    wp_walk using wpAny_loadPart' e
    refine ⟨plainId_quiet plain_contains_loop _, codeAny_builtin entry_contains_loop ?_⟩
    rw [Around.under_plainId plain_contains_loop _]
    have at0 : ([Value.ref c].toArray)[(0 : Int).toNat]? = some (.ref c) := rfl
    generalize [Value.ref c].toArray = arr at e at0
    wp_walk using wpAny_loadPart' e
    rw [at0]
    refine wpAny_bind (wpAny_mono turn2 (fun b s' z => ?_) fun _ _ y => y)
    obtain ⟨H', I', hl', qq⟩ := z
    have fin := q b s' ⟨.bl b, H', I', rfl, qq⟩
    obtain ⟨_, its', k', rv', ln', e'⟩ := I'.lstM hl'
    obtain ⟨w1, rfl, r1⟩ := vals1 rv'
    cases r1
    have at1 : ([Value.ref c].toArray)[((0 : Int) + 1).toNat]? = none := rfl
    generalize [Value.ref c].toArray = arr2 at e' at1
    clear I'
    obtain ⟨hp2, g2, d2, tk2, os2⟩ := s'
    cases b with
    | true =>
      wp_walk
      exact fin
    | false =>
      wp_walk
      refine ⟨plainId_quiet plain_contains_loop _, codeAny_builtin entry_contains_loop ?_⟩
      rw [Around.under_plainId plain_contains_loop _]
      wp_walk using wpAny_loadPart' e'
      rw [at1]
      wp_walk
      exact fin
  show wpAny _ X.A ((do return Value.bool (← contains (.ref l) (.ref a))) : Sem Value) _ _ _
  refine wpAny_bind (wpAny_contains_slot ⟨_, e, rfl⟩ PySem.F.slot_list_contains (wpAny_mono (call_meetsIn (Q := fun v s' => ∃ b, v = .bool b ∧ EP X pins σ Q (.bool b) s') PySem.F.slot_list_contains ⟨_, e, rfl⟩ PySem.F.entry_list_contains (PySem.F.args_list_contains_2 _ _) g ⟨rfl, room.in1.mono (by omega), rfl, fun b s' z => ⟨b, rfl, z⟩, fun e s' z => z⟩) (fun v s' z => ?_) fun _ _ y => y))
  obtain ⟨b, rfl, z⟩ := z
  exact wpAny_truthy_bool (wpAny_pure z)
end
end U
namespace U
open PySem L2
/-- len(range(n)) -/
theorem call_lenRng {X : Cx} : CallR X (.builtin "len") (fun xs H Q => ∃ (r : Addr) (n : Nat), xs = [.ref r] ∧ H r = some (.rng 0 n) ∧ n < 1000 ∧ Q (.int n) H) := by
  intro pins s σ H xs us Q I rx h
  obtain ⟨r, n, rfl, hr, few, q⟩ := h
  obtain ⟨u, rfl, ru⟩ := vals1 rx
  cases ru
  obtain ⟨t1, t2, t3, ho⟩ := I.hok r _ hr
  have size : Builtin.Range.rangeSize 0 n 1 = n := by
    unfold Builtin.Range.rangeSize
    rw [if_pos (by decide)]
    by_cases z : (0 : Int) < n
    · rw [if_pos z, Int.ediv_one]
      omega
    · rw [if_neg z]
      omega
  exact call_len_range (n := n) ho size (by omega) ⟨.int n, H, I.tok _, ⟨_, rfl⟩, q⟩
end U
namespace U
open PySem L2
/-- range(n) as a thing -/
def rRng1 : List V → Hp → VK → Prop := fun xs H Q => ∃ n : Int, xs = [.int n] ∧ ∀ p, H p = none → Q (.ref p) (upd H p (.rng 0 n))
theorem cr_rng1 {X : Cx} : CallR X (.type "range") rRng1 := by
  intro pins s σ H xs us Q I rx h
  obtain ⟨n, rfl, q⟩ := h
  obtain ⟨u, rfl, t, rfl⟩ := vals1 rx
  have laid := I.laid (a := s.heap.objs.size) (o := .rng 0 n) (h' := s.heap.push { cls := .type "range", data := .fields #[.int 0 s.toks, .int n t, .int 1 (s.toks + 1)] }) (t' := s.toks + 1 + 1) (fun b o e => Heap.get?_push_of_some _ e) (Nat.le_refl _) ⟨s.toks, t, s.toks + 1, Heap.get?_push_size _ rfl⟩
  exact call_range_1 ⟨.ref s.heap.objs.size, _, laid, rfl, q _ (I.hok.fresh (Nat.le_refl _))⟩
end U

set_option maxRecDepth 100000
/-! # Fields in plain Lean: what the program's defs compute, and what holds of that -/
namespace FM
def sizes : List Int := [2, 3, 4, 5, 7, 8, 9, 11, 13, 16]
def base (n : Int) : Int := if n = 4 ∨ n = 8 ∨ n = 16 then 2 else if n = 9 then 3 else n
def places (n : Int) : Nat := if n = 4 ∨ n = 9 then 2 else if n = 8 then 3 else if n = 16 then 4 else 1
def rule (n : Int) : List Int := if n = 4 then [1, 1] else if n = 8 then [1, 1, 0] else if n = 9 then [2, 0] else [1, 1, 0, 0]
/-- the figures of a number, the lowest first -/
def figs (p : Int) : Nat → Int → List Int
  | 0, _ => []
  | k + 1, x => x % p :: figs p k (x / p)
/-- what is left of it behind k figures -/
def rest (p : Int) : Nat → Int → Int
  | 0, x => x
  | k + 1, x => rest p k (x / p)
theorem figs_len (p : Int) : ∀ (k : Nat) (x : Int), (figs p k x).length = k
  | 0, _ => rfl
  | k + 1, x => by show (figs p k (x / p)).length + 1 = k + 1; rw [figs_len p k]
theorem rest_succ (p : Int) : ∀ (k : Nat) (x : Int), rest p (k + 1) x = rest p k x / p
  | 0, _ => rfl
  | k + 1, x => rest_succ p k (x / p)
theorem figs_succ (p : Int) : ∀ (k : Nat) (x : Int), figs p (k + 1) x = figs p k x ++ [rest p k x % p]
  | 0, _ => rfl
  | k + 1, x => by
    show x % p :: figs p (k + 1) (x / p) = x % p :: figs p k (x / p) ++ [rest p k (x / p) % p]
    rw [figs_succ p k]; rfl
/-- the number with these figures -/
def comp (p : Int) (fs : List Int) : Int := fs.reverse.foldl (fun acc f => acc * p + f % p) 0
def addL (p : Int) (k : Nat) (a b s : Int) : List Int := (List.range k).map fun i => (figs p k a).getD i 0 + s * (figs p k b).getD i 0
def addF (n a b s : Int) : Int := if places n = 1 then (a + s * b) % base n else comp (base n) (addL (base n) (places n) a b s)
/-- L[at + j] += left * right, for the first j of fb -/
def mulIn (at_ : Nat) (left : Int) (fb : List Int) (L : List Int) : Nat → List Int
  | 0 => L
  | j + 1 => (mulIn at_ left fb L j).set (at_ + j) ((mulIn at_ left fb L j).getD (at_ + j) 0 + left * fb.getD j 0)
def mulOut (fa fb : List Int) (k : Nat) : Nat → List Int
  | 0 => List.replicate (2 * k) 0
  | i + 1 => mulIn i (fa.getD i 0) fb (mulOut fa fb k i) fb.length
/-- long[at - k + to] += long[at] * figure, for the first j of the rule -/
def redIn (at_ k : Nat) (r : List Int) (L : List Int) : Nat → List Int
  | 0 => L
  | j + 1 => (redIn at_ k r L j).set (at_ - k + j) ((redIn at_ k r L j).getD (at_ - k + j) 0 + (redIn at_ k r L j).getD at_ 0 * r.getD j 0)
def redOut (k : Nat) (r : List Int) (L : List Int) : Nat → List Int
  | 0 => L
  | i + 1 => (redIn (2 * k - 1 - i) k r (redOut k r L i) r.length).set (2 * k - 1 - i) 0
def mulF (n a b : Int) : Int := if places n = 1 then a * b % base n else
  comp (base n) ((redOut (places n) (rule n) (mulOut (figs (base n) (places n) a) (figs (base n) (places n) b) (places n) (places n)) (places n)).take (places n))
theorem mulIn_len (at_ : Nat) (left : Int) (fb L : List Int) : ∀ j, (mulIn at_ left fb L j).length = L.length
  | 0 => rfl
  | j + 1 => by rw [mulIn, List.length_set, mulIn_len at_ left fb L j]
theorem mulOut_len (fa fb : List Int) (k : Nat) : ∀ i, (mulOut fa fb k i).length = 2 * k
  | 0 => by rw [mulOut, List.length_replicate]
  | i + 1 => by rw [mulOut, mulIn_len, mulOut_len fa fb k i]
theorem redIn_len (at_ k : Nat) (r L : List Int) : ∀ j, (redIn at_ k r L j).length = L.length
  | 0 => rfl
  | j + 1 => by rw [redIn, List.length_set, redIn_len at_ k r L j]
theorem redOut_len (k : Nat) (r L : List Int) : ∀ i, (redOut k r L i).length = L.length
  | 0 => rfl
  | i + 1 => by rw [redOut, List.length_set, redIn_len, redOut_len k r L i]
def invL (n a : Int) : List Int := ((List.range (n - 1).toNat).map fun (i : Nat) => (1 : Int) + i).filter fun b => mulF n a b == 1
def invF (n a : Int) : Int := (invL n a).headD 0
def overF (n a b : Int) : Int := mulF n a (invF n b)
/-- powers, by halving -/
def powGo (n : Int) : Nat → Int → Nat → Int → Int
  | 0, found, _, _ => found
  | fuel + 1, found, many, part => if many = 0 then found else powGo n fuel (if many % 2 = 1 then mulF n found part else found) (many / 2) (mulF n part part)
def powF (n a : Int) (m : Nat) : Int := powGo n m 1 m a
/-! ### checked for all sizes and numbers -/
def allN (n : Int) (p : Int → Bool) : Bool := (List.range n.toNat).all fun (i : Nat) => p i
theorem of_allN {n : Int} {p : Int → Bool} (h : allN n p = true) {a : Int} (h0 : 0 ≤ a) (h1 : a < n) : p a = true := by
  have := List.all_eq_true.mp h a.toNat (by rw [List.mem_range]; omega)
  have e : ((a.toNat : Nat) : Int) = a := by omega
  rw [← e]; exact this
def okMul (n : Int) : Bool := allN n fun a => allN n fun b => decide (0 ≤ mulF n a b ∧ mulF n a b < n)
def okAdd (n : Int) : Bool := allN n fun a => allN n fun b => decide (0 ≤ addF n a b 1 ∧ addF n a b 1 < n) && decide (0 ≤ addF n a b (-1) ∧ addF n a b (-1) < n)
def okInv (n : Int) : Bool := allN n fun a => decide (a = 0) || (decide ((invL n a).length ≠ 0) && decide (0 ≤ invF n a ∧ invF n a < n))
theorem okMul_all : sizes.all okMul = true := by decide +kernel
theorem okAdd_all : sizes.all okAdd = true := by decide +kernel
theorem okInv_all : sizes.all okInv = true := by decide +kernel
theorem of_sizes {p : Int → Bool} (h : sizes.all p = true) {n : Int} (hn : n ∈ sizes) : p n = true := List.all_eq_true.mp h n hn
section
variable {n a b : Int}
theorem mul_rng (hn : n ∈ sizes) (a0 : 0 ≤ a) (a1 : a < n) (b0 : 0 ≤ b) (b1 : b < n) : 0 ≤ mulF n a b ∧ mulF n a b < n := of_decide_eq_true (of_allN (of_allN (of_sizes okMul_all hn) a0 a1) b0 b1)
theorem add_rng (hn : n ∈ sizes) (a0 : 0 ≤ a) (a1 : a < n) (b0 : 0 ≤ b) (b1 : b < n) : 0 ≤ addF n a b 1 ∧ addF n a b 1 < n := by
  have := of_allN (of_allN (of_sizes okAdd_all hn) a0 a1) b0 b1
  rw [Bool.and_eq_true] at this
  exact of_decide_eq_true this.1
theorem sub_rng (hn : n ∈ sizes) (a0 : 0 ≤ a) (a1 : a < n) (b0 : 0 ≤ b) (b1 : b < n) : 0 ≤ addF n a b (-1) ∧ addF n a b (-1) < n := by
  have := of_allN (of_allN (of_sizes okAdd_all hn) a0 a1) b0 b1
  rw [Bool.and_eq_true] at this
  exact of_decide_eq_true this.2
theorem inv_ok (hn : n ∈ sizes) (a0 : 0 < a) (a1 : a < n) : (invL n a).length ≠ 0 ∧ 0 ≤ invF n a ∧ invF n a < n := by
  have := of_allN (of_sizes okInv_all hn) (Int.le_of_lt a0) a1
  rw [Bool.or_eq_true, Bool.and_eq_true] at this
  rcases this with h | ⟨h1, h2⟩
  · have := of_decide_eq_true h
    omega
  · exact ⟨of_decide_eq_true h1, of_decide_eq_true h2⟩
end
theorem size_cases {n : Int} (hn : n ∈ sizes) : n = 2 ∨ n = 3 ∨ n = 4 ∨ n = 5 ∨ n = 7 ∨ n = 8 ∨ n = 9 ∨ n = 11 ∨ n = 13 ∨ n = 16 := by simpa [sizes] using hn
theorem size_rng {n : Int} (hn : n ∈ sizes) : 2 ≤ n ∧ n ≤ 16 := by rcases size_cases hn with h | h | h | h | h | h | h | h | h | h <;> omega
theorem base_rng {n : Int} (hn : n ∈ sizes) : 2 ≤ base n ∧ base n ≤ 13 := by rcases size_cases hn with h | h | h | h | h | h | h | h | h | h <;> subst h <;> decide
theorem places_rng {n : Int} (hn : n ∈ sizes) : 1 ≤ places n ∧ places n ≤ 4 := by rcases size_cases hn with h | h | h | h | h | h | h | h | h | h <;> subst h <;> decide
theorem rule_len {n : Int} (hn : n ∈ sizes) (h : places n ≠ 1) : (rule n).length = places n := by rcases size_cases hn with h | h | h | h | h | h | h | h | h | h <;> subst h <;> first | decide | exact absurd (by decide) h
theorem addL_len {p : Int} {k : Nat} {a b s : Int} : (addL p k a b s).length = k := by simp [addL]
/-- the first i candidates of an inverse -/
def invP (n a : Int) (i : Nat) : List Int := ((List.range i).map fun (i : Nat) => (1 : Int) + i).filter fun b => mulF n a b == 1
theorem invP_succ (n a : Int) (i : Nat) : invP n a (i + 1) = if mulF n a (1 + i) = 1 then invP n a i ++ [1 + (i : Int)] else invP n a i := by
  unfold invP
  rw [List.range_succ, List.map_append, List.filter_append]
  show _ ++ List.filter _ [1 + (i : Int)] = _
  by_cases h : mulF n a (1 + i) = 1
  · rw [if_pos h, List.filter_cons_of_pos (by simpa using h), List.filter_nil]
  · rw [if_neg h, List.filter_cons_of_neg (by simpa using h), List.filter_nil, List.append_nil]
theorem invP_len (n a : Int) (i : Nat) : (invP n a i).length ≤ i := by
  unfold invP
  refine Nat.le_trans (List.length_filter_le _ _) ?_
  rw [List.length_map, List.length_range]
  exact Nat.le_refl _
def basesL : List Int := [2, 3, 5, 7, 11, 13]
def basP (n : Int) (i : Nat) : List Int := (basesL.take i).filter fun b => n % b == 0
theorem basP_len (n : Int) (i : Nat) : (basP n i).length ≤ 6 := by
  unfold basP
  refine Nat.le_trans (List.length_filter_le _ _) ?_
  rw [List.length_take]
  exact Nat.le_trans (Nat.min_le_right _ _) (by decide)
theorem basP_end {n : Int} (hn : n ∈ sizes) : (basP n 6)[0]? = some (base n) := by
  rcases size_cases hn with h | h | h | h | h | h | h | h | h | h <;> subst h <;> decide
theorem pow_lt {n : Int} (hn : n ∈ sizes) {k : Nat} (h1 : 1 ≤ k) (h2 : k ≤ places n) : (base n ^ k < n ↔ k < places n) := by
  have h4 := (places_rng hn).2
  have hk : k = 1 ∨ k = 2 ∨ k = 3 ∨ k = 4 := by omega
  rcases size_cases hn with h | h | h | h | h | h | h | h | h | h <;> subst h <;> rcases hk with e | e | e | e <;> subst e <;> first | decide | exact absurd h2 (by decide)
theorem powGo0 (n : Int) (fuel : Nat) (found part : Int) : powGo n fuel found 0 part = found := by
  cases fuel with
  | zero => rfl
  | succ f => rfl
theorem powGo1 (n : Int) (fuel m : Nat) (found part : Int) (h : m ≠ 0) : powGo n (fuel + 1) found m part = powGo n fuel (if m % 2 = 1 then mulF n found part else found) (m / 2) (mulF n part part) := by
  show (if m = 0 then _ else _) = _
  rw [if_neg h]
theorem figs_rng {p : Int} (hp : 0 < p) : ∀ (k : Nat) (x : Int) (i : Nat), 0 ≤ (figs p k x).getD i 0 ∧ (figs p k x).getD i 0 < p
  | 0, x, i => by simpa [figs] using hp
  | k + 1, x, 0 => by
    show 0 ≤ x % p ∧ x % p < p
    exact ⟨Int.emod_nonneg _ (by omega), Int.emod_lt_of_pos _ hp⟩
  | k + 1, x, i + 1 => figs_rng hp k (x / p) i
theorem rule_rng (n : Int) (i : Nat) : 0 ≤ (rule n).getD i 0 ∧ (rule n).getD i 0 ≤ 2 := by
  have : ∀ l : List Int, l ∈ [[1, 1], [1, 1, 0], [2, 0], [1, 1, 0, 0]] → ∀ i : Nat, 0 ≤ l.getD i 0 ∧ l.getD i 0 ≤ 2 := by
    intro l hl i
    have h4 : l.length ≤ 4 := by
      rcases (by simpa using hl : l = [1, 1] ∨ l = [1, 1, 0] ∨ l = [2, 0] ∨ l = [1, 1, 0, 0]) with h | h | h | h <;> subst h <;> decide
    by_cases hi : i < 4
    · have hi' : i = 0 ∨ i = 1 ∨ i = 2 ∨ i = 3 := by omega
      rcases (by simpa using hl : l = [1, 1] ∨ l = [1, 1, 0] ∨ l = [2, 0] ∨ l = [1, 1, 0, 0]) with h | h | h | h <;> subst h <;> rcases hi' with e | e | e | e <;> subst e <;> decide
    · rw [List.getD_eq_getElem?_getD, List.getElem?_eq_none (by omega)]
      decide
  refine this _ ?_ i
  unfold rule
  split
  · simp
  · split
    · simp
    · split <;> simp
theorem comp1 (n : Int) (h : places n ≠ 1) (h' : n ∈ sizes) : n = 4 ∨ n = 8 ∨ n = 9 ∨ n = 16 := by
  rcases size_cases h' with e | e | e | e | e | e | e | e | e | e <;> subst e <;> first | exact absurd (by decide) h | omega
end FM

set_option maxRecDepth 100000
/-! # The fields' laws, checked by tables -/
namespace FM
def tabM (n : Int) : Nat :=
  if n = 2 then 295147905179352825856 else
  if n = 3 then 98001321673230277487191767811267888152576 else
  if n = 4 then 53330256343845239771214889408017248588558707406201035998363648 else
  if n = 5 then 8633458173534295531708957194668506359272841672193293788818684081649949418234839040 else
  if n = 7 then 752134494153338365622163830121678227156171018913178456748888587115968116127437694089971613802901525030371665776032251641856 else
  if n = 8 then 638732648260906949777959678038565379125696596219037394524801015071477239970190909606175165633671146960191918252948923319017128185934182682198016 else
  if n = 9 then 350271593073168926145148751542696170272942420121852288454124347193083665193360404733703433787666620839746384371830655548203159746643362737104589857648376464715808768 else
  if n = 11 then 5707612740341513482889274215300219212607810937975125163326021618047279574149327542673081591604818746784293751015793188419071153316961378705602856340041906233280890908852574691014268478255257506201311641600 else
  if n = 13 then 497203193029057548978455390703706481544668932005568052453289575683692794108682690124607659936678962065035569766277507777915876887660390400113997489778725659446389730475565544531550620901614322287356732407761353473585146035747697513696149221933056 else
  116196760129267793630862849262464326346044543732748708940920453221664288556434379745879494961270582141731748813355742142288220638766218855867759359510984593843506004200114943278699875244065120512813025380665946106619127097398772031257643617143689515450995722003729973585221105779229319991106539050771048038400
def tabA (n : Int) : Nat :=
  if n = 2 then 18446744073709551632 else
  if n = 3 then 87792850665602123574159391271828613759504 else
  if n = 4 then 1826636604997524103687025415407641796770237830395656339993104 else
  if n = 5 then 23744325819004059034406350039066560157511542246644346540764386605092696850526646800 else
  if n = 7 then 3478623690343450189344135562249338476532584588467764427001429982800215446745271625268546827762217480443917131115877490766352 else
  if n = 8 then 13874437610526695973432030937281792794508753341615275460032961883811228700950539972536064596195808715573671356327488034696840624189815766921744 else
  if n = 9 then 242280702199725469974352990928395429226526593484772418668161944328841606494906220325586153284455581685689327813808656503597945483892057202906626319625518304218853904 else
  if n = 11 then 47801256700862043884254755031597379698302990695283899141412257882146020190621083950061315865283666969764863811388089464880391574791307388108407416765586075869961916621518697839661709194056553661440086782480 else
  if n = 13 then 5096332728548082069550025266041584509188004531269844101955021339290952149362303233226047325008983535190781031862781861491610551473830180381547968324462846126141658343850264751256541395366141382817658748651597524911171831391961899910866176572666384 else
  798974726605473726946832238011593618400339158202517049033210936078539962612148351302787556971974837864606271200763683943951953866025539096785282858647326000342156170857478456413950631519959977197563975844721619162716127815821009475742892049151496040916675244806998969647283770674449648040311876430683451920
def tabS (n : Int) : Nat :=
  if n = 2 then 18446744073709551632 else
  if n = 3 then 6125082604576892351803922643584827785504 else
  if n = 4 then 1826636604997524103687025415407641796770237830395656339993104 else
  if n = 5 then 539591135845893472321171984066689216925967072799218066438690850816917581846356800 else
  if n = 7 then 47008405884583648061467424797718584759945791232612042288631768981257414823882029296160509060924983202698854755891344000352 else
  if n = 8 then 13874437610526695973432030937281792794508753341615275460032961883811228700950539972536064596195808715573671356327488034696840624189815766921744 else
  if n = 9 then 4095011303551043298381458892634582099661919021127691590168361890825419730600297983608501207060755564031003343017753233465183726221160828082437653171683206079471904 else
  if n = 11 then 356725796271344595362538697544313619467488421369493498037371366550617322162310163111120231790700680003529965624301981853184719610088996951904922053270643896404871333048989141424242719323225739706285656480 else
  if n = 13 then 31075199564316097092164123159986678234084653062908532215099406960826074416817190105457162947172925869819060714816167685174817539909593556569676637595108693817430559743853949985054494722265734731669003308448100526216960918092851998983265129704384 else
  798974726605473726946832238011593618400339158202517049033210936078539962612148351302787556971974837864606271200763683943951953866025539096785282858647326000342156170857478456413950631519959977197563975844721619162716127815821009475742892049151496040916675244806998969647283770674449648040311876430683451920

def lk (t a b : Nat) : Nat := (t >>> (4 * (16 * a + b))) % 16
def allT (n : Nat) (p : Nat → Bool) : Bool := (List.range n).all p
def okTab (n : Int) : Bool := allT n.toNat fun a => allT n.toNat fun b => decide (mulF n a b = (lk (tabM n) a b : Nat)) && decide (addF n a b 1 = (lk (tabA n) a b : Nat)) && decide (addF n a b (-1) = (lk (tabS n) a b : Nat))
theorem okTab_all : sizes.all okTab = true := by decide +kernel
def ok2 (m : Nat) (tm ta ts : Nat) : Bool := allT m fun a => allT m fun b =>
  Nat.beq (lk tm a b) (lk tm b a) && Nat.beq (lk ta a b) (lk ta b a) && Nat.beq (lk ta (lk ts a b) b) a && Nat.beq (lk ts a a) 0 && Nat.beq (lk tm a 1) a
def ok3 (m : Nat) (tm ta : Nat) : Bool := allT m fun a => allT m fun b => allT m fun c =>
  Nat.beq (lk tm (lk tm a b) c) (lk tm a (lk tm b c)) && Nat.beq (lk ta (lk ta a b) c) (lk ta a (lk ta b c)) && Nat.beq (lk tm a (lk ta b c)) (lk ta (lk tm a b) (lk tm a c))
theorem ok2_all : (sizes.all fun n => ok2 n.toNat (tabM n) (tabA n) (tabS n)) = true := by decide +kernel
theorem ok3_all : (sizes.all fun n => ok3 n.toNat (tabM n) (tabA n)) = true := by decide +kernel
def okOver (n : Int) : Bool := allN n fun a => allN n fun b => decide (b = 0) || decide (mulF n (overF n a b) b = a)
def okPow (n : Int) : Bool := allN n fun a => decide (powF n a n.toNat = a)
theorem okOver_all : sizes.all okOver = true := by decide +kernel
theorem okPow_all : sizes.all okPow = true := by decide +kernel
theorem of_allT {n : Nat} {p : Nat → Bool} (h : allT n p = true) {a : Nat} (h1 : a < n) : p a = true := List.all_eq_true.mp h a (List.mem_range.mpr h1)
section
variable {n a b c : Int}
theorem tabs (hn : n ∈ sizes) {a b : Nat} (ha : (a : Int) < n) (hb : (b : Int) < n) : mulF n a b = (lk (tabM n) a b : Nat) ∧ addF n a b 1 = (lk (tabA n) a b : Nat) ∧ addF n a b (-1) = (lk (tabS n) a b : Nat) := by
  have h := of_allT (of_allT (of_sizes okTab_all hn) (a := a) (by omega)) (a := b) (by omega)
  rw [Bool.and_eq_true, Bool.and_eq_true] at h
  exact ⟨of_decide_eq_true h.1.1, of_decide_eq_true h.1.2, of_decide_eq_true h.2⟩
theorem natOf (h0 : 0 ≤ a) : ∃ k : Nat, a = (k : Int) := ⟨a.toNat, by omega⟩
theorem laws2 (hn : n ∈ sizes) (a0 : 0 ≤ a) (a1 : a < n) (b0 : 0 ≤ b) (b1 : b < n) : mulF n a b = mulF n b a ∧ addF n a b 1 = addF n b a 1 ∧ addF n (addF n a b (-1)) b 1 = a ∧ addF n a a (-1) = 0 ∧ mulF n a 1 = a := by
  obtain ⟨a, rfl⟩ := natOf a0
  obtain ⟨b, rfl⟩ := natOf b0
  have sr := size_rng hn
  have h := of_allT (of_allT (of_sizes (p := fun n => ok2 n.toNat (tabM n) (tabA n) (tabS n)) ok2_all hn) (a := a) (by omega)) (a := b) (by omega)
  simp only [Bool.and_eq_true] at h
  obtain ⟨⟨⟨⟨h1, h2⟩, h3⟩, h4⟩, h5⟩ := h
  replace h1 := Nat.eq_of_beq_eq_true h1
  replace h2 := Nat.eq_of_beq_eq_true h2
  replace h3 := Nat.eq_of_beq_eq_true h3
  replace h4 := Nat.eq_of_beq_eq_true h4
  replace h5 := Nat.eq_of_beq_eq_true h5
  have t1 := tabs hn a1 b1
  have t2 := tabs hn b1 a1
  have t3 := tabs hn a1 a1
  have r := sub_rng hn a0 a1 b0 b1
  rw [t1.2.2] at r
  have t4 := tabs hn (a := lk (tabS n) a b) (b := b) r.2 b1
  have t5 := tabs hn (a := a) (b := 1) a1 (by omega)
  refine ⟨?_, ?_, ?_, ?_, ?_⟩
  · rw [t1.1, t2.1, h1]
  · rw [t1.2.1, t2.2.1, h2]
  · rw [t1.2.2, t4.2.1, h3]
  · rw [t3.2.2, h4]; rfl
  · rw [show (1 : Int) = ((1 : Nat) : Int) from rfl, t5.1, h5]
theorem laws3 (hn : n ∈ sizes) (a0 : 0 ≤ a) (a1 : a < n) (b0 : 0 ≤ b) (b1 : b < n) (c0 : 0 ≤ c) (c1 : c < n) :
    mulF n (mulF n a b) c = mulF n a (mulF n b c) ∧ addF n (addF n a b 1) c 1 = addF n a (addF n b c 1) 1 ∧ mulF n a (addF n b c 1) = addF n (mulF n a b) (mulF n a c) 1 := by
  have m1 := mul_rng hn a0 a1 b0 b1
  have m2 := mul_rng hn b0 b1 c0 c1
  have m3 := mul_rng hn a0 a1 c0 c1
  have d1 := add_rng hn a0 a1 b0 b1
  have d2 := add_rng hn b0 b1 c0 c1
  obtain ⟨a, rfl⟩ := natOf a0
  obtain ⟨b, rfl⟩ := natOf b0
  obtain ⟨c, rfl⟩ := natOf c0
  have sr := size_rng hn
  have h := of_allT (of_allT (of_allT (of_sizes (p := fun n => ok3 n.toNat (tabM n) (tabA n)) ok3_all hn) (a := a) (by omega)) (a := b) (by omega)) (a := c) (by omega)
  simp only [Bool.and_eq_true] at h
  obtain ⟨⟨h1, h2⟩, h3⟩ := h
  replace h1 := Nat.eq_of_beq_eq_true h1
  replace h2 := Nat.eq_of_beq_eq_true h2
  replace h3 := Nat.eq_of_beq_eq_true h3
  have tab := tabs hn a1 b1
  have tbc := tabs hn b1 c1
  have tac := tabs hn a1 c1
  rw [tab.1] at m1
  rw [tbc.1] at m2
  rw [tac.1] at m3
  rw [tab.2.1] at d1
  rw [tbc.2.1] at d2
  refine ⟨?_, ?_, ?_⟩
  · rw [tab.1, tbc.1, (tabs hn m1.2 c1).1, (tabs hn a1 m2.2).1, h1]
  · rw [tab.2.1, tbc.2.1, (tabs hn d1.2 c1).2.1, (tabs hn a1 d2.2).2.1, h2]
  · rw [tab.1, tac.1, tbc.2.1, (tabs hn a1 d2.2).1, (tabs hn m1.2 m3.2).2.1, h3]
theorem over_mul (hn : n ∈ sizes) (a0 : 0 ≤ a) (a1 : a < n) (b0 : 0 ≤ b) (b1 : b < n) (hb : b ≠ 0) : mulF n (overF n a b) b = a := by
  have h := of_allN (of_allN (of_sizes okOver_all hn) a0 a1) b0 b1
  rw [Bool.or_eq_true] at h
  rcases h with h | h
  · exact absurd (of_decide_eq_true h) hb
  · exact of_decide_eq_true h
theorem over_rng (hn : n ∈ sizes) (a0 : 0 ≤ a) (a1 : a < n) (b0 : 0 ≤ b) (b1 : b < n) (hb : b ≠ 0) : 0 ≤ overF n a b ∧ overF n a b < n := by
  have i := inv_ok hn (a := b) (by omega) b1
  exact mul_rng hn a0 a1 i.2.1 i.2.2
theorem pow_size (hn : n ∈ sizes) (a0 : 0 ≤ a) (a1 : a < n) : powF n a n.toNat = a := of_decide_eq_true (of_allN (of_sizes okPow_all hn) a0 a1)
def rngL (n : Int) : List Int := (List.range n.toNat).map fun (i : Nat) => (i : Int)
def rowA (n a : Int) : List Int := (List.range n.toNat).map fun (i : Nat) => addF n a i 1
def rowM (n a : Int) : List Int := (List.range n.toNat).map fun (i : Nat) => mulF n a i
def okRow (n : Int) : Bool := allN n fun a => (rowA n a).isPerm (rngL n) && (decide (a = 0) || (rowM n a).isPerm (rngL n))
theorem okRow_all : sizes.all okRow = true := by decide +kernel
theorem rowA_perm (hn : n ∈ sizes) (a0 : 0 ≤ a) (a1 : a < n) : (rowA n a).Perm (rngL n) := by
  have h := of_allN (of_sizes okRow_all hn) a0 a1
  rw [Bool.and_eq_true] at h
  exact List.isPerm_iff.mp h.1
theorem rowM_perm (hn : n ∈ sizes) (a0 : 0 ≤ a) (a1 : a < n) (hz : a ≠ 0) : (rowM n a).Perm (rngL n) := by
  have h := of_allN (of_sizes okRow_all hn) a0 a1
  rw [Bool.and_eq_true, Bool.or_eq_true] at h
  rcases h.2 with h | h
  · exact absurd (of_decide_eq_true h) hz
  · exact List.isPerm_iff.mp h
theorem rngL_sorted (n : Int) : (rngL n).Pairwise (· ≤ ·) := by
  unfold rngL
  refine List.Pairwise.map _ (fun a b (h : a < b) => by omega) (List.pairwise_lt_range)
end
end FM

set_option linter.all false
set_option maxRecDepth 100000
/-! # FL: the law's own sums over figures, against the field's -/
namespace FL
open FM
/-- the law's sum: k more figures -/
def la (b : Int) : Nat → Int → Int → Int → Int → Int
  | 0, f, _, _, _ => f
  | k + 1, f, w, x, y => la b k (f + (x + y) % b * w) (w * b) (x / b) (y / b)
def okA (n : Int) : Bool := allN n fun a => allN n fun c => decide (la (base n) 4 0 1 a c = addF n a c 1)
theorem okA_all : sizes.all okA = true := by decide +kernel
theorem la_add {n a c : Int} (hn : n ∈ sizes) (a0 : 0 ≤ a) (a1 : a < n) (c0 : 0 ≤ c) (c1 : c < n) : la (base n) 4 0 1 a c = addF n a c 1 := of_decide_eq_true (of_allN (of_allN (of_sizes okA_all hn) a0 a1) c0 c1)
/-- the numbers that, with c, sum up to a -/
def lessL (n a c : Int) (k : Nat) : List Int := ((List.range k).map fun (i : Nat) => (i : Int)).filter fun l => decide (addF n l c 1 = a)
def okS (n : Int) : Bool := allN n fun a => allN n fun c => decide ((lessL n a c n.toNat)[0]? = some (addF n a c (-1)))
theorem okS_all : sizes.all okS = true := by decide +kernel
theorem less_head {n a c : Int} (hn : n ∈ sizes) (a0 : 0 ≤ a) (a1 : a < n) (c0 : 0 ≤ c) (c1 : c < n) : (lessL n a c n.toNat)[0]? = some (addF n a c (-1)) := of_decide_eq_true (of_allN (of_allN (of_sizes okS_all hn) a0 a1) c0 c1)
theorem lessL_succ (n a c : Int) (k : Nat) : lessL n a c (k + 1) = lessL n a c k ++ (if addF n k c 1 = a then [(k : Int)] else []) := by
  unfold lessL
  rw [List.range_succ, List.map_append, List.filter_append]
  congr 1
  by_cases h : addF n k c 1 = a <;> simp [h]
theorem lessL_len (n a c : Int) (k : Nat) : (lessL n a c k).length ≤ k := by
  unfold lessL
  refine Nat.le_trans (List.length_filter_le ..) ?_
  rw [List.length_map, List.length_range]
  exact Nat.le_refl k
end FL

set_option Elab.async false
set_option linter.all false
set_option maxRecDepth 100000
set_option maxHeartbeats 4000000
/-! ### own steps (local) -/
local macro_rules | `(tactic| walk_at "hp") => `(tactic| first
  | assumption
  | exact L2.upd_same
  | ((with_reducible refine U.upd_new ?_ ?_); (focus (first | assumption | done)); walk_at "hp")
  | ((with_reducible refine U.upd_ne'' ?_ ?_); (focus (first | assumption | (apply Ne.symm; assumption))); walk_at "hp")
  | ((with_reducible refine' U.Same.get ?hx ?hy); (case hx => assumption); (case hy => walk_at "hp"))
  | ((with_reducible refine' U.ExtN.lst ?hx ?hy); (case hx => assumption); (case hy => walk_at "hp"))
  | ((with_reducible refine' U.ExtN.tup ?hx ?hy); (case hx => assumption); (case hy => walk_at "hp"))
  | ((with_reducible refine' U.ExtN.ins ?hx ?hy); (case hx => assumption); (case hy => walk_at "hp"))
  | fail "hp")
local macro_rules | `(tactic| walk_at "lay") => `(tactic| (intro p hn; generalize hg : L2.upd _ p _ = H'; have hs := U.same_of hg hn; have ho := U.at_of hg; clear hg))
local macro_rules | `(tactic| walk_at "sz") => `(tactic| first | decide | (show _ ≤ PySem.sizeLine; rw [PySem.sizeLine_eq]; (try simp only [List.length_cons, List.length_nil, List.length_map]); omega))
local macro_rules | `(tactic| walk_at "ref'") => `(tactic| skip)
local macro_rules | `(tactic| walk_at "rd1") => `(tactic| first
  | (with_reducible refine' U.i_seq ?_)
  | (with_reducible refine' U.i_asg ?_)
  | (with_reducible refine' U.i_ret ?_)
  | (with_reducible refine' U.i_ifS ?_)
  | (with_reducible refine' U.i_drop ?_)
  | ((with_reducible refine' U.i_var ?hx ?_); (case hx => rfl))
  | (with_reducible refine' U.i_c ?_)
  | (with_reducible refine' U.i_op ?_)
  | (with_reducible refine' U.i_un ?_)
  | (with_reducible refine' U.i_name ?_)
  | (with_reducible refine' U.i_gsub ?_)
  | (with_reducible refine' U.i_test ?_)
  | (with_reducible refine' U.i_tB ?_)
  | (with_reducible refine' U.i_bl ?_)
  | (with_reducible refine' U.i_not ?_)
  | (with_reducible refine' U.i_nil ?_)
  | (with_reducible refine' U.i_cons ?_)
  | (with_reducible refine' U.i_cb ?_)
  | (with_reducible refine' U.i_call ?_)
  | (with_reducible refine' U.i_fld ?_)
  | ((with_reducible refine' U.i_fld' ?hx ?hy ?hz ?hw ?_); (case hx => walk_at "hp"); (case hy => assumption); (case hz => assumption); (case hw => rfl))
  | (with_reducible refine' U.i_meth ?_)
  | ((with_reducible refine' U.i_meth' ?hx ?hy ?_); (case hx => walk_at "hp"); (case hy => rfl))
  | (with_reducible refine' U.i_add ?_)
  | (with_reducible refine' U.i_sub ?_)
  | ((with_reducible refine' U.i_mul ?hx ?_); (case hx => (first | (left; constructor <;> omega) | (right; constructor <;> omega))))
  | ((with_reducible refine' U.i_mod ?hx ?_); (case hx => omega))
  | ((with_reducible refine' U.i_fdiv ?hx ?_); (case hx => (constructor <;> omega)))
  | ((with_reducible refine' U.i_pow ?hx ?_); (case hx => (refine ⟨?_, ?_, ?_⟩ <;> decide)))
  | (with_reducible refine' U.i_lt ?_)
  | (with_reducible refine' U.i_le ?_)
  | (with_reducible refine' U.i_gt ?_)
  | (with_reducible refine' U.i_ge ?_)
  | (with_reducible refine' U.i_eqI ?_)
  | (with_reducible refine' U.i_neI ?_)
  | (with_reducible refine' U.i_rU ?_)
  | (with_reducible refine' U.i_abs ?_)
  | (with_reducible refine' U.i_callN ?_)
  | ((with_reducible refine' U.i_lens ?hx ?hy ?_); (case hx => rfl); (case hy => rfl))
  | ((with_reducible refine' U.i_ixL ?hx ?hy ?_); (case hx => exact L2.SqL.of (by walk_at "hp")); (case hy => rfl))
  | ((with_reducible refine' U.i_lenL ?hx ?_); (case hx => exact L2.SqL.of (by walk_at "hp")))
  | ((with_reducible refine' U.i_setL ?hx ?hy ?_); (case hx => walk_at "hp"); (case hy => rfl))
  | (with_reducible refine' U.i_augS ?_)
  | ((with_reducible refine' U.i_aug ?hx ?_); (case hx => rfl))
  | (with_reducible refine' U.i_ipI ?_)
  | ((with_reducible refine' U.i_ipMul ?hx ?_); (case hx => (first | (left; constructor <;> omega) | (right; constructor <;> omega))))
  | ((with_reducible refine' U.i_gtup ?hx ?hy ?_); (case hx => exact L2.SqT.of (by walk_at "hp")); (case hy => rfl))
  | (with_reducible refine' U.i_gcons ?_)
  | (with_reducible refine' U.i_gnil ?_)
  | ((with_reducible refine' U.i_divmod ?hx ?_); (case hx => (constructor <;> omega)); walk_at "lay")
  | (with_reducible refine' U.i_tup ?_)
  | (with_reducible refine' U.i_lst ?_)
  | ((with_reducible refine' U.lay_and ?hx ?_); (case hx => walk_at "sz"); walk_at "lay")
  | (with_reducible refine' U.i_sl ?_)
  | (with_reducible refine' U.i_part ?_)
  | (with_reducible refine' U.i_part' ?_)
  | (with_reducible refine' U.i_nopart ?_)
  | ((with_reducible refine' U.i_slL ?hx ?_); (case hx => exact L2.SqL.of (by walk_at "hp")); walk_at "lay")
  | (with_reducible refine' U.i_bm ?_)
  | ((with_reducible refine' U.i_bm' ?hx ?_); (case hx => walk_at "hp"))
  | ((with_reducible refine' U.i_append ?hx ?hy ?_); (case hx => walk_at "hp"); (case hy => walk_at "szl"))
  | ((with_reducible refine' U.i_chLL ?hx ?hy ?_); (case hx => rfl); (case hy => rfl))
  | (with_reducible refine' U.i_chain ?_)
  | (with_reducible refine' U.i_rng1 ?_)
  | ((with_reducible refine' U.i_rng1' ?hx ?hy ?_); (case hx => omega); (case hy => omega))
  | (with_reducible refine' U.i_rng2 ?_)
  | ((with_reducible refine' U.i_rng2' ?hx ?_); (case hx => (refine ⟨?_, ?_, ?_, ?_⟩ <;> omega)))
  | (with_reducible refine' U.i_rng3 ?_)
  | (with_reducible refine' U.i_enum ?_)
  | ((with_reducible refine' U.i_enum' ?hx ?_); (case hx => exact L2.SqL.of (by walk_at "hp")))
  | (with_reducible refine' U.i_enumT ?_)
  | ((with_reducible refine' U.i_enumT' ?hx ?_); (case hx => exact L2.SqT.of (by walk_at "hp")))
  | (with_reducible refine' U.i_rev ?_)
  | ((with_reducible refine' U.i_rev' ?hx ?_); (case hx => exact L2.SqL.of (by walk_at "hp")))
  | (with_reducible refine' U.i_plist ?_)
  | ((with_reducible refine' U.i_plist' ?hx ?_); (case hx => exact L2.SqL.of (by walk_at "hp")))
  | (with_reducible refine' U.i_for ?_)
  | (with_reducible refine' U.i_sfld ?_)
  | ((with_reducible refine' U.i_sfld' ?hx ?hy ?hz ?hw ?_); (case hx => walk_at "hp"); (case hy => assumption); (case hz => assumption); (case hw => exact Nat.le_of_ble_eq_true rfl))
  | (with_reducible refine' U.i_lc ?_)
  | (with_reducible refine' U.i_par3 ?_)
  | (with_reducible refine' U.i_par3' ?_)
  | (with_reducible refine' U.i_par ?_)
  | (with_reducible refine' U.i_par' ?_)
  | (with_reducible refine' U.i_lrg ?_)
  | (with_reducible refine' U.i_rg1 ?_)
  | (with_reducible refine' U.i_rg1' ?_)
  | (with_reducible refine' U.i_pl ?_)
  | ((with_reducible refine' U.i_pl' ?hx ?hy ?_); (case hx => walk_at "hp"); (case hy => exact Nat.le_of_ble_eq_true rfl))
  | (with_reducible refine' U.i_rAdd ?_)
  | ((with_reducible refine' U.i_listOf ?hx ?_); (case hx => exact L2.SqL.of (by walk_at "hp")); walk_at "lay")
  | (with_reducible refine' U.i_intB ?_)
  | (with_reducible refine' U.i_wget ?_)
  | ((with_reducible refine' U.i_tupleOf ?hx ?_); (case hx => walk_at "hp"); walk_at "lay")
  | ((with_reducible refine' U.i_repA ?hx ?hn ?h0 ?h1 ?h2 ?_); (case hx => walk_at "hp"); (case hn => simp); (case h0 => omega); (case h1 => omega); (case h2 => simp); intro p H' hs ho)
  | ((with_reducible refine' U.i_catA ?hx ?hy ?hz ?_); (case hx => walk_at "hp"); (case hy => walk_at "hp"); (case hz => walk_at "sz"); intro p H' hs ho)
  | ((with_reducible refine' U.i_slA ?hx ?_); (case hx => walk_at "hp"); intro p H' hs ho)
  | (with_reducible refine' U.i_zipS ?_)
  | ((with_reducible refine' U.i_zipTT ?hx ?hy ?_); (case hx => exact L2.SqT.of (by walk_at "hp")); (case hy => exact L2.SqT.of (by walk_at "hp")))
  | ((with_reducible refine' U.i_zipLL ?hx ?hy ?_); (case hx => exact L2.SqL.of (by walk_at "hp")); (case hy => exact L2.SqL.of (by walk_at "hp")))
  | (with_reducible refine' U.i_ptup ?_)
  | ((with_reducible refine' U.i_ptup' ?hx ?_); (case hx => exact L2.SqT.of (by walk_at "hp")))
  | ((with_reducible refine' U.i_lenT ?hx ?_); (case hx => exact L2.SqT.of (by walk_at "hp")))
  | (with_reducible refine' U.i_yes ?_)
  | (with_reducible refine' L2.iteT ?_)
  | (with_reducible refine' U.i_next ?_)
  | fail "rd1")
local macro_rules | `(tactic| walk_at "szl") => `(tactic| first | decide | (refine L2.small1000 ?_; (try simp only [List.length_cons, List.length_nil, List.length_map]); omega))
local macro_rules | `(tactic| walk_at "rd") => `(tactic| (repeat walk_at "rd1"))
local macro_rules | `(tactic| walk_at "ro") => `(tactic| (refine' U.i_or ?_; walk_at "rd"))
local macro_rules | `(tactic| walk_at "ra") => `(tactic| (refine' U.i_pt ?_; walk_at "rd"))
local macro_rules | `(tactic| walk_at "gd") => `(tactic| (repeat (first | walk_at "rd1" | (with_reducible refine' U.i_andV ?_))))

namespace Lw
open PySem L2 U LamX
def top (i : Nat) : Stmt := PySem.Challenge.pw_mingleway_k01_fields_by_their_sizes.main.body.getD i (.Pass ⟨0, 0, 0, 0⟩)
structure Ad where
  BadSize : Addr
  BadNumber : Addr
  SIZES : Addr
  BASES : Addr
  r4 : Addr
  r8 : Addr
  r9 : Addr
  r16 : Addr
  RULES : Addr
  Field : Addr
  BadRow : Addr
  BadName : Addr
  BadLine : Addr
  BadHearers : Addr
  BadLoss : Addr
  BadPlan : Addr
  BadDeed : Addr
  BadText : Addr
  Ringed : Addr
  Short : Addr
  Narrow : Addr
  Heavy : Addr
  Unsolved : Addr
  NoHouse : Addr
  NoLine : Addr
  Taken : Addr
  Full : Addr
  InUse : Addr
  Told : Addr
  NothingLeft : Addr
  NoShare : Addr
  MingleError : Addr
  Missing : Addr
  Busy : Addr
structure Txt (P : Program) (w : World) (K : PySem.W.Frag) (mg : Str → Option Value) (A : Ad) : Prop where
  len : mg "len" = none
  abs : mg "abs" = none
  list : mg "list" = none
  int : mg "int" = none
  d_law_bag : U.DA K mg "_law_bag" (top 37) ["_law_script"] []
  d_law_pull : U.DA K mg "_law_pull" (top 40) ["_law_bag_here", "_law_tally"] []
  d_law_size : U.DA K mg "_law_size" (top 42) ["_law_bag_here"] []
  range : mg "range" = none
  e_BadSize : U.EA K mg "BadSize" A.BadSize
  e_BadNumber : U.EA K mg "BadNumber" A.BadNumber
  g_SIZES : mg "SIZES" = some (.ref A.SIZES)
  s_SIZES : ∀ H, SqT K H A.SIZES [V.int 2, V.int 3, V.int 4, V.int 5, V.int 7, V.int 8, V.int 9, V.int 11, V.int 13, V.int 16]
  g_BASES : mg "BASES" = some (.ref A.BASES)
  s_BASES : ∀ H, SqT K H A.BASES [V.int 2, V.int 3, V.int 5, V.int 7, V.int 11, V.int 13]
  g_RULES : mg "RULES" = some (.ref A.RULES)
  w_RULES : U.WD P w K A.RULES [((Sum.inl 4 : Key), V.ref A.r4), ((Sum.inl 8 : Key), V.ref A.r8), ((Sum.inl 9 : Key), V.ref A.r9), ((Sum.inl 16 : Key), V.ref A.r16)]
  s_r4 : ∀ H, SqT K H A.r4 [V.int 1, V.int 1]
  s_r8 : ∀ H, SqT K H A.r8 [V.int 1, V.int 1, V.int 0]
  s_r9 : ∀ H, SqT K H A.r9 [V.int 2, V.int 0]
  s_r16 : ∀ H, SqT K H A.r16 [V.int 1, V.int 1, V.int 0, V.int 0]
  d_grown : U.DA K mg "grown" (top 33) ["one", "many"] []
  c_Field : Cls K A.Field
  na_Field_many : NoAttr K A.Field "many"
  na_Field_prime : NoAttr K A.Field "prime"
  na_Field_places : NoAttr K A.Field "places"
  n_Field : U.NA K mg "Field" A.Field "Field.__init__" (inClass (top 34) 0) ["self", "size"] [V.int 16]
  nk_Field : U.NK K mg "Field" A.Field "Field.__init__" (inClass (top 34) 0) [V.int 16] [] (fun fd => U.BN K fd ["self", "size"] 1 ["size"] (fun vs zs => vs ++ zs))
  m_Field_size : U.MA K A.Field "size" "Field.size" (inClass (top 34) 5) ["self"] []
  m_Field_base : U.MA K A.Field "base" "Field.base" (inClass (top 34) 6) ["self"] []
  m_Field___eq__ : U.MA K A.Field "__eq__" "Field.__eq__" (inClass (top 34) 1) ["self", "other"] []
  m_Field___len__ : U.MA K A.Field "__len__" "Field.__len__" (inClass (top 34) 2) ["self"] []
  m_Field___repr__ : U.MA K A.Field "__repr__" "Field.__repr__" (inClass (top 34) 3) ["self"] []
  m_Field___str__ : U.MA K A.Field "__str__" "Field.__str__" (inClass (top 34) 4) ["self"] []
  g_COMMON_SIZE : ∃ u, mg "COMMON_SIZE" = some u ∧ RelV (.int 16) u
  repr : mg "repr" = none
  isinstance : mg "isinstance" = none
  gx_BadSize : mg "BadSize" = some (.ref A.BadSize)
  gx_BadNumber : mg "BadNumber" = some (.ref A.BadNumber)
  gx_BadRow : mg "BadRow" = some (.ref A.BadRow)
  gx_BadName : mg "BadName" = some (.ref A.BadName)
  gx_BadLine : mg "BadLine" = some (.ref A.BadLine)
  gx_BadHearers : mg "BadHearers" = some (.ref A.BadHearers)
  gx_BadLoss : mg "BadLoss" = some (.ref A.BadLoss)
  gx_BadPlan : mg "BadPlan" = some (.ref A.BadPlan)
  gx_BadDeed : mg "BadDeed" = some (.ref A.BadDeed)
  gx_BadText : mg "BadText" = some (.ref A.BadText)
  gx_Ringed : mg "Ringed" = some (.ref A.Ringed)
  gx_Short : mg "Short" = some (.ref A.Short)
  gx_Narrow : mg "Narrow" = some (.ref A.Narrow)
  gx_Heavy : mg "Heavy" = some (.ref A.Heavy)
  gx_Unsolved : mg "Unsolved" = some (.ref A.Unsolved)
  gx_NoHouse : mg "NoHouse" = some (.ref A.NoHouse)
  gx_NoLine : mg "NoLine" = some (.ref A.NoLine)
  gx_Taken : mg "Taken" = some (.ref A.Taken)
  gx_Full : mg "Full" = some (.ref A.Full)
  gx_InUse : mg "InUse" = some (.ref A.InUse)
  gx_Told : mg "Told" = some (.ref A.Told)
  gx_NothingLeft : mg "NothingLeft" = some (.ref A.NothingLeft)
  gx_NoShare : mg "NoShare" = some (.ref A.NoShare)
  gx_MingleError : mg "MingleError" = some (.ref A.MingleError)
  gx_Missing : mg "Missing" = some (.ref A.Missing)
  gx_Busy : mg "Busy" = some (.ref A.Busy)
  d_law_kind : U.DA K mg "_law_kind" (top 39) ["_law_e"] []
  d_law_why : U.DA K mg "_law_why" (top 44) ["_law_ask"] []
  bool : mg "bool" = none
  str : mg "str" = none
  dict : mg "dict" = none
  tuple : mg "tuple" = none
  all : mg "all" = none
  d_law_whole : U.DA K mg "_law_whole" (top 43) ["_law_one"] []
  d_law_alike : U.DA K mg "_law_alike" (top 36) ["_law_found", "_law_due"] []
  d_law_root : U.DA K mg "_law_root" (top 41) ["_law_big"] []
  d_law_far : U.DA K mg "_law_far" (top 38) ["_law_bag_here"] []
  ck : PySem.W.findIn K (.ref A.Field) "__class__" = some (some (.builtin "object.__class__"))
  cg : PySem.W.specialIn K (.builtin "object.__class__") "__get__" = some (some (.builtin "getset_descriptor.__get__"))
  ct : PySem.W.takesIn K (.builtin "object.__class__") = some true
  cm : PySem.W.mroIn K A.Field (.type "object") = some true
  ki : PySem.W.kitOne K (.type "int") (.ref A.Field) = some false
  cb : PySem.W.findIn K (.ref A.Field) "__bool__" = some none
  cn : PySem.W.findIn K (.ref A.Field) "__ne__" = some (some (.builtin "object.__ne__"))
  fi : PySem.W.notFirst K A.Field (.type "int") = true
  fs : PySem.W.notFirst K A.Field (.type "str") = true
  ks : PySem.W.kitOne K (.type "str") (.ref A.Field) = some false


/-! ### promises -/
def Bag (H : Hp) (a c : Addr) : Prop := ∃ (ns : List Int) (i l s : Int), H a = some (.lst [.ref c, .int i, .int l, .int s]) ∧ H c = some (.lst (ns.map V.int)) ∧ a ≠ c ∧ 0 ≤ i ∧ 0 ≤ s ∧ s < 2147483629
def spPull : Sp := fun vs H Q _ => ∃ (a c : Addr) (n : Int), vs = [.ref a, .int n] ∧ Bag H a c ∧ 0 < n ∧ n < 1073741824 ∧ ∀ (r : Int) (H' : Hp), 0 ≤ r → r < n → Bag H' a c → But a H H' → Q (.int r) H'
def spSize : Sp := fun vs H Q _ => ∃ (a c : Addr), vs = [.ref a] ∧ Bag H a c ∧ ∀ (r : Int) (H' : Hp), r ∈ FM.sizes → Bag H' a c → But a H H' → Q (.int r) H'
def spBag (K : PySem.W.Frag) : Sp := fun vs H Q _ => ∃ (a : Addr) (ns : List Int), vs = [.ref a] ∧ SqL K H a (ns.map V.int) ∧ ns.length ≤ 63 ∧ ∀ (b c : Addr) (H' : Hp), H b = none → H c = none → Same H H' → Bag H' b c → Q (.ref b) H'
theorem Bag.same {H H' : Hp} {a c : Addr} (h : Bag H a c) (s : Same H H') : Bag H' a c := by
  obtain ⟨ns, i, l, z, h1, h2, h3⟩ := h
  exact ⟨ns, i, l, z, s _ _ h1, s _ _ h2, h3⟩
/-- a Field of size n stands at p -/
def flds (n : Int) : List (Str × V) := [("many", .int n), ("prime", .int (FM.base n)), ("places", .int (FM.places n : Nat))]
def FA (A : Ad) (H : Hp) (p : Addr) (n : Int) : Prop := n ∈ FM.sizes ∧ ∃ dx, H p = some (.ins A.Field dx (flds n))
theorem FA.same {A : Ad} {H H' : Hp} {p : Addr} {n : Int} (h : FA A H p n) (s : Same H H') : FA A H' p n := by
  obtain ⟨h1, dx, h2⟩ := h
  exact ⟨h1, dx, s _ _ h2⟩
theorem FA.but {A : Ad} {H H' : Hp} {p a : Addr} {n : Int} (h : FA A H p n) (s : But a H H') (ne : p ≠ a) : FA A H' p n := by
  obtain ⟨h1, dx, h2⟩ := h
  exact ⟨h1, dx, s _ _ h2 ne⟩
local macro_rules | `(tactic| walk_at "fa") => `(tactic| first
  | assumption
  | ((with_reducible refine' Lw.FA.same ?hx ?hy); (case hy => assumption); (case hx => walk_at "fa"))
  | fail "fa")
local macro_rules | `(tactic| walk_at "bg") => `(tactic| first
  | assumption
  | ((with_reducible refine' Lw.Bag.same ?hx ?hy); (case hy => assumption); (case hx => walk_at "bg"))
  | fail "bg")
def spGrown : Sp := fun vs H Q _ => ∃ (a : Int) (k : Nat), vs = [.int a, .int (k : Nat)] ∧ -(2 ^ 64) < a ∧ a < 2 ^ 64 ∧ k < 2 ^ 62 ∧ Q (.int (a ^ k)) H
def spInit (A : Ad) : Sp := fun vs H Q E => ∃ (p dx : Addr) (n : Int), vs = [.ref p, .int n] ∧ H p = some (.ins A.Field dx []) ∧
  (n ∈ FM.sizes → ∀ H', (∀ b o, H b = some o → b ≠ p → H' b = some o) → FA A H' p n → Q .non H') ∧ (n ∉ FM.sizes → E (.ref A.BadSize) none H)
def spHas (A : Ad) : Sp := fun vs H Q _ => ∃ (p : Addr) (n a : Int), vs = [.ref p, .int a] ∧ FA A H p n ∧ Q (.bl (decide (0 ≤ a ∧ a < n))) H
def spNeed (A : Ad) : Sp := fun vs H Q E => ∃ (p : Addr) (n a : Int), vs = [.ref p, .int a] ∧ FA A H p n ∧ (0 ≤ a ∧ a < n → Q .non H) ∧ (¬ (0 ≤ a ∧ a < n) → E (.ref A.BadNumber) none H)
def spFigs (A : Ad) : Sp := fun vs H Q _ => ∃ (p : Addr) (n a : Int), vs = [.ref p, .int a] ∧ FA A H p n ∧ ∀ l H', H l = none → Same H H' → H' l = some (.lst ((FM.figs (FM.base n) (FM.places n) a).map V.int)) → Q (.ref l) H'
def spComp (A : Ad) : Sp := fun vs H Q _ => ∃ (p l : Addr) (n : Int) (fs : List Int), vs = [.ref p, .ref l] ∧ FA A H p n ∧ H l = some (.lst (fs.map V.int)) ∧ Q (.int (FM.comp (FM.base n) fs)) H
def spAdded (A : Ad) : Sp := fun vs H Q _ => ∃ (p : Addr) (n a b s : Int), vs = [.ref p, .int a, .int b, .int s] ∧ FA A H p n ∧ (s = 1 ∨ s = -1) ∧ ∀ H', Same H H' → Q (.int (FM.addF n a b s)) H'
/-- an operation on two numbers of the field -/
def spOp (A : Ad) (f : Int → Int → Int → Int) : Sp := fun vs H Q E => ∃ (p : Addr) (n a b : Int), vs = [.ref p, .int a, .int b] ∧ FA A H p n ∧
  ((0 ≤ a ∧ a < n) ∧ (0 ≤ b ∧ b < n) → ∀ H', Same H H' → Q (.int (f n a b)) H') ∧ (¬ ((0 ≤ a ∧ a < n) ∧ (0 ≤ b ∧ b < n)) → E (.ref A.BadNumber) none H)
def spProd (A : Ad) : Sp := fun vs H Q _ => ∃ (p : Addr) (n a b : Int), vs = [.ref p, .int a, .int b] ∧ FA A H p n ∧ (0 ≤ a ∧ a < n) ∧ (0 ≤ b ∧ b < n) ∧ ∀ H', Same H H' → Q (.int (FM.mulF n a b)) H'
def spInv (A : Ad) : Sp := fun vs H Q _ => ∃ (p : Addr) (n a : Int), vs = [.ref p, .int a] ∧ FA A H p n ∧ 0 < a ∧ a < n ∧ ∀ H', Same H H' → Q (.int (FM.invF n a)) H'
def spOver (A : Ad) : Sp := fun vs H Q E => ∃ (p : Addr) (n a b : Int), vs = [.ref p, .int a, .int b] ∧ FA A H p n ∧
  ((0 ≤ a ∧ a < n) ∧ (0 ≤ b ∧ b < n) → b ≠ 0 → ∀ H', Same H H' → Q (.int (FM.overF n a b)) H') ∧ (¬ ((0 ≤ a ∧ a < n) ∧ (0 ≤ b ∧ b < n)) → E (.ref A.BadNumber) none H) ∧
  ((0 ≤ a ∧ a < n) ∧ (0 ≤ b ∧ b < n) → b = 0 → ∀ H', Same H H' → E (.ref A.NoShare) none H')
def spPow (A : Ad) : Sp := fun vs H Q E => ∃ (p : Addr) (n a m : Int), vs = [.ref p, .int a, .int m] ∧ FA A H p n ∧
  ((0 ≤ a ∧ a < n) ∧ 0 ≤ m → ∀ H', Same H H' → Q (.int (FM.powF n a m.toNat)) H') ∧ (¬ ((0 ≤ a ∧ a < n) ∧ 0 ≤ m) → E (.ref A.BadNumber) none H)
def spGetN (A : Ad) (f : Int → Int) : Sp := fun vs H Q _ => ∃ (p : Addr) (n : Int), vs = [.ref p] ∧ FA A H p n ∧ Q (.int (f n)) H
theorem spOp.go {A : Ad} {f : Int → Int → Int → Int} {H : Hp} {Q : VK} {E : XK} {p : Addr} {n a b : Int} (fa : FA A H p n) (ra : 0 ≤ a ∧ a < n) (rb : 0 ≤ b ∧ b < n) (q : ∀ H', Same H H' → Q (.int (f n a b)) H') : spOp A f [.ref p, .int a, .int b] H Q E :=
  ⟨p, n, a, b, rfl, fa, fun _ => q, fun z => absurd ⟨ra, rb⟩ z⟩
/-- a call of an operation on two numbers of the field -/
local macro_rules | `(tactic| walk_at "op2") => `(tactic| (refine' Lw.spOp.go ?fa ?ra ?rb ?q; (case fa => walk_at "fa"); (case ra => constructor <;> omega); (case rb => constructor <;> omega); intro H' s'; walk_at "rd"))
theorem spOver.go {A : Ad} {H : Hp} {Q : VK} {E : XK} {p : Addr} {n a b : Int} (fa : FA A H p n) (ra : 0 ≤ a ∧ a < n) (rb : 0 ≤ b ∧ b < n) (hb : b ≠ 0) (q : ∀ H', Same H H' → Q (.int (FM.overF n a b)) H') : spOver A [.ref p, .int a, .int b] H Q E :=
  ⟨p, n, a, b, rfl, fa, fun _ _ => q, fun z => absurd ⟨ra, rb⟩ z, fun _ z => absurd z hb⟩
theorem spPow.go {A : Ad} {H : Hp} {Q : VK} {E : XK} {p : Addr} {n a m : Int} (fa : FA A H p n) (ra : 0 ≤ a ∧ a < n) (hm : 0 ≤ m) (q : ∀ H', Same H H' → Q (.int (FM.powF n a m.toNat)) H') : spPow A [.ref p, .int a, .int m] H Q E :=
  ⟨p, n, a, m, rfl, fa, fun _ => q, fun z => absurd ⟨ra, hm⟩ z⟩
theorem spPull.go {H : Hp} {Q : VK} {E : XK} {a c : Addr} {n : Int} (hb : Bag H a c) (h0 : 0 < n) (h1 : n < 1073741824) (q : ∀ (r : Int) (H' : Hp), 0 ≤ r → r < n → Bag H' a c → But a H H' → Q (.int r) H') : spPull [.ref a, .int n] H Q E :=
  ⟨a, c, n, rfl, hb, h0, h1, q⟩
section
variable {P : Program} {w : World} {K : PySem.W.Frag} {mg : Str → Option Value} {base : Heap} {A : Ad}

structure Kinds (K : PySem.W.Frag) (A : Ad) (D : Addr) (b0 b1 b2 b3 b4 b5 b6 b7 b8 b9 b10 b11 b12 b13 b14 b15 b16 b17 b18 b19 b20 b21 b22 : Bool) : Prop where
  exc : ExcC K D
  k0 : PySem.W.kitOne K (.ref D) (.ref A.BadSize) = some b0
  k1 : PySem.W.kitOne K (.ref D) (.ref A.BadNumber) = some b1
  k2 : PySem.W.kitOne K (.ref D) (.ref A.BadRow) = some b2
  k3 : PySem.W.kitOne K (.ref D) (.ref A.BadName) = some b3
  k4 : PySem.W.kitOne K (.ref D) (.ref A.BadLine) = some b4
  k5 : PySem.W.kitOne K (.ref D) (.ref A.BadHearers) = some b5
  k6 : PySem.W.kitOne K (.ref D) (.ref A.BadLoss) = some b6
  k7 : PySem.W.kitOne K (.ref D) (.ref A.BadPlan) = some b7
  k8 : PySem.W.kitOne K (.ref D) (.ref A.BadDeed) = some b8
  k9 : PySem.W.kitOne K (.ref D) (.ref A.BadText) = some b9
  k10 : PySem.W.kitOne K (.ref D) (.ref A.Ringed) = some b10
  k11 : PySem.W.kitOne K (.ref D) (.ref A.Short) = some b11
  k12 : PySem.W.kitOne K (.ref D) (.ref A.Narrow) = some b12
  k13 : PySem.W.kitOne K (.ref D) (.ref A.Heavy) = some b13
  k14 : PySem.W.kitOne K (.ref D) (.ref A.Unsolved) = some b14
  k15 : PySem.W.kitOne K (.ref D) (.ref A.NoHouse) = some b15
  k16 : PySem.W.kitOne K (.ref D) (.ref A.NoLine) = some b16
  k17 : PySem.W.kitOne K (.ref D) (.ref A.Taken) = some b17
  k18 : PySem.W.kitOne K (.ref D) (.ref A.Full) = some b18
  k19 : PySem.W.kitOne K (.ref D) (.ref A.InUse) = some b19
  k20 : PySem.W.kitOne K (.ref D) (.ref A.Told) = some b20
  k21 : PySem.W.kitOne K (.ref D) (.ref A.NothingLeft) = some b21
  k22 : PySem.W.kitOne K (.ref D) (.ref A.NoShare) = some b22
structure Told (K : PySem.W.Frag) (A : Ad) (D : Addr) : Prop where
  n0 : PySem.W.exmOne K (.ref D) (.ref A.NoHouse) = some false
  n1 : PySem.W.exmOne K (.ref D) (.ref A.NoLine) = some false
  n2 : PySem.W.exmOne K (.ref D) (.ref A.InUse) = some false
  n3 : PySem.W.exmOne K (.ref D) (.ref A.BadText) = some false
  n4 : PySem.W.exmOne K (.ref D) (.ref A.Heavy) = some false
  any : PySem.W.exmAny K (.ref D) [.ref A.MingleError, .ref A.Missing, .ref A.Busy, .ref A.NoShare] = some true
abbrev marks (b0 b1 b2 b3 b4 b5 b6 b7 b8 b9 b10 b11 b12 b13 b14 b15 b16 b17 b18 b19 b20 b21 b22 : Bool) : List (Str × Bool) := [(("BadSize" : Str), b0), (("BadNumber" : Str), b1), (("BadRow" : Str), b2), (("BadName" : Str), b3), (("BadLine" : Str), b4), (("BadHearers" : Str), b5), (("BadLoss" : Str), b6), (("BadPlan" : Str), b7), (("BadDeed" : Str), b8), (("BadText" : Str), b9), (("Ringed" : Str), b10), (("Short" : Str), b11), (("Narrow" : Str), b12), (("Heavy" : Str), b13), (("Unsolved" : Str), b14), (("NoHouse" : Str), b15), (("NoLine" : Str), b16), (("Taken" : Str), b17), (("Full" : Str), b18), (("InUse" : Str), b19), (("Told" : Str), b20), (("NothingLeft" : Str), b21), (("NoShare" : Str), b22)]
def kindNames : List Str := ["BadSize", "BadNumber", "BadRow", "BadName", "BadLine", "BadHearers", "BadLoss", "BadPlan", "BadDeed", "BadText", "Ringed", "Short", "Narrow", "Heavy", "Unsolved", "NoHouse", "NoLine", "Taken", "Full", "InUse", "Told", "NothingLeft", "NoShare"]
theorem names_len : (kindNames.map (·.length)).sum ≤ 1000 := by decide +kernel
theorem marks_len (b0 b1 b2 b3 b4 b5 b6 b7 b8 b9 b10 b11 b12 b13 b14 b15 b16 b17 b18 b19 b20 b21 b22 : Bool) : ((U.words (marks b0 b1 b2 b3 b4 b5 b6 b7 b8 b9 b10 b11 b12 b13 b14 b15 b16 b17 b18 b19 b20 b21 b22)).map (·.length)).sum + (U.words (marks b0 b1 b2 b3 b4 b5 b6 b7 b8 b9 b10 b11 b12 b13 b14 b15 b16 b17 b18 b19 b20 b21 b22)).length * (PySem.Str.ofString " ").length ≤ 16777216 := by
  have h := U.lens_le (marks b0 b1 b2 b3 b4 b5 b6 b7 b8 b9 b10 b11 b12 b13 b14 b15 b16 b17 b18 b19 b20 b21 b22)
  have e1 : (marks b0 b1 b2 b3 b4 b5 b6 b7 b8 b9 b10 b11 b12 b13 b14 b15 b16 b17 b18 b19 b20 b21 b22).map (·.1) = kindNames := rfl
  have e2 : (marks b0 b1 b2 b3 b4 b5 b6 b7 b8 b9 b10 b11 b12 b13 b14 b15 b16 b17 b18 b19 b20 b21 b22).length = 23 := rfl
  have e3 : (PySem.Str.ofString " ").length = 1 := by decide +kernel
  have e4 := names_len
  rw [e1, e2] at h
  rw [e3]
  omega


def spRoot : Sp := fun vs H Q _ => ∃ (n : Int), vs = [.int n] ∧ n ∈ FM.sizes ∧ ∀ H', Same H H' → Q (.int (FM.base n)) H'
def spAdd : Sp := fun vs H Q _ => ∃ (n a c : Int), vs = [.int n, .int a, .int c] ∧ n ∈ FM.sizes ∧ 0 ≤ a ∧ a < n ∧ 0 ≤ c ∧ c < n ∧ ∀ H', Same H H' → Q (.int (FM.addF n a c 1)) H'
def spFar : Sp := fun vs H Q _ => ∃ (a c : Addr), vs = [.ref a] ∧ Bag H a c ∧ ∀ (r : Int) (H' : Hp), ¬ (0 ≤ r ∧ r < 1000) → Bag H' a c → But a H H' → Q (.int r) H'
def spLess : Sp := fun vs H Q _ => ∃ (n a c : Int), vs = [.int n, .int a, .int c] ∧ n ∈ FM.sizes ∧ 0 ≤ a ∧ a < n ∧ 0 ≤ c ∧ c < n ∧ ∀ H', Same H H' → Q (.int (FM.addF n a c (-1))) H'


local macro_rules | `(tactic| walk_at "ty") => `(tactic| first | exact .base (.int _) | exact .base (.str _) | exact .base (.bl _) | exact .base .non | exact .base (.lst (by walk_at "hp")) | exact .base (.tup (by walk_at "hp")))
local macro_rules | `(tactic| walk_at "al") => `(tactic| (repeat (first
  | walk_at "rd1"
  | (with_reducible refine' U.i_andV ?_)
  | (with_reducible refine' U.i_notV ?_)
  | (with_reducible refine' U.i_truth ?_)
  | (with_reducible refine' U.i_or ?_)
  | (with_reducible refine' U.i_pt ?_)
  | ((with_reducible refine' U.i_isNT ?hx ?_); (case hx => rfl))
  | ((with_reducible refine' U.i_isNF ?hx ?_); (case hx => (intro z; cases z)))
  | ((with_reducible refine' U.i_isiT ?hx ?hy ?_); (case hx => walk_at "ty"); (case hy => decide +kernel))
  | ((with_reducible refine' U.i_isiF ?hx ?hy ?_); (case hx => walk_at "ty"); (case hy => decide +kernel))
  | (with_reducible refine' U.i_neBB ?_)
  | (with_reducible refine' U.i_eqBB ?_)
  | (with_reducible refine' U.i_eqSS ?_)
  | ((with_reducible refine' U.i_lenL ?hx ?_); (case hx => exact L2.SqL.of (by walk_at "hp")))
  | ((with_reducible refine' U.i_lenT ?hx ?_); (case hx => exact L2.SqT.of (by walk_at "hp")))
  | (with_reducible refine' U.iteT' ?_)
  | (with_reducible refine' U.iteF' ?_)
  | fail "al")))

def spWhole : Sp := fun vs H Q _ => ∃ (i : Int), vs = [.int i] ∧ Q (.bl true) H
def spAlike : Nat → Sp
  | 0 => fun _ _ _ _ => False
  | n + 1 => fun vs H Q _ => ∃ x y, vs = [x, y] ∧ U.Dt H n x y ∧ ∀ H', Same H H' → Q (.bl true) H'


def spFEq (A : Ad) : Sp := fun vs H Q _ => ∃ (p : Addr) (n : Int) (y : V), vs = [.ref p, y] ∧ FA A H p n ∧ ((∃ q m, y = .ref q ∧ FA A H q m ∧ Q (.bl (decide (n = m))) H) ∨ (((∃ i, y = .int i) ∨ ∃ z, y = .str z) ∧ Q (.bl false) H))
def spFText2 (A : Ad) (a : Str) : Sp := fun vs H Q _ => ∃ (p : Addr) (n : Int), vs = [.ref p] ∧ FA A H p n ∧ Q (.str ((PySem.Str.empty ++ a) ++ PySem.Str.ofString (toString n))) H
def spFText (A : Ad) (a z : Str) : Sp := fun vs H Q _ => ∃ (p : Addr) (n : Int), vs = [.ref p] ∧ FA A H p n ∧ Q (.str (((PySem.Str.empty ++ a) ++ PySem.Str.ofString (toString n)) ++ z)) H
def spFLen (A : Ad) : Sp := fun vs H Q _ => ∃ (p : Addr) (n : Int), vs = [.ref p] ∧ FA A H p n ∧ ∀ H', Same H H' → Q (.int n) H'
def spFSize (A : Ad) : Sp := fun vs H Q _ => ∃ (p : Addr) (n : Int), vs = [.ref p] ∧ FA A H p n ∧ Q (.int n) H
def spFBase (A : Ad) : Sp := fun vs H Q _ => ∃ (p : Addr) (n : Int), vs = [.ref p] ∧ FA A H p n ∧ Q (.int (FM.base n)) H

theorem sc_pull : FnScope ["_law_bag_here", "_law_tally", "_law_cell", "_law_grain", "_law_drawn"] ["_law_bag_here", "_law_tally"] (defScope (top 40)) := ⟨rfl, rfl, rfl, by decide +kernel, rfl, by decide +kernel, by decide +kernel⟩
theorem ok_pull (T : Txt P w K mg A) : U.Cl P w K mg base 1 "_law_pull" spPull [] := by
  refine T.d_law_pull.ok sc_pull (fun vs H Q E h => ?_) (fun f cdv Ar outer s H vs Q E hr h => ?_)
  · obtain ⟨a, c, n, rfl, ⟨ns, i, l, s, ha, hc, hac, hi0, hs0, hs1⟩, hn0, hn1, k⟩ := h
    rfl
  · obtain ⟨a, c, n, rfl, ⟨ns, i, l, s, ha, hc, hac, hi0, hs0, hs1⟩, hn0, hn1, k⟩ := h
    refine ⟨_, (pss_cons (ps_if (pt_cmpR op_eq (pe_ix ix_list (pv 0) pe_int (fun _ _ => rfl)) pe_int (nomark _))
    (pss_cons (ps_asg (pe_op U.u_add (pe_ix ix_list (pv 0) pe_int (fun _ _ => rfl)) pe_int) (pg_sub (pv 0) pe_int set_list))
    (pss_cons (ps_set (i := 2) sc_pull.nd rfl (Or.inl rfl) (pe_ifExp (pt_cmpR U.u_le (pe_ix ix_list (pv 0) pe_int (fun _ _ => rfl)) (pe_callB U.u_len (by rfl) T.len PySem.boot_len (pa_cons (pe_ix ix_list (pv 0) pe_int (fun _ _ => rfl)) pa_nil)) (nomark _)) (pe_ix ix_list (pe_ix ix_list (pv 0) pe_int (fun _ _ => rfl)) (pe_op U.u_sub (pe_ix ix_list (pv 0) pe_int (fun _ _ => rfl)) pe_int) (fun _ _ => rfl)) pe_int))
    (pss_cons (ps_if (pt_cmpR U.u_lt (pe_callB U.u_abs (by rfl) T.abs (by decide +kernel) (pa_cons (pv 2) pa_nil)) (pe_op U.u_pow pe_int pe_int) (nomark _))
    (pss_cons (ps_set (i := 3) sc_pull.nd rfl (Or.inl rfl) (pe_op U.u_add (pe_op U.u_mul (pe_ix ix_list (pv 0) pe_int (fun _ _ => rfl)) pe_int) (pe_op U.u_mul (pe_op U.u_mod (pv 2) pe_int) pe_int)))
    (pss_cons (ps_set (i := 3) sc_pull.nd rfl (Or.inl rfl) (pe_op U.u_mod (pe_op U.u_add (pv 3) (pe_op U.u_mul (pe_ix ix_list (pv 0) pe_int (fun _ _ => rfl)) pe_int)) pe_int))
    (pss_cons (ps_asg (pe_op U.u_mod (pe_op U.u_add (pe_op U.u_add (pe_op U.u_mul (pv 3) (pv 3)) (pe_ix ix_list (pv 0) pe_int (fun _ _ => rfl))) pe_int) pe_int) (pg_sub (pv 0) pe_int set_list))
    (pss_one (ps_ret (pe_op U.u_mod (pe_op U.u_add (pe_op U.u_fdiv (pe_ix ix_list (pv 0) pe_int (fun _ _ => rfl)) pe_int) (pe_op U.u_mul (pe_op U.u_mod (pe_ix ix_list (pv 0) pe_int (fun _ _ => rfl)) pe_int) pe_int)) (pv 1)))))))
    pss_nil)
    (pss_one (ps_asg (pe_callB U.u_abs (by rfl) T.abs (by decide +kernel) (pa_cons (pv 2) pa_nil)) (pg_sub (pv 0) pe_int set_list))))))
    pss_nil)
    (pss_cons (ps_set (i := 4) sc_pull.nd rfl (Or.inl rfl) (pe_op U.u_mod (pe_ix ix_list (pv 0) pe_int (fun _ _ => rfl)) (pv 1)))
    (pss_cons (ps_asg (pe_op U.u_fdiv (pe_ix ix_list (pv 0) pe_int (fun _ _ => rfl)) (pv 1)) (pg_sub (pv 0) pe_int set_list))
    (pss_one (ps_ret (pv 4)))))), ?_⟩
    walk_at "rd"
    refine U.ited (fun z1 => ?_) (fun z1 => ?_)
    · walk_at "rd"
      refine U.i_cut (fun x => ∃ z, x = V.int z) ?_ (fun rest => ?_)
      · rintro x ⟨z, rfl⟩
        walk_at "rd"
        refine U.ited (fun z2 => ?_) (fun z2 => ?_)
        · walk_at "rd"
          refine k _ _ (Int.emod_nonneg _ (by omega)) (Int.emod_lt_of_pos _ hn0) ⟨ns, _, _, _, upd_same, by walk_at "hp", hac, by omega, Int.emod_nonneg _ (by decide), Int.lt_trans (Int.emod_lt_of_pos _ (by decide)) (by decide)⟩ But.of.up
        · walk_at "rd"
          refine k _ _ (Int.emod_nonneg _ (by omega)) (Int.emod_lt_of_pos _ hn0) ⟨ns, _, _, _, upd_same, by walk_at "hp", hac, by omega, hs0, hs1⟩ But.of.up.up
      · refine U.i_ifE ?_
        walk_at "rd"
        refine U.ited (fun z2 => ?_) (fun z2 => ?_)
        · walk_at "rd"
          rw [List.length_map] at z2
          obtain ⟨z, hz, _⟩ := U.atI_ints (ns := ns) (i := i + 1 - 1) (by omega) (by omega)
          refine U.i_ixL (SqL.of (by walk_at "hp")) hz ?_
          exact rest _ ⟨z, rfl⟩
        · exact U.i_c (rest _ ⟨0, rfl⟩)
    · walk_at "rd"
      refine k _ _ (Int.emod_nonneg _ (by omega)) (Int.emod_lt_of_pos _ hn0) ⟨ns, _, _, _, upd_same, by walk_at "hp", hac, by omega, hs0, hs1⟩ But.of
theorem sc_size : FnScope ["_law_bag_here"] ["_law_bag_here"] (defScope (top 42)) := ⟨rfl, rfl, rfl, by decide +kernel, rfl, by decide +kernel, by decide +kernel⟩
theorem ok_size (T : Txt P w K mg A) : U.Cl P w K mg base 2 "_law_size" spSize [] := by
  obtain ⟨_, _, _, F_pull, g_pull, k_pull, bd_pull⟩ := (ok_pull (P := P) (w := w) (base := base) T).ex
  obtain ⟨_, d_pull, b_pull⟩ := bd_pull 0 (by decide)
  refine T.d_law_size.ok sc_size (fun vs H Q E h => ?_) (fun f cdv Ar outer s H vs Q E hr h => ?_)
  · obtain ⟨a, c, rfl, hb, k⟩ := h
    rfl
  · obtain ⟨a, c, rfl, hb, k⟩ := h
    refine ⟨_, (pss_one (ps_ret (pe_ix ix_tup (pe_tup (pa_cons pe_int (pa_cons pe_int (pa_cons pe_int (pa_cons pe_int (pa_cons pe_int (pa_cons pe_int (pa_cons pe_int (pa_cons pe_int (pa_cons pe_int (pa_cons pe_int pa_nil))))))))))) (pe_call F_pull (hr.mono (by decide)) rfl g_pull k_pull b_pull d_pull U.passN (pa_cons (pv 0) (pa_cons pe_int pa_nil))) (fun _ _ => rfl)))), ?_⟩
    walk_at "rd"
    rename_i t ht H1 s1 o1
    have ha : a ≠ t := fun e => by obtain ⟨ns, i, l, s, h1, _⟩ := hb; rw [e, ht] at h1; cases h1
    refine ⟨a, c, 10, rfl, hb.same s1, by decide, by decide, fun r H2 r0 r1 hb2 bt => ?_⟩
    have ot := bt _ _ o1 (Ne.symm ha)
    have e : [V.int 2, V.int 3, V.int 4, V.int 5, V.int 7, V.int 8, V.int 9, V.int 11, V.int 13, V.int 16] = FM.sizes.map V.int := rfl
    rw [e] at ot
    refine U.i_ixT (SqT.of ot) (U.atI_of (j := r.toNat) (by omega) (U.mig' (by show r.toNat < 10; omega))) ?_
    refine k _ _ ?_ hb2 (fun b o h n => bt _ _ (s1 _ _ h) n)
    rw [List.getD_eq_getElem?_getD, List.getElem?_eq_getElem (by show r.toNat < 10; omega)]
    exact List.getElem_mem _
theorem sc_bag : FnScope ["_law_script", "_law_cells", "_law_salt", "_law_one"] ["_law_script"] (defScope (top 37)) := ⟨rfl, rfl, rfl, by decide +kernel, rfl, by decide +kernel, by decide +kernel⟩
theorem ok_bag (T : Txt P w K mg A) : U.Cl P w K mg base 1 "_law_bag" (spBag K) [] := by
  refine T.d_law_bag.ok sc_bag (fun vs H Q E h => ?_) (fun f cdv Ar outer s H vs Q E hr h => ?_)
  · obtain ⟨a, ns, rfl, hS, hl, k⟩ := h
    rfl
  · obtain ⟨a, ns, rfl, hS, hl, k⟩ := h
    refine ⟨_, (pss_cons (ps_set (i := 1) sc_bag.nd rfl (Or.inl rfl) (pe_callTy U.u_listOf (by rfl) T.list (by decide +kernel) (pa_cons (pe_slice sl_list (pv 0) po_none (po_some pe_int)) pa_nil)))
    (pss_cons (ps_set (i := 2) sc_bag.nd rfl (Or.inl rfl) (pe_op U.u_add pe_int (pe_callB U.u_len (by rfl) T.len PySem.boot_len (pa_cons (pv 1) pa_nil))))
    (pss_cons (ps_for (passes_of (by exact rfl)) (by exact rfl) (pi_list (pv 1)) (pg_name (i := 3) sc_bag.nd rfl (Or.inl rfl))
    (pss_one (ps_set (i := 2) sc_bag.nd rfl (Or.inl rfl) (pe_op U.u_mod (pe_op U.u_add (pe_op U.u_add (pe_op U.u_mul (pv 2) pe_int) (pe_op U.u_mod (pe_callB U.u_abs (by rfl) T.abs (by decide +kernel) (pa_cons (pv 3) pa_nil)) pe_int)) (pe_op U.u_mul pe_int (pe_callTy U.u_intB (by rfl) T.int (by decide +kernel) (pa_cons (pe_cmpR U.u_lt (pv 3) pe_int (nomark _)) pa_nil)))) pe_int))))
    (pss_one (ps_ret (pe_lst (pa_cons (pv 1) (pa_cons pe_int (pa_cons pe_int (pa_cons (pv 2) pa_nil)))))))))), ?_⟩
    walk_at "rd"
    refine U.i_slL hS ?_
    walk_at "lay"
    walk_at "rd"
    rename_i l1 hl1 H1 s1 o1 l2 hl2 H2 s2 o2
    have e0 : cutV (ns.map V.int) none (some 63) = ns.map V.int := by
      have := U.cut_take' (xs := ns.map V.int) (q := 63) (by rw [List.length_map]; omega)
      exact this
    rw [e0] at o2
    refine for_it walk_list (fun i σ H' => ∃ (z : Int) (v : Option V), σ = [some (.ref a), some (.ref l2), some (.int z), v] ∧ Same H2 H' ∧ 0 ≤ z ∧ z < 2147483629) ⟨7 + (ns.length : Int), none, by rw [e0, List.length_map]; rfl, Same.refl _, by omega, by omega⟩ (fun _ _ _ _ ⟨_, _, _, h, _⟩ => SqL.of (h _ _ o2)) ?_ ?_
    · rintro i x σ H3 H4 hi ⟨z, v, rfl, s3, z0, z1⟩ ⟨rfl, hx⟩
      obtain ⟨rfl, _⟩ := U.mig hx
      walk_at "rd"
      exact ⟨_, _, rfl, s3, Int.emod_nonneg _ (by decide), Int.emod_lt_of_pos _ (by decide)⟩
    · rintro σ H3 ⟨z, v, rfl, s3, z0, z1⟩
      walk_at "rd"
      rename_i b hb H4 s4 o4
      have o2' := s4 _ _ (s3 _ _ o2)
      have ne : b ≠ l2 := fun e => by rw [e, s3 _ _ o2] at hb; cases hb
      exact k b l2 H4 (s1.free (s2.free (s3.free hb))) (s1.free hl2) (((s1.trans s2).trans s3).trans s4) ⟨ns, 0, 0, z, o4, o2', ne, by omega, z0, z1⟩
theorem sc_grown : FnScope ["one", "many", "found", "turn"] ["one", "many"] (defScope (top 33)) := ⟨rfl, rfl, rfl, by decide +kernel, rfl, by decide +kernel, by decide +kernel⟩
theorem ok_grown (T : Txt P w K mg A) : U.Cl P w K mg base 1 "grown" spGrown [] := by
  refine T.d_grown.ok sc_grown (fun vs H Q E h => ?_) (fun f cdv Ar outer s H vs Q E hr h => ?_)
  · obtain ⟨a, m, rfl, ha0, ha1, hm, k⟩ := h
    rfl
  · obtain ⟨a, m, rfl, ha0, ha1, hm, k⟩ := h
    refine ⟨_, (pss_cons (ps_set (i := 2) sc_grown.nd rfl (Or.inl rfl) pe_int)
    (pss_cons (ps_for (passes_of (by exact rfl)) (by exact rfl) (pi_range1 (by rfl) T.range (pa_cons (pv 1) pa_nil)) (pg_name (i := 3) sc_grown.nd rfl (Or.inl rfl))
    (pss_one (ps_aug (i := 2) sc_grown.nd rfl (Or.inl rfl) (pv 0) U.ip_mul)))
    (pss_one (ps_ret (pv 2))))), ?_⟩
    walk_at "rd"
    refine for_it walk_range (fun i σ H' => ∃ v, σ = [some (.int a), some (.int (m : Nat)), some (.int (a ^ i)), v] ∧ H' = H) ⟨none, by rw [Int.pow_zero]; rfl, rfl⟩ (fun _ _ _ _ _ => trivial) ?_ ?_
    · rintro i x σ H1 H2 hi ⟨v, rfl, rfl⟩ ⟨rfl, rfl⟩
      walk_at "rd"
      exact ⟨_, by rw [Int.pow_succ]; rfl, rfl⟩
    · rintro σ H1 ⟨v, rfl, rfl⟩
      walk_at "rd"
      exact k
theorem sc_init : FnScope ["self", "size", "base"] ["self", "size"] (defScope (inClass (top 34) 0)) := ⟨rfl, rfl, rfl, by decide +kernel, rfl, by decide +kernel, by decide +kernel⟩
theorem ok_init (T : Txt P w K mg A) : U.Nw P w K mg base 2 "Field" A.Field (spInit A) [V.int 16] := by
  obtain ⟨_, _, _, F_grown, g_grown, k_grown, bd_grown⟩ := (ok_grown (P := P) (w := w) (base := base) T).ex
  obtain ⟨_, d_grown, b_grown⟩ := bd_grown 0 (by decide)
  refine T.n_Field.ok sc_init (fun vs H Q E h => ?_) (fun f cdv Ar outer s H vs Q E hr h => ?_)
  · obtain ⟨p, dx, n, rfl, hp, kq, ke⟩ := h
    rfl
  · obtain ⟨p, dx, n, rfl, hp, kq, ke⟩ := h
    refine ⟨_, (pss_cons (ps_if (pt_cmpR op_notIn_seq (pv 1) (U.pe_gref rfl T.g_SIZES) (by rfl))
    (pss_one (U.ps_raise0 rfl (L2N.takes_of rfl rfl rfl rfl) T.e_BadSize))
    pss_nil)
    (pss_cons (ps_fld (pv 0) (pv 1) rfl)
    (pss_cons (ps_fld (pv 0) (pe_ix ix_list (pe_lc (own := [("base", 2)]) (g := (gName 2)) (by exact rfl) sc_init.nd (pi_tup (U.pe_gref rfl T.g_BASES)) (blkOk_by (own := [("base", 2)]) (N := ["self", "size", "base"]) (sc := defScope (inClass (top 34) 0)) (by decide +kernel)) (fun _ _ _ _ _ => (pg_name (i := 2) sc_init.nd rfl (Or.inl rfl))) (fun _ _ _ _ _ => pts_one (pt_cmpR op_eq (pe_op U.u_mod (pv 1) (pv 2)) pe_int (nomark _))) (fun _ _ _ _ _ => (pv 2))) pe_int (fun _ _ => rfl)) rfl)
    (pss_cons (ps_fld (pv 0) pe_int rfl)
    (pss_one (ps_while (passes_of (by exact rfl)) (pt_cmpR U.u_lt (pe_call F_grown (hr.mono (by decide)) rfl g_grown k_grown b_grown d_grown U.passN (pa_cons (pe_fld (pv 0) rfl) (pa_cons (pe_fld (pv 0) rfl) pa_nil))) (pv 1) (nomark _))
    (pss_one (ps_fldaug (pv 0) pe_int in_add)))))))), ?_⟩
    walk_at "rd"
    refine U.i_in (.inr (T.s_SIZES H)) rfl rfl ?_
    refine U.i_bl ?_
    have eIn : (inV (.int n) [V.int 2, V.int 3, V.int 4, V.int 5, V.int 7, V.int 8, V.int 9, V.int 11, V.int 13, V.int 16]) = decide (n ∈ FM.sizes) := by
      rw [Bool.eq_iff_iff, decide_eq_true_iff]
      show List.any _ _ = true ↔ _
      unfold FM.sizes
      simp only [List.any_cons, List.any_nil, Bool.or_false, Bool.or_eq_true, eqV, List.mem_cons, List.not_mem_nil, or_false, beq_iff_eq, decide_eq_true_iff]
      constructor <;> (intro h; omega)
    show (if (!inV _ _) = true then _ else _)
    rw [eIn]
    refine U.itedn (fun hn => ke hn) (fun hn => ?_)
    have cF := T.c_Field
    have n1 := T.na_Field_many
    have n2 := T.na_Field_prime
    have n3 := T.na_Field_places
    have sr := FM.size_rng hn
    have br := FM.base_rng hn
    have pr := FM.places_rng hn
    have kq := kq hn
    walk_at "rd"
    refine U.i_ptup' (T.s_BASES _) ?_
    intro D hD
    have hpD : p ≠ D := fun e => by rw [← e, upd_same] at hD; cases hD
    refine lc_it walk_tup (fun i H' => Same (upd H p (.ins A.Field dx [("many", V.int n)])) H' ∧ H' D = some (.lst ((FM.basP n i).map V.int))) ⟨same_new hD, upd_same⟩ (fun _ _ _ _ => T.s_BASES _) ?_ ?_
    · rintro i x H3 H4 hi ⟨s3, o3⟩ ⟨rfl, hx⟩
      have e : [V.int 2, V.int 3, V.int 5, V.int 7, V.int 11, V.int 13] = FM.basesL.map V.int := rfl
      rw [e] at hx
      obtain ⟨rfl, hi2⟩ := U.mig hx
      have hb0 : 0 < FM.basesL.getD i 0 := by
        have : i < 6 := hi2
        have h6 : i = 0 ∨ i = 1 ∨ i = 2 ∨ i = 3 ∨ i = 4 ∨ i = 5 := by omega
        rcases h6 with h | h | h | h | h | h <;> subst h <;> decide
      have bl := FM.basP_len n i
      have tk : FM.basesL.take (i + 1) = FM.basesL.take i ++ [FM.basesL.getD i 0] := U.take_succ_of (by rw [List.getD_eq_getElem?_getD, List.getElem?_eq_getElem hi2]; rfl)
      walk_at "rd"
      refine ⟨rfl, ?_⟩
      walk_at "rd"
      refine U.ited (fun z => ?_) (fun z => ?_)
      · walk_at "rd"
        refine ⟨_, o3, small1000 (by rw [List.length_map]; omega), same_own s3 hD, ?_⟩
        unfold FM.basP
        rw [tk, List.filter_append, List.filter_cons_of_pos (by simpa using z), List.filter_nil, List.map_append]
        exact upd_same
      · refine ⟨s3, ?_⟩
        unfold FM.basP
        rw [tk, List.filter_append, List.filter_cons_of_neg (by simpa using z), List.filter_nil, List.append_nil]
        exact o3
    · rintro H3 ⟨s3, o3⟩
      have hp3 : H3 p = some (.ins A.Field dx [("many", V.int n)]) := s3 _ _ upd_same
      have eb := FM.basP_end hn
      walk_at "rd"
      refine U.i_ixL (SqL.of o3) (U.atI_of (j := 0) rfl (by show ((FM.basP n 6).map V.int)[0]? = _; rw [List.getElem?_map, eb]; rfl)) ?_
      walk_at "rd"
      refine ⟨fun m σ H' => ∃ k : Nat, m = FM.places n - k ∧ 1 ≤ k ∧ k ≤ FM.places n ∧ σ = [some (.ref p), some (.int n), none] ∧ H' p = some (.ins A.Field dx [("many", V.int n), ("prime", V.int (FM.base n)), ("places", V.int (k : Nat))]) ∧ (∀ b o, H b = some o → b ≠ p → H' b = some o), ⟨FM.places n - 1, 1, rfl, Nat.le_refl _, pr.1, rfl, upd_same, ?_⟩, ?_⟩
      · intro b o h ne
        refine upd_ne'' ne (upd_ne'' ne (s3 _ _ (upd_ne'' ne h)))
      · rintro m σ H4 ⟨j, rfl, j1, j2, rfl, hp4, kp⟩
        have pl := FM.pow_lt hn j1 j2
        walk_at "rd"
        refine ⟨FM.base n, j, rfl, by omega, by omega, by omega, ?_⟩
        walk_at "rd"
        refine U.ited (fun z => ?_) (fun z => ?_)
        · refine ⟨fun σ' H' => ∃ m', m' < FM.places n - j ∧ ∃ k : Nat, m' = FM.places n - k ∧ 1 ≤ k ∧ k ≤ FM.places n ∧ σ' = [some (.ref p), some (.int n), none] ∧ H' p = some (.ins A.Field dx [("many", V.int n), ("prime", V.int (FM.base n)), ("places", V.int (k : Nat))]) ∧ (∀ b o, H b = some o → b ≠ p → H' b = some o), fun _ _ h => h, ?_⟩
          have hj := pl.mp z
          walk_at "rd"
          exact ⟨FM.places n - (j + 1), by omega, j + 1, rfl, by omega, by omega, rfl, upd_same, fun b o h ne => upd_ne'' ne (kp b o h ne)⟩
        · have hj : j = FM.places n := by
            have := mt pl.mpr z
            omega
          subst hj
          exact kq _ kp ⟨hn, dx, hp4⟩
theorem sc_initk : FnScope ["self", "size", "base"] ["self", "size"] (defScope (inClass (top 34) 0)) := ⟨rfl, rfl, rfl, by decide +kernel, rfl, by decide +kernel, by decide +kernel⟩
theorem ok_initk (T : Txt P w K mg A) : U.NwK P w K mg base 2 "Field" A.Field ["self", "size"] (spInit A) (fun fd => U.BN K fd ["self", "size"] 1 ["size"] (fun vs zs => vs ++ zs)) := by
  obtain ⟨_, _, _, F_grown, g_grown, k_grown, bd_grown⟩ := (ok_grown (P := P) (w := w) (base := base) T).ex
  obtain ⟨_, d_grown, b_grown⟩ := bd_grown 0 (by decide)
  refine T.nk_Field.ok sc_initk (fun vs H Q E h => ?_) (fun f cdv Ar outer s H vs Q E hr h => ?_)
  · obtain ⟨p, dx, n, rfl, hp, kq, ke⟩ := h
    rfl
  · obtain ⟨p, dx, n, rfl, hp, kq, ke⟩ := h
    refine ⟨_, (pss_cons (ps_if (pt_cmpR op_notIn_seq (pv 1) (U.pe_gref rfl T.g_SIZES) (by rfl))
    (pss_one (U.ps_raise0 rfl (L2N.takes_of rfl rfl rfl rfl) T.e_BadSize))
    pss_nil)
    (pss_cons (ps_fld (pv 0) (pv 1) rfl)
    (pss_cons (ps_fld (pv 0) (pe_ix ix_list (pe_lc (own := [("base", 2)]) (g := (gName 2)) (by exact rfl) sc_initk.nd (pi_tup (U.pe_gref rfl T.g_BASES)) (blkOk_by (own := [("base", 2)]) (N := ["self", "size", "base"]) (sc := defScope (inClass (top 34) 0)) (by decide +kernel)) (fun _ _ _ _ _ => (pg_name (i := 2) sc_initk.nd rfl (Or.inl rfl))) (fun _ _ _ _ _ => pts_one (pt_cmpR op_eq (pe_op U.u_mod (pv 1) (pv 2)) pe_int (nomark _))) (fun _ _ _ _ _ => (pv 2))) pe_int (fun _ _ => rfl)) rfl)
    (pss_cons (ps_fld (pv 0) pe_int rfl)
    (pss_one (ps_while (passes_of (by exact rfl)) (pt_cmpR U.u_lt (pe_call F_grown (hr.mono (by decide)) rfl g_grown k_grown b_grown d_grown U.passN (pa_cons (pe_fld (pv 0) rfl) (pa_cons (pe_fld (pv 0) rfl) pa_nil))) (pv 1) (nomark _))
    (pss_one (ps_fldaug (pv 0) pe_int in_add)))))))), ?_⟩
    walk_at "rd"
    refine U.i_in (.inr (T.s_SIZES H)) rfl rfl ?_
    refine U.i_bl ?_
    have eIn : (inV (.int n) [V.int 2, V.int 3, V.int 4, V.int 5, V.int 7, V.int 8, V.int 9, V.int 11, V.int 13, V.int 16]) = decide (n ∈ FM.sizes) := by
      rw [Bool.eq_iff_iff, decide_eq_true_iff]
      show List.any _ _ = true ↔ _
      unfold FM.sizes
      simp only [List.any_cons, List.any_nil, Bool.or_false, Bool.or_eq_true, eqV, List.mem_cons, List.not_mem_nil, or_false, beq_iff_eq, decide_eq_true_iff]
      constructor <;> (intro h; omega)
    show (if (!inV _ _) = true then _ else _)
    rw [eIn]
    refine U.itedn (fun hn => ke hn) (fun hn => ?_)
    have cF := T.c_Field
    have n1 := T.na_Field_many
    have n2 := T.na_Field_prime
    have n3 := T.na_Field_places
    have sr := FM.size_rng hn
    have br := FM.base_rng hn
    have pr := FM.places_rng hn
    have kq := kq hn
    walk_at "rd"
    refine U.i_ptup' (T.s_BASES _) ?_
    intro D hD
    have hpD : p ≠ D := fun e => by rw [← e, upd_same] at hD; cases hD
    refine lc_it walk_tup (fun i H' => Same (upd H p (.ins A.Field dx [("many", V.int n)])) H' ∧ H' D = some (.lst ((FM.basP n i).map V.int))) ⟨same_new hD, upd_same⟩ (fun _ _ _ _ => T.s_BASES _) ?_ ?_
    · rintro i x H3 H4 hi ⟨s3, o3⟩ ⟨rfl, hx⟩
      have e : [V.int 2, V.int 3, V.int 5, V.int 7, V.int 11, V.int 13] = FM.basesL.map V.int := rfl
      rw [e] at hx
      obtain ⟨rfl, hi2⟩ := U.mig hx
      have hb0 : 0 < FM.basesL.getD i 0 := by
        have : i < 6 := hi2
        have h6 : i = 0 ∨ i = 1 ∨ i = 2 ∨ i = 3 ∨ i = 4 ∨ i = 5 := by omega
        rcases h6 with h | h | h | h | h | h <;> subst h <;> decide
      have bl := FM.basP_len n i
      have tk : FM.basesL.take (i + 1) = FM.basesL.take i ++ [FM.basesL.getD i 0] := U.take_succ_of (by rw [List.getD_eq_getElem?_getD, List.getElem?_eq_getElem hi2]; rfl)
      walk_at "rd"
      refine ⟨rfl, ?_⟩
      walk_at "rd"
      refine U.ited (fun z => ?_) (fun z => ?_)
      · walk_at "rd"
        refine ⟨_, o3, small1000 (by rw [List.length_map]; omega), same_own s3 hD, ?_⟩
        unfold FM.basP
        rw [tk, List.filter_append, List.filter_cons_of_pos (by simpa using z), List.filter_nil, List.map_append]
        exact upd_same
      · refine ⟨s3, ?_⟩
        unfold FM.basP
        rw [tk, List.filter_append, List.filter_cons_of_neg (by simpa using z), List.filter_nil, List.append_nil]
        exact o3
    · rintro H3 ⟨s3, o3⟩
      have hp3 : H3 p = some (.ins A.Field dx [("many", V.int n)]) := s3 _ _ upd_same
      have eb := FM.basP_end hn
      walk_at "rd"
      refine U.i_ixL (SqL.of o3) (U.atI_of (j := 0) rfl (by show ((FM.basP n 6).map V.int)[0]? = _; rw [List.getElem?_map, eb]; rfl)) ?_
      walk_at "rd"
      refine ⟨fun m σ H' => ∃ k : Nat, m = FM.places n - k ∧ 1 ≤ k ∧ k ≤ FM.places n ∧ σ = [some (.ref p), some (.int n), none] ∧ H' p = some (.ins A.Field dx [("many", V.int n), ("prime", V.int (FM.base n)), ("places", V.int (k : Nat))]) ∧ (∀ b o, H b = some o → b ≠ p → H' b = some o), ⟨FM.places n - 1, 1, rfl, Nat.le_refl _, pr.1, rfl, upd_same, ?_⟩, ?_⟩
      · intro b o h ne
        refine upd_ne'' ne (upd_ne'' ne (s3 _ _ (upd_ne'' ne h)))
      · rintro m σ H4 ⟨j, rfl, j1, j2, rfl, hp4, kp⟩
        have pl := FM.pow_lt hn j1 j2
        walk_at "rd"
        refine ⟨FM.base n, j, rfl, by omega, by omega, by omega, ?_⟩
        walk_at "rd"
        refine U.ited (fun z => ?_) (fun z => ?_)
        · refine ⟨fun σ' H' => ∃ m', m' < FM.places n - j ∧ ∃ k : Nat, m' = FM.places n - k ∧ 1 ≤ k ∧ k ≤ FM.places n ∧ σ' = [some (.ref p), some (.int n), none] ∧ H' p = some (.ins A.Field dx [("many", V.int n), ("prime", V.int (FM.base n)), ("places", V.int (k : Nat))]) ∧ (∀ b o, H b = some o → b ≠ p → H' b = some o), fun _ _ h => h, ?_⟩
          have hj := pl.mp z
          walk_at "rd"
          exact ⟨FM.places n - (j + 1), by omega, j + 1, rfl, by omega, by omega, rfl, upd_same, fun b o h ne => upd_ne'' ne (kp b o h ne)⟩
        · have hj : j = FM.places n := by
            have := mt pl.mpr z
            omega
          subst hj
          exact kq _ kp ⟨hn, dx, hp4⟩
theorem sc_whole : FnScope ["_law_one"] ["_law_one"] (defScope (top 43)) := ⟨rfl, rfl, rfl, by decide +kernel, rfl, by decide +kernel, by decide +kernel⟩
theorem ok_whole (T : Txt P w K mg A) : U.Cl P w K mg base 1 "_law_whole" spWhole [] := by
  refine T.d_law_whole.ok sc_whole (fun vs H Q E h => ?_) (fun f cdv Ar outer s H vs Q E hr h => ?_)
  · obtain ⟨i, rfl, k⟩ := h
    rfl
  · obtain ⟨i, rfl, k⟩ := h
    refine ⟨_, (pss_one (ps_ret (pe_and (pe_callB call_isi (by rfl) T.isinstance (by decide +kernel) (pa_cons (pv 0) (pa_cons (pe_bltn (v := .ty "int") (by rfl) T.int (by decide +kernel) rfl) pa_nil))) (pe_one (pe_not (pe_callB call_isi (by rfl) T.isinstance (by decide +kernel) (pa_cons (pv 0) (pa_cons (pe_bltn (v := .ty "bool") (by rfl) T.bool (by decide +kernel) rfl) pa_nil)))))))), ?_⟩
    walk_at "al"
    exact k

theorem sc_alike : FnScope ["_law_found", "_law_due", "_law_name", "_law_at"] ["_law_found", "_law_due"] (defScope (top 36)) := ⟨rfl, rfl, rfl, by decide +kernel, rfl, by decide +kernel, by decide +kernel⟩
theorem ok_alike (T : Txt P w K mg A) : ∀ n, U.Cl P w K mg base (n + 1) "_law_alike" (spAlike n) []
  | 0 => T.d_law_alike.ok sc_alike (fun vs H Q E h => h.elim) (fun f cdv Ar outer s H vs Q E hr h => h.elim)
  | n + 1 => by
    obtain ⟨_, _, _, F_al, g_al, k_al, bd_al⟩ := (ok_alike T n).ex
    obtain ⟨_, d_al, b_al⟩ := bd_al 0 (by decide)
    obtain ⟨_, _, _, F_wh, g_wh, k_wh, bd_wh⟩ := (ok_whole (base := base) T).ex
    obtain ⟨_, d_wh, b_wh⟩ := bd_wh 0 (by decide)
    refine T.d_law_alike.ok sc_alike (fun vs H Q E h => ?_) (fun f cdv Ar outer s H vs Q E hr h => ?_)
    · obtain ⟨x, y, rfl, _⟩ := h
      rfl
    obtain ⟨x, y, rfl, dt, k⟩ := h
    refine ⟨_, (pss_cons (ps_if (PW.pt (pw_or (pt_cmpR op_isN1 (pv 1) pe_non (nomark _)) (pw_or1 (pt_cmpR op_isN1 (pv 0) pe_non (nomark _)))))
    (pss_one (ps_ret (pe_and (pe_cmpR op_isN1 (pv 0) pe_non (nomark _)) (pe_one (pe_cmpR op_isN1 (pv 1) pe_non (nomark _))))))
    pss_nil)
    (pss_cons (ps_if (pt_val (pe_callB call_isi (by rfl) T.isinstance (by decide +kernel) (pa_cons (pv 1) (pa_cons (pe_bltn (v := .ty "bool") (by rfl) T.bool (by decide +kernel) rfl) pa_nil))))
    (pss_one (ps_ret (pe_and (pe_callB call_isi (by rfl) T.isinstance (by decide +kernel) (pa_cons (pv 0) (pa_cons (pe_bltn (v := .ty "bool") (by rfl) T.bool (by decide +kernel) rfl) pa_nil))) (pe_one (pe_cmpR op_eq (pv 0) (pv 1) (nomark _))))))
    pss_nil)
    (pss_cons (ps_if (pt_val (pe_callB call_isi (by rfl) T.isinstance (by decide +kernel) (pa_cons (pv 1) (pa_cons (pe_bltn (v := .ty "int") (by rfl) T.int (by decide +kernel) rfl) pa_nil))))
    (pss_one (ps_ret (pe_and (pe_call F_wh (hr.mono (by omega)) rfl g_wh k_wh b_wh d_wh U.passN (pa_cons (pv 0) pa_nil)) (pe_one (pe_cmpR op_eq (pv 0) (pv 1) (nomark _))))))
    pss_nil)
    (pss_cons (ps_if (pt_val (pe_callB call_isi (by rfl) T.isinstance (by decide +kernel) (pa_cons (pv 1) (pa_cons (pe_bltn (v := .ty "str") (by rfl) T.str (by decide +kernel) rfl) pa_nil))))
    (pss_one (ps_ret (pe_and (pe_callB call_isi (by rfl) T.isinstance (by decide +kernel) (pa_cons (pv 0) (pa_cons (pe_bltn (v := .ty "str") (by rfl) T.str (by decide +kernel) rfl) pa_nil))) (pe_one (pe_cmpR op_eq (pv 0) (pv 1) (nomark _))))))
    pss_nil)
    (pss_cons (ps_if (pt_val (pe_callB call_isi (by rfl) T.isinstance (by decide +kernel) (pa_cons (pv 1) (pa_cons (pe_bltn (v := .ty "dict") (by rfl) T.dict (by decide +kernel) rfl) pa_nil))))
    (pss_cons ps_never
    (pss_one ps_never))
    pss_nil)
    (pss_cons (ps_if (PW.pt (pw_or (pt_cmpR op_ne (pe_callB call_isi (by rfl) T.isinstance (by decide +kernel) (pa_cons (pv 1) (pa_cons (pe_bltn (v := .ty "list") (by rfl) T.list (by decide +kernel) rfl) pa_nil))) (pe_callB call_isi (by rfl) T.isinstance (by decide +kernel) (pa_cons (pv 0) (pa_cons (pe_bltn (v := .ty "list") (by rfl) T.list (by decide +kernel) rfl) pa_nil))) (nomark _)) (pw_or1 (pt_cmpR op_ne (pe_callB call_isi (by rfl) T.isinstance (by decide +kernel) (pa_cons (pv 1) (pa_cons (pe_bltn (v := .ty "tuple") (by rfl) T.tuple (by decide +kernel) rfl) pa_nil))) (pe_callB call_isi (by rfl) T.isinstance (by decide +kernel) (pa_cons (pv 0) (pa_cons (pe_bltn (v := .ty "tuple") (by rfl) T.tuple (by decide +kernel) rfl) pa_nil))) (nomark _)))))
    (pss_one (ps_ret pe_bl))
    pss_nil)
    (pss_one (ps_ret (pe_and (pe_cmpR op_eq (pe_callB U.u_len (by rfl) T.len PySem.boot_len (pa_cons (pv 0) pa_nil)) (pe_callB U.u_len (by rfl) T.len PySem.boot_len (pa_cons (pv 1) pa_nil)) (nomark _)) (pe_one (pe_callB (cr_all rfl) (by rfl) T.all (by decide +kernel) (pa_cons (pe_lc (own := [("_law_at", 3)]) (g := (gName 3)) (tt := tYes) (by exact rfl) sc_alike.nd (pi_range1 (by rfl) T.range (pa_cons (pe_callB U.u_len (by rfl) T.len PySem.boot_len (pa_cons (pv 1) pa_nil)) pa_nil)) (blkOk_by (own := [("_law_at", 3)]) (N := ["_law_found", "_law_due", "_law_name", "_law_at"]) (sc := defScope (top 36)) (by decide +kernel)) (fun _ _ _ _ _ => (pg_name (i := 3) sc_alike.nd rfl (Or.inl rfl))) (fun _ _ _ _ _ => pts_nil) (fun _ _ _ _ _ => (pe_call F_al (hr.mono (by omega)) rfl g_al k_al b_al d_al U.passN (pa_cons (pe_ix (U.ixS K rfl) (pv 0) (pv 3) (fun _ _ => rfl)) (pa_cons (pe_ix (U.ixS K rfl) (pv 1) (pv 3) (fun _ _ => rfl)) pa_nil))))) pa_nil)))))))))))), ?_⟩
    cases dt with
    | non =>
      walk_at "al"
      exact k _ (Same.refl _)
    | int i =>
      walk_at "al"
      refine ⟨i, rfl, ?_⟩
      walk_at "al"
      rw [decide_eq_true rfl]
      exact k _ (Same.refl _)
    | str t =>
      walk_at "al"
      exact k _ (Same.refl _)
    | bl b =>
      walk_at "al"
      exact k _ (Same.refl _)
    | @lst n1 p q xs ys h1 h2 hl hz all =>
      walk_at "al"
      refine U.iteTd (by rw [hl]) ?_
      walk_at "al"
      intro D hD
      refine lc_it (walk_range (n := ys.length)) (fun i H' => Same H H' ∧ H' D = some (.lst ((List.replicate i true).map V.bl))) ⟨same_new hD, upd_same⟩ (fun _ _ _ _ => trivial) ?_ ?_
      · rintro i z H3 H4 hi ⟨s3, o3⟩ ⟨rfl, rfl⟩
        walk_at "rd"
        refine ⟨rfl, ?_⟩
        walk_at "rd"
        have xi : xs[i]? = some (xs[i]'(by omega)) := List.getElem?_eq_getElem (by omega)
        have yi : ys[i]? = some (ys[i]'hi) := List.getElem?_eq_getElem hi
        have iz : (0 + ((i : Nat) : Int)) = (i : Int) := by omega
        refine .inl (U.i_ixL (SqL.of (s3 _ _ h1)) (U.atI_of iz xi) ?_)
        walk_at "rd"
        refine .inl (U.i_ixL (SqL.of (s3 _ _ h2)) (U.atI_of iz yi) ?_)
        walk_at "rd"
        refine ⟨_, _, rfl, (all i _ _ xi yi).same s3, fun H5 s5 => ?_⟩
        walk_at "rd"
        refine ⟨_, s5 _ _ o3, small1000 (by rw [List.length_map, List.length_replicate]; omega), same_own (s3.trans s5) hD, ?_⟩
        rw [List.replicate_succ', List.map_append]
        exact upd_same
      · rintro H3 ⟨s3, o3⟩
        walk_at "rd"
        refine ⟨D, _, rfl, SqL.of o3, ?_⟩
        rw [show (List.replicate ys.length true).all id = true by simp]
        exact k _ s3
    | @tup n1 p q xs ys h1 h2 hl hz all =>
      walk_at "al"
      refine U.iteTd (by rw [hl]) ?_
      walk_at "al"
      intro D hD
      refine lc_it (walk_range (n := ys.length)) (fun i H' => Same H H' ∧ H' D = some (.lst ((List.replicate i true).map V.bl))) ⟨same_new hD, upd_same⟩ (fun _ _ _ _ => trivial) ?_ ?_
      · rintro i z H3 H4 hi ⟨s3, o3⟩ ⟨rfl, rfl⟩
        walk_at "rd"
        refine ⟨rfl, ?_⟩
        walk_at "rd"
        have xi : xs[i]? = some (xs[i]'(by omega)) := List.getElem?_eq_getElem (by omega)
        have yi : ys[i]? = some (ys[i]'hi) := List.getElem?_eq_getElem hi
        have iz : (0 + ((i : Nat) : Int)) = (i : Int) := by omega
        refine .inr (.inl (U.i_ixT (SqT.of (s3 _ _ h1)) (U.atI_of iz xi) ?_))
        walk_at "rd"
        refine .inr (.inl (U.i_ixT (SqT.of (s3 _ _ h2)) (U.atI_of iz yi) ?_))
        walk_at "rd"
        refine ⟨_, _, rfl, (all i _ _ xi yi).same s3, fun H5 s5 => ?_⟩
        walk_at "rd"
        refine ⟨_, s5 _ _ o3, small1000 (by rw [List.length_map, List.length_replicate]; omega), same_own (s3.trans s5) hD, ?_⟩
        rw [List.replicate_succ', List.map_append]
        exact upd_same
      · rintro H3 ⟨s3, o3⟩
        walk_at "rd"
        refine ⟨D, _, rfl, SqL.of o3, ?_⟩
        rw [show (List.replicate ys.length true).all id = true by simp]
        exact k _ s3

local macro_rules | `(tactic| walk_at "kd") => `(tactic| (repeat (first
  | walk_at "rd1"
  | ((with_reducible refine' U.i_isE ?hx ?_); (case hx => assumption))
  | ((with_reducible refine' U.i_cat ?hx ?hy ?hz ?_); (case hx => walk_at "hp"); (case hy => walk_at "hp"); (case hz => (show _ ≤ PySem.sizeLine; rw [PySem.sizeLine_eq]; simp only [List.length_append, List.length_cons, List.length_nil]; omega)); walk_at "lay")
  | fail "kd")))
local macro_rules | `(tactic| walk_at "sm") => `(tactic| first
  | assumption
  | ((with_reducible refine' L2.Same.trans ?hx ?hy); (case hy => assumption); (case hx => walk_at "sm"))
  | fail "sm")
local macro_rules | `(tactic| walk_at "prs") => `(tactic| (repeat (first
  | (with_reducible refine' U.Prs.append ?_ ?_)
  | ((with_reducible refine' U.Prs.con ?hx ?_); (case hx => walk_at "hp"))
  | (with_reducible exact U.Prs.nil)
  | fail "prs")))

theorem sc_kind : FnScope ["_law_e", "_law_marks", "_law_word", "_law_so"] ["_law_e"] (defScope (top 39)) := ⟨rfl, rfl, rfl, by decide +kernel, rfl, by decide +kernel, by decide +kernel⟩
theorem held_kind (T : Txt P w K mg A) {D a : Addr} {o : Obj} {b0 b1 b2 b3 b4 b5 b6 b7 b8 b9 b10 b11 b12 b13 b14 b15 b16 b17 b18 b19 b20 b21 b22 : Bool} (kd : Kinds K A D b0 b1 b2 b3 b4 b5 b6 b7 b8 b9 b10 b11 b12 b13 b14 b15 b16 b17 b18 b19 b20 b21 b22) (z : Zc (.ref D) none o) (fl : ∃ vs, o.data = .fields vs) {Ar : Around} {outer : List Env} (hot : L2H.Hot1 Ar (a, o)) {s : Shared} {H : Hp} {Q : VK} {f : Addr} {cdv : Value}
    (q : ∀ H', Same H H' → Q (.str (Txt.join (PySem.Str.ofString " ") (U.words (marks b0 b1 b2 b3 b4 b5 b6 b7 b8 b9 b10 b11 b12 b13 b14 b15 b16 b17 b18 b19 b20 b21 b22)))) H') :
    ∃ u, PSs (L2H.cxH C8.CX0 P w K mg base ["_law_e", "_law_marks", "_law_word", "_law_so"] "_law_kind" (defScope (top 39)) f cdv Ar outer s H C8.E0 (a, o)) (defBody (top 39)) u ∧ u { nx := fun _ H' => Q .non H', rt := Q } (L2.start ["_law_e", "_law_marks", "_law_word", "_law_so"] [.ref a]) H := by
  have hotX : L2H.HotC (L2H.cxH C8.CX0 P w K mg base ["_law_e", "_law_marks", "_law_word", "_law_so"] "_law_kind" (defScope (top 39)) f cdv Ar outer s H C8.E0 (a, o)) := ⟨(a, o), ⟨hot.1, hot.2⟩, List.mem_cons_self⟩
  have e0 := kd.exc
  have k0 := kd.k0
  have k1 := kd.k1
  have k2 := kd.k2
  have k3 := kd.k3
  have k4 := kd.k4
  have k5 := kd.k5
  have k6 := kd.k6
  have k7 := kd.k7
  have k8 := kd.k8
  have k9 := kd.k9
  have k10 := kd.k10
  have k11 := kd.k11
  have k12 := kd.k12
  have k13 := kd.k13
  have k14 := kd.k14
  have k15 := kd.k15
  have k16 := kd.k16
  have k17 := kd.k17
  have k18 := kd.k18
  have k19 := kd.k19
  have k20 := kd.k20
  have k21 := kd.k21
  have k22 := kd.k22
  refine ⟨_, (pss_cons (ps_set (i := 1) sc_kind.nd rfl (Or.inl rfl) (pe_lst (pa_cons (pe_tup (pa_cons pe_str (pa_cons (pe_callB (U.call_held kd.exc List.mem_cons_self z fl) (by rfl) T.isinstance (by decide +kernel) (pa_cons (pv 0) (pa_cons (U.pe_gref rfl T.gx_BadSize) pa_nil))) pa_nil))) (pa_cons (pe_tup (pa_cons pe_str (pa_cons (pe_callB (U.call_held kd.exc List.mem_cons_self z fl) (by rfl) T.isinstance (by decide +kernel) (pa_cons (pv 0) (pa_cons (U.pe_gref rfl T.gx_BadNumber) pa_nil))) pa_nil))) pa_nil))))
    (pss_cons (ps_set (i := 1) sc_kind.nd rfl (Or.inl rfl) (pe_op op_cat (pv 1) (pe_lst (pa_cons (pe_tup (pa_cons pe_str (pa_cons (pe_callB (U.call_held kd.exc List.mem_cons_self z fl) (by rfl) T.isinstance (by decide +kernel) (pa_cons (pv 0) (pa_cons (U.pe_gref rfl T.gx_BadRow) pa_nil))) pa_nil))) (pa_cons (pe_tup (pa_cons pe_str (pa_cons (pe_callB (U.call_held kd.exc List.mem_cons_self z fl) (by rfl) T.isinstance (by decide +kernel) (pa_cons (pv 0) (pa_cons (U.pe_gref rfl T.gx_BadName) pa_nil))) pa_nil))) pa_nil)))))
    (pss_cons (ps_set (i := 1) sc_kind.nd rfl (Or.inl rfl) (pe_op op_cat (pv 1) (pe_lst (pa_cons (pe_tup (pa_cons pe_str (pa_cons (pe_callB (U.call_held kd.exc List.mem_cons_self z fl) (by rfl) T.isinstance (by decide +kernel) (pa_cons (pv 0) (pa_cons (U.pe_gref rfl T.gx_BadLine) pa_nil))) pa_nil))) (pa_cons (pe_tup (pa_cons pe_str (pa_cons (pe_callB (U.call_held kd.exc List.mem_cons_self z fl) (by rfl) T.isinstance (by decide +kernel) (pa_cons (pv 0) (pa_cons (U.pe_gref rfl T.gx_BadHearers) pa_nil))) pa_nil))) pa_nil)))))
    (pss_cons (ps_set (i := 1) sc_kind.nd rfl (Or.inl rfl) (pe_op op_cat (pv 1) (pe_lst (pa_cons (pe_tup (pa_cons pe_str (pa_cons (pe_callB (U.call_held kd.exc List.mem_cons_self z fl) (by rfl) T.isinstance (by decide +kernel) (pa_cons (pv 0) (pa_cons (U.pe_gref rfl T.gx_BadLoss) pa_nil))) pa_nil))) (pa_cons (pe_tup (pa_cons pe_str (pa_cons (pe_callB (U.call_held kd.exc List.mem_cons_self z fl) (by rfl) T.isinstance (by decide +kernel) (pa_cons (pv 0) (pa_cons (U.pe_gref rfl T.gx_BadPlan) pa_nil))) pa_nil))) pa_nil)))))
    (pss_cons (ps_set (i := 1) sc_kind.nd rfl (Or.inl rfl) (pe_op op_cat (pv 1) (pe_lst (pa_cons (pe_tup (pa_cons pe_str (pa_cons (pe_callB (U.call_held kd.exc List.mem_cons_self z fl) (by rfl) T.isinstance (by decide +kernel) (pa_cons (pv 0) (pa_cons (U.pe_gref rfl T.gx_BadDeed) pa_nil))) pa_nil))) (pa_cons (pe_tup (pa_cons pe_str (pa_cons (pe_callB (U.call_held kd.exc List.mem_cons_self z fl) (by rfl) T.isinstance (by decide +kernel) (pa_cons (pv 0) (pa_cons (U.pe_gref rfl T.gx_BadText) pa_nil))) pa_nil))) pa_nil)))))
    (pss_cons (ps_set (i := 1) sc_kind.nd rfl (Or.inl rfl) (pe_op op_cat (pv 1) (pe_lst (pa_cons (pe_tup (pa_cons pe_str (pa_cons (pe_callB (U.call_held kd.exc List.mem_cons_self z fl) (by rfl) T.isinstance (by decide +kernel) (pa_cons (pv 0) (pa_cons (U.pe_gref rfl T.gx_Ringed) pa_nil))) pa_nil))) (pa_cons (pe_tup (pa_cons pe_str (pa_cons (pe_callB (U.call_held kd.exc List.mem_cons_self z fl) (by rfl) T.isinstance (by decide +kernel) (pa_cons (pv 0) (pa_cons (U.pe_gref rfl T.gx_Short) pa_nil))) pa_nil))) pa_nil)))))
    (pss_cons (ps_set (i := 1) sc_kind.nd rfl (Or.inl rfl) (pe_op op_cat (pv 1) (pe_lst (pa_cons (pe_tup (pa_cons pe_str (pa_cons (pe_callB (U.call_held kd.exc List.mem_cons_self z fl) (by rfl) T.isinstance (by decide +kernel) (pa_cons (pv 0) (pa_cons (U.pe_gref rfl T.gx_Narrow) pa_nil))) pa_nil))) (pa_cons (pe_tup (pa_cons pe_str (pa_cons (pe_callB (U.call_held kd.exc List.mem_cons_self z fl) (by rfl) T.isinstance (by decide +kernel) (pa_cons (pv 0) (pa_cons (U.pe_gref rfl T.gx_Heavy) pa_nil))) pa_nil))) pa_nil)))))
    (pss_cons (ps_set (i := 1) sc_kind.nd rfl (Or.inl rfl) (pe_op op_cat (pv 1) (pe_lst (pa_cons (pe_tup (pa_cons pe_str (pa_cons (pe_callB (U.call_held kd.exc List.mem_cons_self z fl) (by rfl) T.isinstance (by decide +kernel) (pa_cons (pv 0) (pa_cons (U.pe_gref rfl T.gx_Unsolved) pa_nil))) pa_nil))) (pa_cons (pe_tup (pa_cons pe_str (pa_cons (pe_callB (U.call_held kd.exc List.mem_cons_self z fl) (by rfl) T.isinstance (by decide +kernel) (pa_cons (pv 0) (pa_cons (U.pe_gref rfl T.gx_NoHouse) pa_nil))) pa_nil))) pa_nil)))))
    (pss_cons (ps_set (i := 1) sc_kind.nd rfl (Or.inl rfl) (pe_op op_cat (pv 1) (pe_lst (pa_cons (pe_tup (pa_cons pe_str (pa_cons (pe_callB (U.call_held kd.exc List.mem_cons_self z fl) (by rfl) T.isinstance (by decide +kernel) (pa_cons (pv 0) (pa_cons (U.pe_gref rfl T.gx_NoLine) pa_nil))) pa_nil))) (pa_cons (pe_tup (pa_cons pe_str (pa_cons (pe_callB (U.call_held kd.exc List.mem_cons_self z fl) (by rfl) T.isinstance (by decide +kernel) (pa_cons (pv 0) (pa_cons (U.pe_gref rfl T.gx_Taken) pa_nil))) pa_nil))) (pa_cons (pe_tup (pa_cons pe_str (pa_cons (pe_callB (U.call_held kd.exc List.mem_cons_self z fl) (by rfl) T.isinstance (by decide +kernel) (pa_cons (pv 0) (pa_cons (U.pe_gref rfl T.gx_Full) pa_nil))) pa_nil))) pa_nil))))))
    (pss_cons (ps_set (i := 1) sc_kind.nd rfl (Or.inl rfl) (pe_op op_cat (pv 1) (pe_lst (pa_cons (pe_tup (pa_cons pe_str (pa_cons (pe_callB (U.call_held kd.exc List.mem_cons_self z fl) (by rfl) T.isinstance (by decide +kernel) (pa_cons (pv 0) (pa_cons (U.pe_gref rfl T.gx_InUse) pa_nil))) pa_nil))) (pa_cons (pe_tup (pa_cons pe_str (pa_cons (pe_callB (U.call_held kd.exc List.mem_cons_self z fl) (by rfl) T.isinstance (by decide +kernel) (pa_cons (pv 0) (pa_cons (U.pe_gref rfl T.gx_Told) pa_nil))) pa_nil))) pa_nil)))))
    (pss_cons (ps_set (i := 1) sc_kind.nd rfl (Or.inl rfl) (pe_op op_cat (pv 1) (pe_lst (pa_cons (pe_tup (pa_cons pe_str (pa_cons (pe_callB (U.call_held kd.exc List.mem_cons_self z fl) (by rfl) T.isinstance (by decide +kernel) (pa_cons (pv 0) (pa_cons (U.pe_gref rfl T.gx_NothingLeft) pa_nil))) pa_nil))) (pa_cons (pe_tup (pa_cons pe_str (pa_cons (pe_callB (U.call_held kd.exc List.mem_cons_self z fl) (by rfl) T.isinstance (by decide +kernel) (pa_cons (pv 0) (pa_cons (U.pe_gref rfl T.gx_NoShare) pa_nil))) pa_nil))) pa_nil)))))
    (pss_one (ps_ret (pe_join pe_str (U.pe_pickH hotX (pv 1) rfl (by decide) rfl (by decide) rfl rfl (by decide) rfl rfl (fun _ => rfl)))))))))))))))), ?_⟩
  walk_at "kd"
  refine' ⟨⟨_, rfl⟩, _, rfl, _, marks b0 b1 b2 b3 b4 b5 b6 b7 b8 b9 b10 b11 b12 b13 b14 b15 b16 b17 b18 b19 b20 b21 b22, rfl, Prs.pairs (xs := ?xs) ?pa ?hl, fun r hr => ⟨_, _, U.words (marks b0 b1 b2 b3 b4 b5 b6 b7 b8 b9 b10 b11 b12 b13 b14 b15 b16 b17 b18 b19 b20 b21 b22), rfl, rfl, .inl (SqL.of ?_), marks_len b0 b1 b2 b3 b4 b5 b6 b7 b8 b9 b10 b11 b12 b13 b14 b15 b16 b17 b18 b19 b20 b21 b22, q _ ?_⟩⟩
  case hl => walk_at "hp"
  case pa =>
    show U.Prs _ _ ([(("BadSize" : Str), b0), (("BadNumber" : Str), b1)] ++ [(("BadRow" : Str), b2), (("BadName" : Str), b3)] ++ [(("BadLine" : Str), b4), (("BadHearers" : Str), b5)] ++ [(("BadLoss" : Str), b6), (("BadPlan" : Str), b7)] ++ [(("BadDeed" : Str), b8), (("BadText" : Str), b9)] ++ [(("Ringed" : Str), b10), (("Short" : Str), b11)] ++ [(("Narrow" : Str), b12), (("Heavy" : Str), b13)] ++ [(("Unsolved" : Str), b14), (("NoHouse" : Str), b15)] ++ [(("NoLine" : Str), b16), (("Taken" : Str), b17), (("Full" : Str), b18)] ++ [(("InUse" : Str), b19), (("Told" : Str), b20)] ++ [(("NothingLeft" : Str), b21), (("NoShare" : Str), b22)])
    walk_at "prs"
  · rw [← U.picked_words]
    exact upd_same
  · exact L2.Same.trans (by walk_at "sm") (U.same_new hr)

theorem sc_why : FnScope ["_law_ask", "_law_told", "_law_word", "_law_e"] ["_law_ask"] (defScope (top 44)) := ⟨rfl, rfl, rfl, by decide +kernel, rfl, by decide +kernel, by decide +kernel⟩
/-- what _law_why makes of the lambda: its value and no word, or no value and the kind of what it raised -/
def TTwhy (K : PySem.W.Frag) (A : Ad) : (XK → Hp → VK → Prop) → Hp → VK → Prop := fun tl H Q =>
  tl (fun cls d H' => ∃ (D : Addr) (b0 b1 b2 b3 b4 b5 b6 b7 b8 b9 b10 b11 b12 b13 b14 b15 b16 b17 b18 b19 b20 b21 b22 : Bool), Kinds K A D b0 b1 b2 b3 b4 b5 b6 b7 b8 b9 b10 b11 b12 b13 b14 b15 b16 b17 b18 b19 b20 b21 b22 ∧ Told K A D ∧ cls = .ref D ∧ d = none ∧ ∀ p H'', Same H' H'' → H'' p = some (.tup [.non, .str (Txt.join (PySem.Str.ofString " ") (U.words (marks b0 b1 b2 b3 b4 b5 b6 b7 b8 b9 b10 b11 b12 b13 b14 b15 b16 b17 b18 b19 b20 b21 b22)))]) → Q (.ref p) H'') H
    (fun v H' => ∀ p H'', Same H' H'' → H'' p = some (.tup [v, .str (PySem.Str.ofString "")]) → Q (.ref p) H'')
theorem why_taker {X : Cx} {r : Nat} (T : Txt X.prog X.w X.K X.mg A) {g : Addr} {cdg : Value} {q : Str} : U.Taker X (r + 2) ["_law_ask", "_law_told", "_law_word", "_law_e"] "_law_why" (defScope (top 44)) g cdg (defBody (top 44)) "_law_ask" q (TTwhy X.K A) where
  walks s H f c' tl Q act room co h := by
    obtain ⟨fk, fdk, Fk, gk, bk⟩ := T.d_law_kind.ex
    obtain ⟨oc, od, dV, kV, doc, pm, an, cdv, ct, osl, rfl, lk, cd, _, _⟩ := id Fk.ex
    obtain ⟨ds, vd, bd⟩ := bk 0 (Nat.zero_le _)
    cases vd
    refine' ⟨_, pss_cons (ps_set (i := 1) sc_why.nd rfl (Or.inl rfl) pe_non) (pss_cons (ps_set (i := 2) sc_why.nd rfl (Or.inl rfl) pe_str) (pss_cons (U.ps_tryC rfl rfl
      (tb := fun W D σ H => U.tAct f c' q W tl σ H fun v H' => D.nx (σ.set 1 (some v)) H')
      ?hb ?cls) (pss_one (ps_ret (pe_tup (pa_cons (pv 1) (pa_cons (pv 2) pa_nil))))))), ?fin⟩
    case hb =>
      intro W pn xe tk _
      exact pss_one (ps_set (i := 1) sc_why.nd rfl (Or.inl rfl) (act W pn xe _ _ tk))
    case cls =>
      refine' U.clauses_skip (U.decides_name (X := U.getCx X ["_law_ask", "_law_told", "_law_word", "_law_e"] "_law_why" (defScope (top 44)) g cdg s H) (x := "NoHouse") rfl rfl ⟨rfl, rfl, .inl T.gx_NoHouse⟩) ?_
      refine' U.clauses_skip (U.decides_name (X := U.getCx X ["_law_ask", "_law_told", "_law_word", "_law_e"] "_law_why" (defScope (top 44)) g cdg s H) (x := "NoLine") rfl rfl ⟨rfl, rfl, .inl T.gx_NoLine⟩) ?_
      refine' U.clauses_skip (U.decides_name (X := U.getCx X ["_law_ask", "_law_told", "_law_word", "_law_e"] "_law_why" (defScope (top 44)) g cdg s H) (x := "InUse") rfl rfl ⟨rfl, rfl, .inl T.gx_InUse⟩) ?_
      refine' U.clauses_skip (U.decides_name (X := U.getCx X ["_law_ask", "_law_told", "_law_word", "_law_e"] "_law_why" (defScope (top 44)) g cdg s H) (x := "BadText") rfl rfl ⟨rfl, rfl, .inl T.gx_BadText⟩) ?_
      refine' U.clauses_skip (U.decides_name (X := U.getCx X ["_law_ask", "_law_told", "_law_word", "_law_e"] "_law_why" (defScope (top 44)) g cdg s H) (x := "Heavy") rfl rfl ⟨rfl, rfl, .inl T.gx_Heavy⟩) ?_
      refine' U.clauses_as (X := U.getCx X ["_law_ask", "_law_told", "_law_word", "_law_e"] "_law_why" (defScope (top 44)) g cdg s H) (i := 3) rfl rfl sc_why.nd rfl rfl (U.decides_tup4 (X := U.getCx X ["_law_ask", "_law_told", "_law_word", "_law_e"] "_law_why" (defScope (top 44)) g cdg s H) (x1 := "MingleError") (x2 := "Missing") (x3 := "Busy") (x4 := "NoShare") rfl rfl ⟨rfl, rfl, .inl T.gx_MingleError⟩ ⟨rfl, rfl, .inl T.gx_Missing⟩ ⟨rfl, rfl, .inl T.gx_Busy⟩ ⟨rfl, rfl, .inl T.gx_NoShare⟩) (fun a o cls d pn zn fl => pss_one (ps_set (i := 2) sc_why.nd rfl (Or.inl rfl) (U.pe_held (x := "_law_kind") (k := 1) (p := (a, o)) (t := fun v H Q => v = .ref a ∧ ∃ (D : Addr) (b0 b1 b2 b3 b4 b5 b6 b7 b8 b9 b10 b11 b12 b13 b14 b15 b16 b17 b18 b19 b20 b21 b22 : Bool), Kinds X.K A D b0 b1 b2 b3 b4 b5 b6 b7 b8 b9 b10 b11 b12 b13 b14 b15 b16 b17 b18 b19 b20 b21 b22 ∧ cls = .ref D ∧ d = none ∧ ∀ H', Same H H' → Q (.str (Txt.join (PySem.Str.ofString " ") (U.words (marks b0 b1 b2 b3 b4 b5 b6 b7 b8 b9 b10 b11 b12 b13 b14 b15 b16 b17 b18 b19 b20 b21 b22)))) H') List.mem_cons_self rfl gk Fk.kp lk cd sc_kind bd ⟨(room.mono (Nat.le_add_left 2 r)).dp, (room.mono (Nat.le_add_left 2 r)).un⟩ (pv 3) rfl rfl (by
      rintro s1 H1 v Q1 ⟨rfl, D, b0, b1, b2, b3, b4, b5, b6, b7, b8, b9, b10, b11, b12, b13, b14, b15, b16, b17, b18, b19, b20, b21, b22, kd, rfl, rfl, q1⟩ room1
      have hot : L2H.Hot1 ((U.getCx X ["_law_ask", "_law_told", "_law_word", "_law_e"] "_law_why" (defScope (top 44)) g cdg s H).A.mark (some (.ref a))) (a, o) := ⟨rfl, fl.elim fun vs e => ⟨vs, e, zn.2.2 vs e⟩⟩
      exact held_kind T kd zn.zc fl hot q1)))) (U.clauses_nil rfl U.takesF)

    case fin =>
      walk_at "rd"
      refine ⟨rfl, co, _, _, ?er, ?ok, h⟩
      case ok =>
        intro v H' r
        walk_at "rd"
        exact r _ _ (by assumption) (by assumption)
      case er =>
        rintro cls d H' ⟨D, b0, b1, b2, b3, b4, b5, b6, b7, b8, b9, b10, b11, b12, b13, b14, b15, b16, b17, b18, b19, b20, b21, b22, kd, td, rfl, rfl, k⟩
        refine ⟨td.n0, td.n1, td.n2, td.n3, td.n4, true, td.any, fun _ a na => ?_, fun z => nomatch z⟩
        refine U.i_asg ⟨_, rfl, rfl, D, b0, b1, b2, b3, b4, b5, b6, b7, b8, b9, b10, b11, b12, b13, b14, b15, b16, b17, b18, b19, b20, b21, b22, kd, rfl, rfl, fun H'' st => ?_⟩
        walk_at "rd"
        unfold U.goneE
        walk_at "rd"
        exact k _ _ (st.trans (by assumption)) (by assumption)
theorem sc_root : FnScope ["_law_big"] ["_law_big"] (defScope (top 41)) := ⟨rfl, rfl, rfl, by decide +kernel, rfl, by decide +kernel, by decide +kernel⟩
theorem ok_root (T : Txt P w K mg A) : U.Cl P w K mg base 1 "_law_root" spRoot [] := by
  refine T.d_law_root.ok sc_root (fun vs H Q E h => ?_) (fun f cdv Ar outer s H vs Q E hr h => ?_)
  · obtain ⟨n, rfl, hn, k⟩ := h
    rfl
  · obtain ⟨n, rfl, hn, k⟩ := h
    refine ⟨_, (pss_one (ps_ret (pe_dget2 (Nat.lt_trans (Nat.add_lt_add_left (by decide : 1 < 64) _) hr.units) (pe_disp (pps_cons pe_int pe_int (pps_cons pe_int pe_int (pps_cons pe_int pe_int (pps_cons pe_int pe_int pps_nil)))) (by rfl) (by rfl) (fun z => by cases z) (by decide)) (pv 0) (pv 0) (by constructor <;> rfl)))), ?_⟩
    intro p np
    walk_at "rd"
    refine ⟨upd_same, [(Sum.inl 4, .int 2), (Sum.inl 8, .int 2), (Sum.inl 9, .int 3), (Sum.inl 16, .int 2)], rfl, by decide, ?_⟩
    refine ⟨p, rfl, .inl ⟨_, .inl upd_same⟩, ?_⟩
    walk_at "rd"
    refine ⟨_, DGet.k (k := Sum.inl n) upd_same, ?_⟩
    have s : Same H (upd (upd H p (.dK [])) p (.dK (mergeK [] [(Sum.inl 4, .int 2), (Sum.inl 8, .int 2), (Sum.inl 9, .int 3), (Sum.inl 16, .int 2)]))) := fun b u e => by
      have ne := ne_of_none e np
      rw [upd_ne ne, upd_ne ne]
      exact e
    have g : ((valV (mergeK [] [((Sum.inl 4 : Key), V.int 2), (Sum.inl 8, .int 2), (Sum.inl 9, .int 3), (Sum.inl 16, .int 2)]) (Sum.inl n)).getD (.int n)) = .int (FM.base n) := by
      rcases FM.size_cases hn with h | h | h | h | h | h | h | h | h | h <;> subst h <;> rfl
    show Q _ _
    rw [g]
    exact k _ s

theorem sc_far : FnScope ["_law_bag_here"] ["_law_bag_here"] (defScope (top 38)) := ⟨rfl, rfl, rfl, by decide +kernel, rfl, by decide +kernel, by decide +kernel⟩
theorem ok_far (T : Txt P w K mg A) : U.Cl P w K mg base 3 "_law_far" spFar [] := by
  obtain ⟨_, _, _, F_pull, g_pull, k_pull, bd_pull⟩ := (ok_pull (P := P) (w := w) (base := base) T).ex
  obtain ⟨_, d_pull, b_pull⟩ := bd_pull 0 (by decide)
  refine T.d_law_far.ok sc_far (fun vs H Q E h => ?_) (fun f cdv Ar outer s H vs Q E hr h => ?_)
  · obtain ⟨a, c, rfl, hb, k⟩ := h
    rfl
  · obtain ⟨a, c, rfl, hb, k⟩ := h
    refine ⟨_, (pss_one (ps_ret (pe_ix ix_list (pe_lst (pa_cons (pe_op U.u_pow pe_int pe_int) (pa_cons (pe_un un_neg (pe_op U.u_pow pe_int pe_int)) (pa_cons (pe_un un_neg pe_int) (pa_cons (pe_op U.u_add pe_int (pe_call F_pull (hr.mono (by decide)) rfl g_pull k_pull b_pull d_pull U.passN (pa_cons (pv 0) (pa_cons (pe_op U.u_pow pe_int pe_int) pa_nil)))) pa_nil))))) (pe_call F_pull (hr.mono (by decide)) rfl g_pull k_pull b_pull d_pull U.passN (pa_cons (pv 0) (pa_cons pe_int pa_nil))) (fun _ _ => rfl)))), ?_⟩
    walk_at "rd"
    refine ⟨a, c, _, rfl, hb, by decide, by decide, fun r1 H1 r0 r2 hb1 bt1 => ?_⟩
    walk_at "rd"
    rename_i p hp H3 s3 o3
    refine ⟨a, c, 4, rfl, hb1.same s3, by decide, by decide, fun r3 H2 r4 r5 hb2 bt2 => ?_⟩
    have pa : p ≠ a := fun e => by obtain ⟨ns, i, l, z, h1, _⟩ := hb1; rw [e, h1] at hp; cases hp
    have o2 := bt2 _ _ o3 pa
    have bt : But a H H2 := fun b o e n => bt2 b o (s3 _ _ (bt1 b o e n)) n
    have four : r3 = 0 ∨ r3 = 1 ∨ r3 = 2 ∨ r3 = 3 := by omega
    rcases four with rfl | rfl | rfl | rfl
    · exact U.i_ixL (SqL.of o2) rfl (k _ H2 (by decide) hb2 bt)
    · exact U.i_ixL (SqL.of o2) rfl (k _ H2 (by decide) hb2 bt)
    · exact U.i_ixL (SqL.of o2) rfl (k _ H2 (by decide) hb2 bt)
    · exact U.i_ixL (SqL.of o2) rfl (k _ H2 (by omega) hb2 bt)

theorem sc_fsize : FnScope ["self"] ["self"] (defScope (inClass (top 34) 5)) := ⟨rfl, rfl, rfl, by decide +kernel, rfl, by decide +kernel, by decide +kernel⟩
theorem ok_fsize (T : Txt P w K mg A) : U.Mt P w K mg base 1 A.Field "size" (spFSize A) [] := by
  refine T.m_Field_size.ok sc_fsize (fun vs H Q E h => ?_) (fun f cdv Ar outer s H vs Q E hr h => ?_)
  · obtain ⟨p, n, rfl, ⟨hn, dx, hp⟩, k⟩ := h
    rfl
  · obtain ⟨p, n, rfl, ⟨hn, dx, hp⟩, k⟩ := h
    have cF := T.c_Field
    have n1 := T.na_Field_many
    have n2 := T.na_Field_prime
    have n3 := T.na_Field_places
    have sr := FM.size_rng hn
    have br := FM.base_rng hn
    have pr := FM.places_rng hn
    refine ⟨_, (pss_one (ps_ret (pe_fld (pv 0) rfl))), ?_⟩
    walk_at "rd"
    exact k

theorem sc_fbase : FnScope ["self"] ["self"] (defScope (inClass (top 34) 6)) := ⟨rfl, rfl, rfl, by decide +kernel, rfl, by decide +kernel, by decide +kernel⟩
theorem ok_fbase (T : Txt P w K mg A) : U.Mt P w K mg base 1 A.Field "base" (spFBase A) [] := by
  refine T.m_Field_base.ok sc_fbase (fun vs H Q E h => ?_) (fun f cdv Ar outer s H vs Q E hr h => ?_)
  · obtain ⟨p, n, rfl, ⟨hn, dx, hp⟩, k⟩ := h
    rfl
  · obtain ⟨p, n, rfl, ⟨hn, dx, hp⟩, k⟩ := h
    have cF := T.c_Field
    have n1 := T.na_Field_many
    have n2 := T.na_Field_prime
    have n3 := T.na_Field_places
    have sr := FM.size_rng hn
    have br := FM.base_rng hn
    have pr := FM.places_rng hn
    refine ⟨_, (pss_one (ps_ret (pe_fld (pv 0) rfl))), ?_⟩
    walk_at "rd"
    exact k

theorem sc_flen : FnScope ["self"] ["self"] (defScope (inClass (top 34) 2)) := ⟨rfl, rfl, rfl, by decide +kernel, rfl, by decide +kernel, by decide +kernel⟩
theorem ok_flen (T : Txt P w K mg A) : U.Mt P w K mg base 1 A.Field "__len__" (spFLen A) [] := by
  refine T.m_Field___len__.ok sc_flen (fun vs H Q E h => ?_) (fun f cdv Ar outer s H vs Q E hr h => ?_)
  · obtain ⟨p, n, rfl, ⟨hn, dx, hp⟩, k⟩ := h
    rfl
  · obtain ⟨p, n, rfl, ⟨hn, dx, hp⟩, k⟩ := h
    have cF := T.c_Field
    have n1 := T.na_Field_many
    have n2 := T.na_Field_prime
    have n3 := T.na_Field_places
    have sr := FM.size_rng hn
    have br := FM.base_rng hn
    have pr := FM.places_rng hn
    refine ⟨_, (pss_one (ps_ret (pe_callB U.call_lenRng (by rfl) T.len PySem.boot_len (pa_cons (pe_callTy U.cr_rng1 (by rfl) T.range (by decide +kernel) (pa_cons (pe_fld (pv 0) rfl) pa_nil)) pa_nil)))), ?_⟩
    walk_at "rd"
    obtain ⟨m, rfl⟩ := FM.natOf (show 0 ≤ n by omega)
    refine ⟨_, rfl, fun r hr => ?_⟩
    exact ⟨r, m, rfl, upd_same, by omega, k _ (same_new hr)⟩

theorem sc_frepr : FnScope ["self"] ["self"] (defScope (inClass (top 34) 3)) := ⟨rfl, rfl, rfl, by decide +kernel, rfl, by decide +kernel, by decide +kernel⟩
theorem ok_frepr (T : Txt P w K mg A) : U.Mt P w K mg base 1 A.Field "__repr__" (spFText A "Field(" ")") [] := by
  refine T.m_Field___repr__.ok sc_frepr (fun vs H Q E h => ?_) (fun f cdv Ar outer s H vs Q E hr h => ?_)
  · obtain ⟨p, n, rfl, ⟨hn, dx, hp⟩, k⟩ := h
    rfl
  · obtain ⟨p, n, rfl, ⟨hn, dx, hp⟩, k⟩ := h
    have cF := T.c_Field
    have n1 := T.na_Field_many
    have n2 := T.na_Field_prime
    have n3 := T.na_Field_places
    have sr := FM.size_rng hn
    have br := FM.base_rng hn
    have pr := FM.places_rng hn
    refine ⟨_, (pss_one (ps_ret (pe_joined (PJ.cons pe_str (PJ.cons (pe_fmt (pe_fld (pv 0) rfl)) (PJ.cons pe_str PJ.nil)))))), ?_⟩
    walk_at "rd"
    have l1 : ∀ z : Str, n ∈ FM.sizes → z.length ≤ 10 → ((PySem.Str.empty ++ (PySem.Str.ofString "Field(")) ++ PySem.Str.ofString (toString n)).length ≤ PySem.sizeLine ∧ (((PySem.Str.empty ++ (PySem.Str.ofString "Field(")) ++ PySem.Str.ofString (toString n)) ++ (PySem.Str.ofString ")")).length ≤ PySem.sizeLine := fun z hn _ => by
      rw [PySem.sizeLine_eq]
      rcases FM.size_cases hn with rfl | rfl | rfl | rfl | rfl | rfl | rfl | rfl | rfl | rfl <;> decide +kernel
    have l2 := l1 PySem.Str.empty hn (by decide +kernel)
    refine ⟨_, rfl, (by rw [PySem.sizeLine_eq]; decide +kernel), ?_⟩
    unfold tJs tFmt
    walk_at "rd"
    refine .inr ⟨n, rfl, (by rcases FM.size_cases hn with rfl | rfl | rfl | rfl | rfl | rfl | rfl | rfl | rfl | rfl <;> decide), ?_⟩
    refine ⟨_, rfl, l2.1, ?_⟩
    refine ⟨_, rfl, l2.2, ?_⟩
    exact k

theorem sc_fstr : FnScope ["self"] ["self"] (defScope (inClass (top 34) 4)) := ⟨rfl, rfl, rfl, by decide +kernel, rfl, by decide +kernel, by decide +kernel⟩
theorem ok_fstr (T : Txt P w K mg A) : U.Mt P w K mg base 1 A.Field "__str__" (spFText2 A "field of ") [] := by
  refine T.m_Field___str__.ok sc_fstr (fun vs H Q E h => ?_) (fun f cdv Ar outer s H vs Q E hr h => ?_)
  · obtain ⟨p, n, rfl, ⟨hn, dx, hp⟩, k⟩ := h
    rfl
  · obtain ⟨p, n, rfl, ⟨hn, dx, hp⟩, k⟩ := h
    have cF := T.c_Field
    have n1 := T.na_Field_many
    have n2 := T.na_Field_prime
    have n3 := T.na_Field_places
    have sr := FM.size_rng hn
    have br := FM.base_rng hn
    have pr := FM.places_rng hn
    refine ⟨_, (pss_one (ps_ret (pe_joined (PJ.cons pe_str (PJ.cons (pe_fmt (pe_fld (pv 0) rfl)) PJ.nil))))), ?_⟩
    walk_at "rd"
    have l1 : ∀ z : Str, n ∈ FM.sizes → z.length ≤ 10 → ((PySem.Str.empty ++ (PySem.Str.ofString "field of ")) ++ PySem.Str.ofString (toString n)).length ≤ PySem.sizeLine ∧ (((PySem.Str.empty ++ (PySem.Str.ofString "field of ")) ++ PySem.Str.ofString (toString n)) ++ (PySem.Str.ofString ")")).length ≤ PySem.sizeLine := fun z hn _ => by
      rw [PySem.sizeLine_eq]
      rcases FM.size_cases hn with rfl | rfl | rfl | rfl | rfl | rfl | rfl | rfl | rfl | rfl <;> decide +kernel
    have l2 := l1 PySem.Str.empty hn (by decide +kernel)
    refine ⟨_, rfl, (by rw [PySem.sizeLine_eq]; decide +kernel), ?_⟩
    unfold tJs tFmt
    walk_at "rd"
    refine .inr ⟨n, rfl, (by rcases FM.size_cases hn with rfl | rfl | rfl | rfl | rfl | rfl | rfl | rfl | rfl | rfl <;> decide), ?_⟩
    refine ⟨_, rfl, l2.1, ?_⟩
    exact k

theorem sc_feq : FnScope ["self", "other"] ["self", "other"] (defScope (inClass (top 34) 1)) := ⟨rfl, rfl, rfl, by decide +kernel, rfl, by decide +kernel, by decide +kernel⟩
theorem ok_feq (T : Txt P w K mg A) : U.Mt P w K mg base 1 A.Field "__eq__" (spFEq A) [] := by
  refine T.m_Field___eq__.ok sc_feq (fun vs H Q E h => ?_) (fun f cdv Ar outer s H vs Q E hr h => ?_)
  · obtain ⟨p, n, y, rfl, ⟨hn, dx, hp⟩, k⟩ := h
    rfl
  · obtain ⟨p, n, y, rfl, ⟨hn, dx, hp⟩, k⟩ := h
    have cF := T.c_Field
    have n1 := T.na_Field_many
    have n2 := T.na_Field_prime
    have n3 := T.na_Field_places
    have sr := FM.size_rng hn
    have br := FM.base_rng hn
    have pr := FM.places_rng hn
    obtain ⟨_, _, _, _, gF, _⟩ := T.n_Field.ex
    refine ⟨_, (pss_one (ps_ret (pe_and (pe_callB call_isi (by rfl) T.isinstance (by decide +kernel) (pa_cons (pv 1) (pa_cons (U.pe_gref rfl gF) pa_nil))) (pe_one (pe_cmpR op_eq (pe_fld (pv 0) rfl) (pe_fld (pv 1) rfl) (nomark _)))))), ?_⟩
    rcases k with ⟨q, m, rfl, ⟨hm2, dy, hq⟩, k⟩ | ⟨hy, k⟩
    · walk_at "rd"
      refine U.i_andV ?_
      walk_at "rd"
      refine ⟨_, _, .ref A.Field, .ref A.Field, true, rfl, .own _, .base (.ins hq T.c_Field T.ck T.cg T.ct T.cm), (by unfold PySem.W.kitOne; rw [if_pos (by simp)]), ?_⟩
      walk_at "rd"
      exact k
    · rcases hy with ⟨i, rfl⟩ | ⟨z, rfl⟩
      · walk_at "rd"
        refine U.i_andV ?_
        walk_at "rd"
        refine ⟨_, _, .type "int", .ref A.Field, false, rfl, .own _, .base (.int i), T.ki, ?_⟩
        walk_at "rd"
        rw [if_neg (by decide)]
        exact k
      · walk_at "rd"
        refine U.i_andV ?_
        walk_at "rd"
        refine ⟨_, _, .type "str", .ref A.Field, false, rfl, .own _, .base (.str z), T.ks, ?_⟩
        walk_at "rd"
        rw [if_neg (by decide)]
        exact k

end
end Lw


set_option Elab.async false
set_option linter.all false
set_option maxRecDepth 100000
set_option maxHeartbeats 4000000
/-! ### own steps (local) -/
local macro_rules | `(tactic| walk_at "hp") => `(tactic| first
  | assumption
  | exact L2.upd_same
  | ((with_reducible refine U.upd_new ?_ ?_); (focus (first | assumption | done)); walk_at "hp")
  | ((with_reducible refine U.upd_ne'' ?_ ?_); (focus (first | assumption | (apply Ne.symm; assumption))); walk_at "hp")
  | ((with_reducible refine' U.Same.get ?hx ?hy); (case hx => assumption); (case hy => walk_at "hp"))
  | ((with_reducible refine' U.ExtN.lst ?hx ?hy); (case hx => assumption); (case hy => walk_at "hp"))
  | ((with_reducible refine' U.ExtN.tup ?hx ?hy); (case hx => assumption); (case hy => walk_at "hp"))
  | ((with_reducible refine' U.ExtN.ins ?hx ?hy); (case hx => assumption); (case hy => walk_at "hp"))
  | fail "hp")
local macro_rules | `(tactic| walk_at "lay") => `(tactic| (intro p hn; generalize hg : L2.upd _ p _ = H'; have hs := U.same_of hg hn; have ho := U.at_of hg; clear hg))
local macro_rules | `(tactic| walk_at "sz") => `(tactic| first | decide | (show _ ≤ PySem.sizeLine; rw [PySem.sizeLine_eq]; (try simp only [List.length_cons, List.length_nil, List.length_map]); omega))
local macro_rules | `(tactic| walk_at "ref'") => `(tactic| skip)
local macro_rules | `(tactic| walk_at "rd1") => `(tactic| first
  | (with_reducible refine' U.i_seq ?_)
  | (with_reducible refine' U.i_asg ?_)
  | (with_reducible refine' U.i_ret ?_)
  | (with_reducible refine' U.i_ifS ?_)
  | (with_reducible refine' U.i_drop ?_)
  | ((with_reducible refine' U.i_var ?hx ?_); (case hx => rfl))
  | (with_reducible refine' U.i_c ?_)
  | (with_reducible refine' U.i_op ?_)
  | (with_reducible refine' U.i_un ?_)
  | (with_reducible refine' U.i_name ?_)
  | (with_reducible refine' U.i_gsub ?_)
  | (with_reducible refine' U.i_test ?_)
  | (with_reducible refine' U.i_tB ?_)
  | (with_reducible refine' U.i_bl ?_)
  | (with_reducible refine' U.i_not ?_)
  | (with_reducible refine' U.i_nil ?_)
  | (with_reducible refine' U.i_cons ?_)
  | (with_reducible refine' U.i_cb ?_)
  | (with_reducible refine' U.i_call ?_)
  | (with_reducible refine' U.i_fld ?_)
  | ((with_reducible refine' U.i_fld' ?hx ?hy ?hz ?hw ?_); (case hx => walk_at "hp"); (case hy => assumption); (case hz => assumption); (case hw => rfl))
  | (with_reducible refine' U.i_meth ?_)
  | ((with_reducible refine' U.i_meth' ?hx ?hy ?_); (case hx => walk_at "hp"); (case hy => rfl))
  | (with_reducible refine' U.i_add ?_)
  | (with_reducible refine' U.i_sub ?_)
  | ((with_reducible refine' U.i_mul ?hx ?_); (case hx => (first | (left; constructor <;> omega) | (right; constructor <;> omega))))
  | ((with_reducible refine' U.i_mod ?hx ?_); (case hx => omega))
  | ((with_reducible refine' U.i_fdiv ?hx ?_); (case hx => (constructor <;> omega)))
  | ((with_reducible refine' U.i_pow ?hx ?_); (case hx => (refine ⟨?_, ?_, ?_⟩ <;> decide)))
  | (with_reducible refine' U.i_lt ?_)
  | (with_reducible refine' U.i_le ?_)
  | (with_reducible refine' U.i_gt ?_)
  | (with_reducible refine' U.i_ge ?_)
  | (with_reducible refine' U.i_eqI ?_)
  | (with_reducible refine' U.i_neI ?_)
  | (with_reducible refine' U.i_rU ?_)
  | (with_reducible refine' U.i_abs ?_)
  | (with_reducible refine' U.i_callN ?_)
  | ((with_reducible refine' U.i_lens ?hx ?hy ?_); (case hx => rfl); (case hy => rfl))
  | ((with_reducible refine' U.i_ixL ?hx ?hy ?_); (case hx => exact L2.SqL.of (by walk_at "hp")); (case hy => rfl))
  | ((with_reducible refine' U.i_lenL ?hx ?_); (case hx => exact L2.SqL.of (by walk_at "hp")))
  | ((with_reducible refine' U.i_setL ?hx ?hy ?_); (case hx => walk_at "hp"); (case hy => rfl))
  | (with_reducible refine' U.i_augS ?_)
  | ((with_reducible refine' U.i_aug ?hx ?_); (case hx => rfl))
  | (with_reducible refine' U.i_ipI ?_)
  | ((with_reducible refine' U.i_ipMul ?hx ?_); (case hx => (first | (left; constructor <;> omega) | (right; constructor <;> omega))))
  | ((with_reducible refine' U.i_gtup ?hx ?hy ?_); (case hx => exact L2.SqT.of (by walk_at "hp")); (case hy => rfl))
  | (with_reducible refine' U.i_gcons ?_)
  | (with_reducible refine' U.i_gnil ?_)
  | ((with_reducible refine' U.i_divmod ?hx ?_); (case hx => (constructor <;> omega)); walk_at "lay")
  | (with_reducible refine' U.i_tup ?_)
  | (with_reducible refine' U.i_lst ?_)
  | ((with_reducible refine' U.lay_and ?hx ?_); (case hx => walk_at "sz"); walk_at "lay")
  | (with_reducible refine' U.i_sl ?_)
  | (with_reducible refine' U.i_part ?_)
  | (with_reducible refine' U.i_part' ?_)
  | (with_reducible refine' U.i_nopart ?_)
  | ((with_reducible refine' U.i_slL ?hx ?_); (case hx => exact L2.SqL.of (by walk_at "hp")); walk_at "lay")
  | (with_reducible refine' U.i_bm ?_)
  | ((with_reducible refine' U.i_bm' ?hx ?_); (case hx => walk_at "hp"))
  | ((with_reducible refine' U.i_append ?hx ?hy ?_); (case hx => walk_at "hp"); (case hy => walk_at "szl"))
  | ((with_reducible refine' U.i_chLL ?hx ?hy ?_); (case hx => rfl); (case hy => rfl))
  | (with_reducible refine' U.i_chain ?_)
  | (with_reducible refine' U.i_rng1 ?_)
  | ((with_reducible refine' U.i_rng1' ?hx ?hy ?_); (case hx => omega); (case hy => omega))
  | (with_reducible refine' U.i_rng2 ?_)
  | ((with_reducible refine' U.i_rng2' ?hx ?_); (case hx => (refine ⟨?_, ?_, ?_, ?_⟩ <;> omega)))
  | (with_reducible refine' U.i_rng3 ?_)
  | (with_reducible refine' U.i_enum ?_)
  | ((with_reducible refine' U.i_enum' ?hx ?_); (case hx => exact L2.SqL.of (by walk_at "hp")))
  | (with_reducible refine' U.i_enumT ?_)
  | ((with_reducible refine' U.i_enumT' ?hx ?_); (case hx => exact L2.SqT.of (by walk_at "hp")))
  | (with_reducible refine' U.i_rev ?_)
  | ((with_reducible refine' U.i_rev' ?hx ?_); (case hx => exact L2.SqL.of (by walk_at "hp")))
  | (with_reducible refine' U.i_plist ?_)
  | ((with_reducible refine' U.i_plist' ?hx ?_); (case hx => exact L2.SqL.of (by walk_at "hp")))
  | (with_reducible refine' U.i_for ?_)
  | (with_reducible refine' U.i_sfld ?_)
  | ((with_reducible refine' U.i_sfld' ?hx ?hy ?hz ?hw ?_); (case hx => walk_at "hp"); (case hy => assumption); (case hz => assumption); (case hw => exact Nat.le_of_ble_eq_true rfl))
  | (with_reducible refine' U.i_lc ?_)
  | (with_reducible refine' U.i_par3 ?_)
  | (with_reducible refine' U.i_par3' ?_)
  | (with_reducible refine' U.i_par ?_)
  | (with_reducible refine' U.i_par' ?_)
  | (with_reducible refine' U.i_lrg ?_)
  | (with_reducible refine' U.i_rg1 ?_)
  | (with_reducible refine' U.i_rg1' ?_)
  | (with_reducible refine' U.i_pl ?_)
  | ((with_reducible refine' U.i_pl' ?hx ?hy ?_); (case hx => walk_at "hp"); (case hy => exact Nat.le_of_ble_eq_true rfl))
  | (with_reducible refine' U.i_rAdd ?_)
  | ((with_reducible refine' U.i_listOf ?hx ?_); (case hx => exact L2.SqL.of (by walk_at "hp")); walk_at "lay")
  | (with_reducible refine' U.i_intB ?_)
  | (with_reducible refine' U.i_wget ?_)
  | ((with_reducible refine' U.i_tupleOf ?hx ?_); (case hx => walk_at "hp"); walk_at "lay")
  | ((with_reducible refine' U.i_repA ?hx ?hn ?h0 ?h1 ?h2 ?_); (case hx => walk_at "hp"); (case hn => simp); (case h0 => omega); (case h1 => omega); (case h2 => simp); intro p H' hs ho)
  | ((with_reducible refine' U.i_catA ?hx ?hy ?hz ?_); (case hx => walk_at "hp"); (case hy => walk_at "hp"); (case hz => walk_at "sz"); intro p H' hs ho)
  | ((with_reducible refine' U.i_slA ?hx ?_); (case hx => walk_at "hp"); intro p H' hs ho)
  | (with_reducible refine' U.i_zipS ?_)
  | ((with_reducible refine' U.i_zipTT ?hx ?hy ?_); (case hx => exact L2.SqT.of (by walk_at "hp")); (case hy => exact L2.SqT.of (by walk_at "hp")))
  | ((with_reducible refine' U.i_zipLL ?hx ?hy ?_); (case hx => exact L2.SqL.of (by walk_at "hp")); (case hy => exact L2.SqL.of (by walk_at "hp")))
  | (with_reducible refine' U.i_ptup ?_)
  | ((with_reducible refine' U.i_ptup' ?hx ?_); (case hx => exact L2.SqT.of (by walk_at "hp")))
  | ((with_reducible refine' U.i_lenT ?hx ?_); (case hx => exact L2.SqT.of (by walk_at "hp")))
  | (with_reducible refine' U.i_yes ?_)
  | (with_reducible refine' L2.iteT ?_)
  | (with_reducible refine' U.i_next ?_)
  | fail "rd1")
local macro_rules | `(tactic| walk_at "szl") => `(tactic| first | decide | (refine L2.small1000 ?_; (try simp only [List.length_cons, List.length_nil, List.length_map]); omega))
local macro_rules | `(tactic| walk_at "rd") => `(tactic| (repeat walk_at "rd1"))
local macro_rules | `(tactic| walk_at "ro") => `(tactic| (refine' U.i_or ?_; walk_at "rd"))
local macro_rules | `(tactic| walk_at "ra") => `(tactic| (refine' U.i_pt ?_; walk_at "rd"))
local macro_rules | `(tactic| walk_at "gd") => `(tactic| (repeat (first | walk_at "rd1" | (with_reducible refine' U.i_andV ?_))))

namespace Lw
open PySem L2 U LamX
local macro_rules | `(tactic| walk_at "fa") => `(tactic| first
  | assumption
  | ((with_reducible refine' Lw.FA.same ?hx ?hy); (case hy => assumption); (case hx => walk_at "fa"))
  | fail "fa")
local macro_rules | `(tactic| walk_at "bg") => `(tactic| first
  | assumption
  | ((with_reducible refine' Lw.Bag.same ?hx ?hy); (case hy => assumption); (case hx => walk_at "bg"))
  | fail "bg")
local macro_rules | `(tactic| walk_at "op2") => `(tactic| (refine' Lw.spOp.go ?fa ?ra ?rb ?q; (case fa => walk_at "fa"); (case ra => constructor <;> omega); (case rb => constructor <;> omega); intro H' s'; walk_at "rd"))

local macro_rules | `(tactic| walk_at "kd") => `(tactic| (repeat (first
  | walk_at "rd1"
  | ((with_reducible refine' U.i_isE ?hx ?_); (case hx => assumption))
  | ((with_reducible refine' U.i_cat ?hx ?hy ?hz ?_); (case hx => walk_at "hp"); (case hy => walk_at "hp"); (case hz => (show _ ≤ PySem.sizeLine; rw [PySem.sizeLine_eq]; simp only [List.length_append, List.length_cons, List.length_nil]; omega)); walk_at "lay")
  | fail "kd")))
local macro_rules | `(tactic| walk_at "sm") => `(tactic| first
  | assumption
  | ((with_reducible refine' L2.Same.trans ?hx ?hy); (case hy => assumption); (case hx => walk_at "sm"))
  | fail "sm")
local macro_rules | `(tactic| walk_at "prs") => `(tactic| (repeat (first
  | (with_reducible refine' U.Prs.append ?_ ?_)
  | ((with_reducible refine' U.Prs.con ?hx ?_); (case hx => walk_at "hp"))
  | (with_reducible exact U.Prs.nil)
  | fail "prs")))

local macro_rules | `(tactic| walk_at "ty") => `(tactic| first | exact .base (.int _) | exact .base (.str _) | exact .base (.bl _) | exact .base .non | exact .base (.lst (by walk_at "hp")) | exact .base (.tup (by walk_at "hp")))
local macro_rules | `(tactic| walk_at "al") => `(tactic| (repeat (first
  | walk_at "rd1"
  | (with_reducible refine' U.i_andV ?_)
  | (with_reducible refine' U.i_notV ?_)
  | (with_reducible refine' U.i_truth ?_)
  | (with_reducible refine' U.i_or ?_)
  | (with_reducible refine' U.i_pt ?_)
  | ((with_reducible refine' U.i_isNT ?hx ?_); (case hx => rfl))
  | ((with_reducible refine' U.i_isNF ?hx ?_); (case hx => (intro z; cases z)))
  | ((with_reducible refine' U.i_isiT ?hx ?hy ?_); (case hx => walk_at "ty"); (case hy => decide +kernel))
  | ((with_reducible refine' U.i_isiF ?hx ?hy ?_); (case hx => walk_at "ty"); (case hy => decide +kernel))
  | (with_reducible refine' U.i_neBB ?_)
  | (with_reducible refine' U.i_eqBB ?_)
  | (with_reducible refine' U.i_eqSS ?_)
  | ((with_reducible refine' U.i_lenL ?hx ?_); (case hx => exact L2.SqL.of (by walk_at "hp")))
  | ((with_reducible refine' U.i_lenT ?hx ?_); (case hx => exact L2.SqT.of (by walk_at "hp")))
  | (with_reducible refine' U.iteT' ?_)
  | (with_reducible refine' U.iteF' ?_)
  | fail "al")))

local macro_rules | `(tactic| walk_at "gq") => `(tactic| (repeat (first | ((fail_if_success (with_reducible refine' U.i_seq ?_)); (first | walk_at "rd1" | (with_reducible refine' U.i_andV ?_))) | fail "gq")))
local macro_rules | `(tactic| walk_at "rq") => `(tactic| (repeat (first | ((fail_if_success (with_reducible refine' U.i_seq ?_)); walk_at "rd1") | fail "rq")))

theorem Bag.ext {H H' : Hp} {a c : Addr} (h : Bag H a c) (s : LamX.ExtN H H') : Bag H' a c := by
  obtain ⟨ns, i, l, z, h1, h2, h3⟩ := h
  exact ⟨ns, i, l, z, U.ExtN.lst s h1, U.ExtN.lst s h2, h3⟩
/-- something that is none of the bag's is written -/
theorem Bag.but {H H' : Hp} {a c l : Addr} (h : Bag H a c) (n1 : l ≠ a) (n2 : l ≠ c) (k : But l H H') : Bag H' a c := by
  obtain ⟨ns, i, j, z, h1, h2, h3⟩ := h
  exact ⟨ns, i, j, z, k _ _ h1 n1.symm, k _ _ h2 n2.symm, h3⟩
theorem tabs_lst {T : List (Addr × Str)} {H H' : Hp} {b : Addr} {xs : List V} (t : LamX.Tabs T H) (h1 : H b = some (.lst xs)) (k : But b H H') : LamX.Tabs T H' := by
  intro q m
  obtain ⟨ps, e, tr, cs⟩ := t q m
  refine ⟨ps, k _ _ e (fun y => by rw [y, h1] at e; cases e), tr, fun pos cv h => ?_⟩
  obtain ⟨cc, ec, hc⟩ := cs pos cv h
  exact ⟨cc, ec, k _ _ hc (fun y => by rw [y, h1] at hc; cases hc)⟩
/-- the bag's list is written: tables and code objects stay -/
theorem tabs_but {T : List (Addr × Str)} {H H' : Hp} {b c : Addr} (t : LamX.Tabs T H) (bag : Bag H b c) (k : But b H H') : LamX.Tabs T H' := by
  obtain ⟨ns, i, l, z, h1, _⟩ := bag
  exact tabs_lst t h1 k
section
variable {H : Hp} {b c l : Addr} {xs : List V}
/-- a list that begins otherwise than the bag's two -/
theorem Bag.neN (h : Bag H b c) (o : H l = none) : l ≠ b ∧ l ≠ c := by
  obtain ⟨ns, i, j, z, h1, h2, _⟩ := h
  exact ⟨fun e => (by rw [e, h1] at o; cases o), fun e => (by rw [e, h2] at o; cases o)⟩
theorem Bag.neT (h : Bag H b c) (o : H l = some (.tup xs)) : l ≠ b ∧ l ≠ c := by
  obtain ⟨ns, i, j, z, h1, h2, _⟩ := h
  exact ⟨fun e => (by rw [e, h1] at o; cases o), fun e => (by rw [e, h2] at o; cases o)⟩
end
/-- what a turn without a field keeps -/
structure Bd (Pt b c : Addr) (H : Hp) : Prop where
  bag : Bag H b c
  tab : LamX.Tabs [(Pt, PySem.Str.ofString "law.<locals>." ++ "<lambda>")] H
section
variable {Pt b c : Addr} {H H' : Hp}
theorem Bd.same (w : Bd Pt b c H) (s : Same H H') : Bd Pt b c H' := ⟨w.bag.same s, w.tab.ext s⟩
theorem Bd.ext (w : Bd Pt b c H) (s : LamX.ExtN H H') (t : LamX.Tabs [(Pt, PySem.Str.ofString "law.<locals>." ++ "<lambda>")] H') : Bd Pt b c H' := ⟨w.bag.ext s, t⟩
theorem Bd.but (w : Bd Pt b c H) (h : Bag H' b c) (k : But b H H') : Bd Pt b c H' := ⟨h, tabs_but w.tab w.bag k⟩
theorem Bd.lst {l : Addr} {xs : List V} (w : Bd Pt b c H) (o : H l = some (.lst xs)) (n : l ≠ b ∧ l ≠ c) (k : But l H H') : Bd Pt b c H' := ⟨w.bag.but n.1 n.2 k, tabs_lst w.tab o k⟩
end
local macro_rules | `(tactic| walk_at "bd") => `(tactic| first
  | assumption
  | ((with_reducible refine' Lw.Bd.same ?hx ?hy); (case hy => assumption); (case hx => walk_at "bd"))
  | ((with_reducible refine' Lw.Bd.but ?hx ?hy ?hz); (case hz => assumption); (case hy => assumption); (case hx => walk_at "bd"))
  | fail "bd")

theorem FA.ext {A : Ad} {H H' : Hp} {p : Addr} {n : Int} (h : FA A H p n) (s : LamX.ExtN H H') : FA A H' p n := by
  obtain ⟨h1, dx, h2⟩ := h
  exact ⟨h1, dx, U.ExtN.ins s h2⟩
theorem FA.neL {A : Ad} {H : Hp} {p l : Addr} {n : Int} {xs : List V} (h : FA A H p n) (o : H l = some (.lst xs)) : p ≠ l := fun e => by
  obtain ⟨h1, dx, h2⟩ := h
  rw [e, o] at h2
  cases h2
/-- what a turn with a field keeps -/
structure Wd (A : Ad) (Pt b c p : Addr) (n : Int) (H : Hp) : Prop where
  bd : Bd Pt b c H
  fa : FA A H p n
section
variable {A : Ad} {Pt b c p : Addr} {n : Int} {H H' : Hp}
theorem Wd.bag (w : Wd A Pt b c p n H) : Bag H b c := w.bd.bag
theorem Wd.tab (w : Wd A Pt b c p n H) : LamX.Tabs [(Pt, PySem.Str.ofString "law.<locals>." ++ "<lambda>")] H := w.bd.tab
theorem Wd.same (w : Wd A Pt b c p n H) (s : Same H H') : Wd A Pt b c p n H' := ⟨w.bd.same s, w.fa.same s⟩
theorem Wd.ext (w : Wd A Pt b c p n H) (s : LamX.ExtN H H') (t : LamX.Tabs [(Pt, PySem.Str.ofString "law.<locals>." ++ "<lambda>")] H') : Wd A Pt b c p n H' := ⟨w.bd.ext s t, w.fa.ext s⟩
theorem Wd.but (w : Wd A Pt b c p n H) (h : Bag H' b c) (k : But b H H') : Wd A Pt b c p n H' := ⟨w.bd.but h k, w.fa.but k (fun e => by
  obtain ⟨ns, i, l, z, h1, _⟩ := w.bag
  exact w.fa.neL h1 e)⟩
theorem Wd.lst {l : Addr} {xs : List V} (w : Wd A Pt b c p n H) (o : H l = some (.lst xs)) (ne : l ≠ b ∧ l ≠ c) (k : But l H H') : Wd A Pt b c p n H' := ⟨w.bd.lst o ne k, w.fa.but k (w.fa.neL o)⟩
end
local macro_rules | `(tactic| walk_at "wd") => `(tactic| first
  | assumption
  | ((with_reducible refine' Lw.Wd.same ?hx ?hy); (case hy => assumption); (case hx => walk_at "wd"))
  | ((with_reducible refine' Lw.Wd.but ?hx ?hy ?hz); (case hz => assumption); (case hy => assumption); (case hx => walk_at "wd"))
  | fail "wd")
/-- what is raised is told by that word -/
def WhyOf (K : PySem.W.Frag) (A : Ad) (D : Addr) (wd : Str) : Prop := ∃ b0 b1 b2 b3 b4 b5 b6 b7 b8 b9 b10 b11 b12 b13 b14 b15 b16 b17 b18 b19 b20 b21 b22 : Bool, Kinds K A D b0 b1 b2 b3 b4 b5 b6 b7 b8 b9 b10 b11 b12 b13 b14 b15 b16 b17 b18 b19 b20 b21 b22 ∧ Told K A D ∧ Txt.join (PySem.Str.ofString " ") (U.words (marks b0 b1 b2 b3 b4 b5 b6 b7 b8 b9 b10 b11 b12 b13 b14 b15 b16 b17 b18 b19 b20 b21 b22)) = wd
theorem WhyOf.go {K : PySem.W.Frag} {A : Ad} {D : Addr} {wd : Str} {H' : Hp} {R : Addr → Hp → Prop} (h : WhyOf K A D wd) (q : ∀ p H'', Same H' H'' → H'' p = some (.tup [.non, .str wd]) → R p H'') :
    ∃ (D' : Addr) (b0 b1 b2 b3 b4 b5 b6 b7 b8 b9 b10 b11 b12 b13 b14 b15 b16 b17 b18 b19 b20 b21 b22 : Bool), Kinds K A D' b0 b1 b2 b3 b4 b5 b6 b7 b8 b9 b10 b11 b12 b13 b14 b15 b16 b17 b18 b19 b20 b21 b22 ∧ Told K A D' ∧ (Value.ref D) = .ref D' ∧ (none : Option Addr) = none ∧ ∀ p H'', Same H' H'' → H'' p = some (.tup [.non, .str (Txt.join (PySem.Str.ofString " ") (U.words (marks b0 b1 b2 b3 b4 b5 b6 b7 b8 b9 b10 b11 b12 b13 b14 b15 b16 b17 b18 b19 b20 b21 b22)))]) → R p H'' := by
  obtain ⟨b0, b1, b2, b3, b4, b5, b6, b7, b8, b9, b10, b11, b12, b13, b14, b15, b16, b17, b18, b19, b20, b21, b22, h1, h2, h3⟩ := h
  rw [← h3] at q
  exact ⟨D, b0, b1, b2, b3, b4, b5, b6, b7, b8, b9, b10, b11, b12, b13, b14, b15, b16, b17, b18, b19, b20, b21, b22, h1, h2, rfl, rfl, q⟩

/-- a lambda handed to _law_why: what its body tells or raises (R) comes back as a pair -/
theorem why_lam {K : PySem.W.Frag} {A : Ad} {T : List (Addr × Str)} {t : XK → TE} {σ : L2.St} {H : Hp} {Q : VK} (tb : LamX.Tabs T H) (R : V → Str → Hp → Prop) (st : ∀ v wd H1 H2, R v wd H1 → Same H1 H2 → R v wd H2)
    (q : ∀ H1 E Qv, LamX.ExtN H H1 → LamX.Tabs T H1 → (∀ D wd H2, WhyOf K A D wd → R .non wd H2 → E (.ref D) none H2) → (∀ v H2, R v "" H2 → Qv v H2) → t E σ H1 Qv)
    (rest : ∀ p v wd H2, R v wd H2 → H2 p = some (.tup [v, .str wd]) → Q (.ref p) H2) : LamX.tLam T (TTwhy K A) t σ H Q := by
  refine U.i_lam tb (fun H1 e1 t1 => ?_)
  exact q H1 _ _ e1 t1 (fun D wd H2 h r => WhyOf.go h (fun p H3 s o => rest p _ _ H3 (st _ _ _ _ r s) o)) (fun v H2 r p H3 s o => rest p _ _ H3 (st _ _ _ _ r s) o)

theorem i_makeK {C : Addr} {n m : Nat} {sp : Sp} {gV : List V → List V → List V} {E : XK} {t tk : TA} {σ : L2.St} {H : Hp} {Q : VK} (q : t σ H fun vs H1 => tk σ H1 fun zs H2 => vs.length = n ∧ zs.length = m ∧ ∀ x dx, H2 x = none → H2 dx = none → dx ≠ x → sp (gV (.ref x :: vs) zs) (upd (upd H2 dx (.own x)) x (.ins C dx [])) (fun v H3 => v = .non ∧ Q (.ref x) H3) E) : tMakeK C n m sp gV E t tk σ H Q := q
theorem texts {n : Int} (hn : n ∈ FM.sizes) : n.natAbs.log2 < 1920 ∧ (PySem.Str.ofString "Field(").length + (PySem.Str.ofString (toString n)).length ≤ PySem.sizeLine ∧ ((PySem.Str.ofString "Field(") ++ (PySem.Str.ofString (toString n))).length + (PySem.Str.ofString ")").length ≤ PySem.sizeLine ∧
    (PySem.Str.ofString "field of ").length + (PySem.Str.ofString (toString n)).length ≤ PySem.sizeLine ∧ PySem.Str.empty ++ PySem.Str.ofString "Field(" ++ PySem.Str.ofString (toString n) ++ PySem.Str.ofString ")" = PySem.Str.ofString "Field(" ++ PySem.Str.ofString (toString n) ++ PySem.Str.ofString ")" ∧
    PySem.Str.empty ++ PySem.Str.ofString "field of " ++ PySem.Str.ofString (toString n) = PySem.Str.ofString "field of " ++ PySem.Str.ofString (toString n) := by
  rw [PySem.sizeLine_eq]
  rcases FM.size_cases hn with rfl | rfl | rfl | rfl | rfl | rfl | rfl | rfl | rfl | rfl <;> decide +kernel
theorem i_in1 {K : PySem.W.Frag} {H : Hp} {Q : VK} {x : V} {p : Addr} {xs : List V} {b : Bool} (h : SqL K H p xs ∨ SqT K H p xs) (hf : flatV x = true) (ha : xs.all flatV = true) (e : inV x xs = b) (q : Q (.bl b) H) : rIn K false x (.ref p) H Q := U.i_in h hf ha (by
  rw [e]
  exact q)
theorem i_notIn1 {K : PySem.W.Frag} {H : Hp} {Q : VK} {x : V} {p : Addr} {xs : List V} {b : Bool} (h : SqL K H p xs ∨ SqT K H p xs) (hf : flatV x = true) (ha : xs.all flatV = true) (e : inV x xs = b) (q : Q (.bl (!b)) H) : rIn K true x (.ref p) H Q := U.i_in h hf ha (by
  rw [e]
  exact q)
/-- what a turn keeps: the bag, the table, the sizes -/
structure S1 (Pt b cb z : Addr) (H : Hp) : Prop where
  bd : Bd Pt b cb H
  oz : H z = some (.tup (FM.sizes.map V.int))
section
variable {Pt b cb z : Addr} {H H' : Hp}
theorem S1.same (x : S1 Pt b cb z H) (s : Same H H') : S1 Pt b cb z H' := ⟨x.bd.same s, s _ _ x.oz⟩
theorem S1.ext (x : S1 Pt b cb z H) (s : LamX.ExtN H H') (t : LamX.Tabs [(Pt, PySem.Str.ofString "law.<locals>." ++ "<lambda>")] H') : S1 Pt b cb z H' := ⟨x.bd.ext s t, U.ExtN.tup s x.oz⟩
theorem S1.but (x : S1 Pt b cb z H) (h : Bag H' b cb) (k : But b H H') : S1 Pt b cb z H' := ⟨x.bd.but h k, k _ _ x.oz (x.bd.bag.neT x.oz).1⟩
end
/-- what the lambda tells -/
structure RW (A : Ad) (Pt b cb z : Addr) (n : Int) (v : V) (wd : Str) (H : Hp) : Prop where
  x : S1 Pt b cb z H
  h : (n ∈ FM.sizes ∧ wd = "" ∧ ∃ p, v = .ref p ∧ FA A H p n) ∨ (n ∉ FM.sizes ∧ v = .non ∧ wd = "BadSize")
theorem RW.same {A : Ad} {Pt b cb z : Addr} {n : Int} {v : V} {wd : Str} {H H' : Hp} (r : RW A Pt b cb z n v wd H) (s : Same H H') : RW A Pt b cb z n v wd H' := by
  obtain ⟨x, h⟩ := r
  refine ⟨x.same s, ?_⟩
  rcases h with ⟨h1, h2, p, h3, h4⟩ | h
  · exact .inl ⟨h1, h2, p, h3, h4.same s⟩
  · exact .inr h
theorem in_sizes {n : Int} : inV (.int n) (FM.sizes.map V.int) = decide (n ∈ FM.sizes) := by
  unfold inV
  rw [List.any_map, Bool.eq_iff_iff, decide_eq_true_iff, List.any_eq_true]
  constructor
  · rintro ⟨y, m, e⟩
    have : y = n := by simpa [eqV, Function.comp] using e
    exact this ▸ m
  · intro m
    exact ⟨n, m, by simp [eqV, Function.comp]⟩
/-- == of a word and a text -/
theorem i_eqW {x y : Str} {b : Bool} {H : Hp} {Q : VK} (e : decide (V.str x = V.str y) = b) (q : Q (.bl b) H) : rEq (.str x) (.str y) H Q := ⟨rfl, by rw [e]; exact q⟩
theorem i_neB {x y : Bool} {H : Hp} {Q : VK} (q : Q (.bl (!decide (x = y))) H) : rNe (.bl x) (.bl y) H Q := ⟨rfl, by
  rw [show decide (V.bl x = V.bl y) = decide (x = y) by cases x <;> cases y <;> decide]
  exact q⟩
section
variable {P : Program} {w : World} {K : PySem.W.Frag} {mg : Str → Option Value} {base : Heap} {A : Ad}
theorem sc_law : FnScope ["_law_script", "_law_bag_here", "_law_sizes", "_law_turn", "_law_over", "_law_word", "_law_found", "_law_due", "_law_other", "_law_late", "_law_same", "_law_big"] ["_law_script"] (defScope (top 45)) := ⟨rfl, rfl, rfl, by decide +kernel, rfl, by decide +kernel, by decide +kernel⟩
def spLaw (K : PySem.W.Frag) (Pt : Addr) : Sp := fun vs H Q _ => ∃ (a : Addr) (ns : List Int), vs = [.ref a] ∧ SqL K H a (ns.map V.int) ∧ ns.length ≤ 63 ∧ LamX.Tabs [(Pt, PySem.Str.ofString "law.<locals>." ++ "<lambda>")] H ∧ ∀ H', Q (.bl true) H'
theorem ok_law (T : Txt P w K mg A) {f c Pt : Addr} {oc dV kV dc pm ct : Value} {od an : Option Addr} {sl : Array (Option Value)} (lk : K.lookup f = some ⟨oc, od, .func (PySem.W.fnOf "law" "law" (defArgs (top 45)) (defBody (top 45)) (defScope (top 45)) dV kV dc pm an (.ref c) ct), sl⟩) (cd : PySem.W.codeIn K (.ref c) "law" = true) (TB : LamX.TabB base mg c Pt) (kBS : WhyOf K A A.BadSize "BadSize") :
    FnOk P w K mg base (L2N.CX P w) 7 f (PySem.W.fnOf "law" "law" (defArgs (top 45)) (defBody (top 45)) (defScope (top 45)) dV kV dc pm an (.ref c) ct) ["_law_script"] (spLaw K Pt) := by
  obtain ⟨_, _, _, F_bag, g_bag, k_bag, bd_bag⟩ := (ok_bag (P := P) (w := w) (base := base) T).ex
  obtain ⟨_, d_bag, b_bag⟩ := bd_bag 0 (by decide)
  obtain ⟨_, _, _, F_size, g_size, k_size, bd_size⟩ := (ok_size (P := P) (w := w) (base := base) T).ex
  obtain ⟨_, d_size, b_size⟩ := bd_size 0 (by decide)
  obtain ⟨_, _, _, F_pull, g_pull, k_pull, bd_pull⟩ := (ok_pull (P := P) (w := w) (base := base) T).ex
  obtain ⟨_, d_pull, b_pull⟩ := bd_pull 0 (by decide)
  obtain ⟨_, _, _, F_root, g_root, k_root, bd_root⟩ := (ok_root (P := P) (w := w) (base := base) T).ex
  obtain ⟨_, d_root, b_root⟩ := bd_root 0 (by decide)
  obtain ⟨_, _, _, F_far, g_far, k_far, bd_far⟩ := (ok_far (P := P) (w := w) (base := base) T).ex
  obtain ⟨_, d_far, b_far⟩ := bd_far 0 (by decide)
  obtain ⟨_, _, _, F_init, M_init, g_init, bd_init⟩ := (ok_init (P := P) (w := w) (base := base) T).ex
  obtain ⟨_, d_init, b_init⟩ := bd_init 1 (by decide)
  obtain ⟨_, _, _, F_fsize, c_fsize, m_fsize, bd_fsize⟩ := (ok_fsize (P := P) (w := w) (base := base) T).ex
  obtain ⟨_, d_fsize, b_fsize⟩ := bd_fsize 0 (by decide)
  obtain ⟨_, _, _, F_fbase, c_fbase, m_fbase, bd_fbase⟩ := (ok_fbase (P := P) (w := w) (base := base) T).ex
  obtain ⟨_, d_fbase, b_fbase⟩ := bd_fbase 0 (by decide)
  obtain ⟨_, _, _, F_flen, c_flen, m_flen, bd_flen⟩ := (ok_flen (P := P) (w := w) (base := base) T).ex
  obtain ⟨_, d_flen, b_flen⟩ := bd_flen 0 (by decide)
  obtain ⟨_, _, _, F_frepr, c_frepr, m_frepr, bd_frepr⟩ := (ok_frepr (P := P) (w := w) (base := base) T).ex
  obtain ⟨_, d_frepr, b_frepr⟩ := bd_frepr 0 (by decide)
  obtain ⟨_, _, _, F_fstr, c_fstr, m_fstr, bd_fstr⟩ := (ok_fstr (P := P) (w := w) (base := base) T).ex
  obtain ⟨_, d_fstr, b_fstr⟩ := bd_fstr 0 (by decide)
  obtain ⟨_, _, _, F_feq, c_feq, m_feq, bd_feq⟩ := (ok_feq (P := P) (w := w) (base := base) T).ex
  obtain ⟨_, d_feq, b_feq⟩ := bd_feq 0 (by decide)
  obtain ⟨_, _, _, F_al, g_al, k_al, bd_al⟩ := (ok_alike (P := P) (w := w) (base := base) T 3).ex
  obtain ⟨_, d_al, b_al⟩ := bd_al 0 (by decide)
  obtain ⟨fw, fdw, Fw, g_why, bw⟩ := T.d_law_why.ex
  obtain ⟨_, _, _, _, _, _, _, _, _, _, rfl, lk_why, cd_why, _, _⟩ := id Fw.ex
  obtain ⟨_, vd_why, bd_why⟩ := bw 0 (by decide)
  cases vd_why
  obtain ⟨_, d_init0, b_init0⟩ := bd_init 0 (by decide)
  obtain ⟨_, _, F_initk, M_initk, g_initk, bk_initk⟩ := (ok_initk (P := P) (w := w) (base := base) T).ex
  obtain ⟨_, bk_initk⟩ := bk_initk
  cases d_flen
  cases d_frepr
  cases d_fstr
  cases d_feq
  refine fn_of lk cd sc_law (fun vs H Q E h => ?_) (fun Ar outer s H vs Q E hr h => ?_)
  · obtain ⟨a, ns, rfl, _⟩ := h
    rfl
  obtain ⟨a, ns, rfl, hS, hl, hT, k⟩ := h
  refine ⟨_, (pss_cons (ps_set (i := 1) sc_law.nd rfl (Or.inl rfl) (pe_call F_bag (hr.mono (by decide)) rfl g_bag k_bag b_bag d_bag U.passN (pa_cons (pv 0) pa_nil)))
    (pss_cons (ps_set (i := 2) sc_law.nd rfl (Or.inl rfl) (pe_tup (pa_cons pe_int (pa_cons pe_int (pa_cons pe_int (pa_cons pe_int (pa_cons pe_int (pa_cons pe_int (pa_cons pe_int (pa_cons pe_int (pa_cons pe_int (pa_cons pe_int pa_nil))))))))))))
    (pss_cons (ps_if (PW.pt (pw_or (pt_cmpR (op_neD hr.units) (U.pe_gref rfl T.g_SIZES) (pv 2) (nomark _)) (pw_or (pt_cmpR op_ne (U.pe_gval rfl T.g_COMMON_SIZE) pe_int (nomark _)) (pw_or1 (pt_cmpR (U.op_neO T.cm T.cn m_feq.1 m_feq.2 (hr.mono (by decide)) F_feq b_feq) (pe_make0 M_init F_init (hr.mono (by decide)) rfl g_init b_init0 d_init0 U.passN) (pe_make M_init F_init (hr.mono (by decide)) rfl g_init b_init d_init U.passN (pa_cons pe_int pa_nil)) (nomark _))))))
    (pss_one (ps_ret pe_bl))
    pss_nil)
    (pss_cons (ps_for (passes_of (by exact rfl)) (by exact rfl) (pi_range1 (by rfl) T.range (pa_cons pe_int pa_nil)) (pg_name (i := 3) sc_law.nd rfl (Or.inl rfl))
    (pss_cons (ps_set (i := 11) sc_law.nd rfl (Or.inr rfl) (pe_ix ix_list (pe_lst (pa_cons (pe_op U.u_sub (pe_call F_pull (hr.mono (by decide)) rfl g_pull k_pull b_pull d_pull U.passN (pa_cons (pv 1) (pa_cons pe_int pa_nil))) pe_int) (pa_cons (pe_call F_far (hr.mono (by decide)) rfl g_far k_far b_far d_far U.passN (pa_cons (pv 1) pa_nil)) (pa_cons (pe_call F_size (hr.mono (by decide)) rfl g_size k_size b_size d_size U.passN (pa_cons (pv 1) pa_nil)) pa_nil)))) (pe_call F_pull (hr.mono (by decide)) rfl g_pull k_pull b_pull d_pull U.passN (pa_cons (pv 1) (pa_cons pe_int pa_nil))) (fun _ _ => rfl)))
    (pss_cons (ps_asg (U.pe_lamto (k := 4) (T := [(Pt, PySem.Str.ofString "law.<locals>." ++ "<lambda>")]) rfl g_why Fw.kp lk_why cd_why bd_why sc_why rfl (Or.inl rfl) (why_taker T) TB rfl List.mem_cons_self (fun p m _ => by cases List.mem_singleton.mp m; rfl) hr (LamX.lamS_by (by rfl)) rfl (fun _ _ _ _ _ => rfl) (fun A outer s H E f c' r => (pe_make M_init F_init (r.mono (by decide)) rfl g_init b_init d_init (passE (L2N.takes_of rfl rfl rfl rfl)) (pa_cons (pv 11) pa_nil)))) (pg_tup (by exact rfl) (pgs_cons (pg_name (i := 4) sc_law.nd rfl (Or.inl rfl)) (pgs_cons (pg_name (i := 5) sc_law.nd rfl (Or.inl rfl)) pgs_nil))))
    (pss_cons (ps_if (PW.pt (pw_or (pt_cmpR op_ne (pe_cmpR op_eq (pv 5) pe_str (nomark _)) (pe_cmpR op_in_seq (pv 11) (pv 2) (by rfl)) (nomark _)) (pw_or1 (pt_cmpR op_notIn_seq (pv 5) (pe_tup (pa_cons pe_str (pa_cons pe_str pa_nil))) (by rfl)))))
    (pss_one (ps_ret pe_bl))
    pss_nil)
    (pss_one (ps_if (pt_cmpR op_eq (pv 5) pe_str (nomark _))
    (pss_cons (ps_set (i := 6) sc_law.nd rfl (Or.inl rfl) (pe_lst (pa_cons (pe_meth0 (pv 4) c_fsize m_fsize F_fsize (hr.mono (by decide)) b_fsize d_fsize U.passN) (pa_cons (pe_meth0 (pv 4) c_fbase m_fbase F_fbase (hr.mono (by decide)) b_fbase d_fbase U.passN) (pa_cons (pe_callB (U.call_lenO m_flen.1 m_flen.2 (hr.mono (by decide)) F_flen b_flen) (by rfl) T.len (by decide +kernel) (pa_cons (pv 4) pa_nil)) (pa_cons (pe_callTy (U.call_boolO T.cb m_flen.1 m_flen.2 (hr.mono (by decide)) F_flen b_flen) (by rfl) T.bool (by decide +kernel) (pa_cons (pv 4) pa_nil)) (pa_cons (pe_callB (U.call_reprO m_frepr.1 m_frepr.2 (hr.mono (by decide)) F_frepr b_frepr) (by rfl) T.repr (by decide +kernel) (pa_cons (pv 4) pa_nil)) (pa_cons (pe_callTy (U.call_strO m_fstr.1 m_fstr.2 (hr.mono (by decide)) F_fstr b_fstr) (by rfl) T.str (by decide +kernel) (pa_cons (pv 4) pa_nil)) pa_nil))))))))
    (pss_cons (ps_set (i := 7) sc_law.nd rfl (Or.inl rfl) (pe_lst (pa_cons (pv 11) (pa_cons (pe_call F_root (hr.mono (by decide)) rfl g_root k_root b_root d_root U.passN (pa_cons (pv 11) pa_nil)) (pa_cons (pv 11) (pa_cons pe_bl (pa_cons (pe_op op_add_str (pe_op op_add_str pe_str (pe_callTy call_str_int (by rfl) T.str (by decide +kernel) (pa_cons (pv 11) pa_nil))) pe_str) (pa_cons (pe_op op_add_str pe_str (pe_callTy call_str_int (by rfl) T.str (by decide +kernel) (pa_cons (pv 11) pa_nil))) pa_nil))))))))
    (pss_cons (ps_set (i := 8) sc_law.nd rfl (Or.inl rfl) (pe_call F_size (hr.mono (by decide)) rfl g_size k_size b_size d_size U.passN (pa_cons (pv 1) pa_nil)))
    (pss_cons (ps_set (i := 9) sc_law.nd rfl (Or.inl rfl) (pe_makeK0 M_initk F_initk (hr.mono (by decide)) rfl g_initk bk_initk U.passN (pk_cons (pv 8) pk_nil)))
    (pss_cons (ps_set (i := 10) sc_law.nd rfl (Or.inl rfl) (pe_cmpR op_eq (pv 8) (pv 11) (nomark _)))
    (pss_cons (ps_if (PW.pt (pw_or (pt_not (pt_val (pe_call F_al (hr.mono (by decide)) rfl g_al k_al b_al d_al U.passN (pa_cons (pv 6) (pa_cons (pv 7) pa_nil))))) (pw_or1 (pt_not (pt_val (pe_call F_al (hr.mono (by decide)) rfl g_al k_al b_al d_al U.passN (pa_cons (pe_lst (pa_cons (pe_cmpR (U.op_eqO m_feq.1 m_feq.2 (hr.mono (by decide)) F_feq b_feq) (pv 4) (pv 9) (nomark _)) (pa_cons (pe_cmpR (U.op_neO T.cm T.cn m_feq.1 m_feq.2 (hr.mono (by decide)) F_feq b_feq) (pv 4) (pv 9) (nomark _)) pa_nil))) (pa_cons (pe_lst (pa_cons (pv 10) (pa_cons (pe_not (pv 10)) pa_nil))) pa_nil))))))))
    (pss_one (ps_ret pe_bl))
    pss_nil)
    (pss_one (ps_if (pt_not (pt_val (pe_call F_al (hr.mono (by decide)) rfl g_al k_al b_al d_al U.passN (pa_cons (pe_lst (pa_cons (pe_cmpR (U.op_inO m_feq.1 m_feq.2 (hr.mono (by decide)) F_feq b_feq) (pv 9) (pe_lst (pa_cons (pv 4) pa_nil)) (by rfl)) (pa_cons (pe_cmpR (U.op_eqO m_feq.1 m_feq.2 (hr.mono (by decide)) F_feq b_feq) (pv 4) (pv 11) (nomark _)) (pa_cons (pe_cmpR (U.op_eqO m_feq.1 m_feq.2 (hr.mono (by decide)) F_feq b_feq) (pv 4) (pe_callB (U.call_reprO m_frepr.1 m_frepr.2 (hr.mono (by decide)) F_frepr b_frepr) (by rfl) T.repr (by decide +kernel) (pa_cons (pv 4) pa_nil)) (nomark _)) pa_nil)))) (pa_cons (pe_lst (pa_cons (pv 10) (pa_cons pe_bl (pa_cons pe_bl pa_nil)))) pa_nil)))))
    (pss_one (ps_ret pe_bl))
    pss_nil))))))))
    pss_nil))))))
    (pss_one (ps_ret pe_bl)))))), ?_⟩
  walk_at "rq"
  with_reducible refine U.i_seq ?_
  walk_at "rq"
  refine ⟨a, ns, rfl, hS, hl, fun b cb H1 hb0 hc0 s1 hbag => ?_⟩
  have bd1 : Bd Pt b cb H1 := ⟨hbag, hT.ext s1⟩
  walk_at "rq"
  with_reducible refine U.i_seq ?_
  walk_at "rq"
  rename_i z hz H2 s2 oz
  have bd2 := bd1.same s2
  walk_at "rq"
  with_reducible refine U.i_seq ?_
  refine U.i_ifS (U.i_or ?_)
  walk_at "rq"
  refine U.i_neSame (n := 1) (d := U.rowD FM.sizes) (.tup (T.s_SIZES _) (U.dpAll_ints FM.sizes)) (.tup (SqT.of oz) (U.dpAll_ints FM.sizes)) (.row _) (by decide) ?_
  walk_at "rq"
  refine U.iteF' ?_
  refine U.i_or ?_
  walk_at "rq"
  refine U.itedn (fun h => absurd rfl h) (fun _ => ?_)
  walk_at "rq"
  refine U.i_make ?_
  walk_at "rq"
  intro p0 dx0 np0 ndx0 nep0
  refine ⟨p0, dx0, 16, rfl, upd_same, fun hn0 H3 kp0 fa0 => ⟨rfl, ?_⟩, fun hx => absurd (by decide) hx⟩
  have s3 := Same.made np0 ndx0 kp0
  have bd3 := bd2.same s3
  refine U.i_make ?_
  walk_at "rq"
  intro p1 dx1 np1 ndx1 nep1
  refine ⟨p1, dx1, 16, rfl, upd_same, fun hn1 H4 kp1 fa1 => ⟨rfl, ?_⟩, fun hx => absurd (by decide) hx⟩
  have s4 := Same.made np1 ndx1 kp1
  have fa04 := fa0.same s4
  obtain ⟨_, dxa, hpa⟩ := id fa04
  obtain ⟨_, dxb, hpb⟩ := id fa1
  refine ⟨p0, _, _, p1, _, _, rfl, hpa, rfl, hpb, p0, 16, .ref p1, rfl, fa04, .inl ⟨p1, 16, rfl, fa1, _, rfl, ?_⟩⟩
  walk_at "rq"
  refine U.itedn (fun h => absurd rfl h) (fun _ => ?_)
  refine U.i_next ?_
  have x4 : S1 Pt b cb z H4 := ⟨bd3.same s4, s4 _ _ (s3 _ _ oz)⟩
  clear fa0 fa1 fa04 hpa hpb kp0 kp1 bd1 bd2 bd3 oz
  walk_at "rd"
  refine for_it walk_range (fun i σ H' => ∃ v3 v4 v5 v6 v7 v8 v9 v10 v11, σ = [some (.ref a), some (.ref b), some (.ref z), v3, v4, v5, v6, v7, v8, v9, v10, v11] ∧ S1 Pt b cb z H') ⟨_, _, _, _, _, _, _, _, _, rfl, x4⟩ (fun _ _ _ _ _ => trivial) ?_ ?_
  rotate_left
  · rintro σ H5 ⟨v3, v4, v5, v6, v7, v8, v9, v10, v11, rfl, x5⟩
    walk_at "rd"
    exact k _
  rintro i x σ H5 H6 hi ⟨v3, v4, v5, v6, v7, v8, v9, v10, v11, rfl, x5⟩ ⟨rfl, rfl⟩
  walk_at "rq"
  with_reducible refine U.i_seqG (fun σ' H' => ∃ n, σ' = [some (.ref a), some (.ref b), some (.ref z), some (.int (0 + (i : Nat))), v4, v5, v6, v7, v8, v9, v10, some (.int n)] ∧ S1 Pt b cb z H') ?rest1 (fun _ rest1 => ?first1)
  case first1 =>
    walk_at "rq"
    refine spPull.go x5.bd.bag (by decide) (by decide) (fun g1 H6 p2 p3 hb6 bt6 => ?_)
    have x6 := x5.but hb6 bt6
    walk_at "rq"
    refine ⟨b, cb, rfl, hb6, fun g2 H7 p4 hb7 bt7 => ?_⟩
    have x7 := x6.but hb7 bt7
    walk_at "rq"
    refine ⟨b, cb, rfl, hb7, fun g3 H8 p5 hb8 bt8 => ?_⟩
    have x8 := x7.but hb8 bt8
    walk_at "rq"
    rename_i l hl H9 s9 ol
    have x9 := x8.same s9
    refine spPull.go x9.bd.bag (by decide) (by decide) (fun g4 H10 p6 p7 hb10 bt10 => ?_)
    have ol10 := bt10 _ _ ol (x8.bd.bag.neN hl).1
    have x10 := x9.but hb10 bt10
    have three : g4 = 0 ∨ g4 = 1 ∨ g4 = 2 := by omega
    rcases three with rfl | rfl | rfl <;> refine U.i_ixL (SqL.of ol10) rfl ?_ <;> walk_at "rq" <;> exact rest1 _ _ ⟨_, rfl, x10⟩
  case rest1 =>
  rintro σ' H6 ⟨n, rfl, x6⟩
  clear x5
  with_reducible refine U.i_seqG (fun σ' H' => ∃ v wd, σ' = [some (.ref a), some (.ref b), some (.ref z), some (.int (0 + (i : Nat))), some v, some (.str wd), v6, v7, v8, v9, v10, some (.int n)] ∧ RW A Pt b cb z n v wd H') ?rest2 (fun _ rest2 => ?first2)
  case first2 =>
    walk_at "rq"
    refine why_lam x6.bd.tab (RW A Pt b cb z n) (fun v wd G1 G2 r s => r.same s) (fun Hm E1 Q1 em tbm hE hQ => ?_) (fun q v wd G r oq => ?_)
    · have xm := x6.ext em tbm
      refine U.i_make ?_
      walk_at "rq"
      intro p0 dx0 np0 ndx0 nep0
      refine ⟨p0, dx0, n, rfl, upd_same, fun hn0 G kp0 fa0 => ⟨rfl, ?_⟩, fun hx => ?_⟩
      · exact hQ _ _ ⟨xm.same (Same.made np0 ndx0 kp0), .inl ⟨hn0, rfl, p0, rfl, fa0⟩⟩
      · exact hE _ _ _ kBS ⟨xm.same (Same.trans (same_new ndx0) (same_new (by rw [upd_ne (Ne.symm nep0)]; exact np0))), .inr ⟨hx, rfl, rfl⟩⟩
    walk_at "rq"
    exact rest2 _ _ ⟨v, wd, rfl, r⟩
  case rest2 =>
  rintro σ' H7 ⟨v, wd, rfl, x7, h7⟩
  clear x6
  rcases h7 with ⟨hn, rfl, p, rfl, fa⟩ | ⟨hn, rfl, rfl⟩
  rotate_left
  · with_reducible refine U.i_seq ?_
    refine U.i_ifS (U.i_or ?_)
    walk_at "rq"
    refine i_eqW (b := false) (by decide +kernel) ?_
    walk_at "rq"
    refine i_in1 (b := false) (.inr (SqT.of x7.oz)) rfl (by decide) (by rw [in_sizes, decide_eq_false hn]) ?_
    refine i_neB ?_
    walk_at "rq"
    refine U.itedn (fun h => absurd rfl h) (fun _ => ?_)
    walk_at "rq"
    rename_i q hq H8 s8 oq
    refine i_notIn1 (b := true) (.inr (SqT.of oq)) rfl (by decide +kernel) (by decide +kernel) ?_
    walk_at "rq"
    refine U.iteF' ?_
    refine U.i_next ?_
    walk_at "rq"
    refine i_eqW (b := false) (by decide +kernel) ?_
    walk_at "rq"
    refine U.iteF' ?_
    refine U.i_next ?_
    exact ⟨_, _, _, _, _, _, _, _, _, rfl, x7.same s8⟩
  have sr := FM.size_rng hn
  obtain ⟨_, dx, hp⟩ := id fa
  with_reducible refine U.i_seq ?_
  refine U.i_ifS (U.i_or ?_)
  walk_at "rq"
  refine i_eqW (b := true) (by decide +kernel) ?_
  walk_at "rq"
  refine i_in1 (b := true) (.inr (SqT.of x7.oz)) rfl (by decide) (by rw [in_sizes, decide_eq_true hn]) ?_
  refine i_neB ?_
  walk_at "rq"
  refine U.itedn (fun h => absurd rfl h) (fun _ => ?_)
  walk_at "rq"
  rename_i q hq H8 s8 oq
  refine i_notIn1 (b := true) (.inr (SqT.of oq)) rfl (by decide +kernel) (by decide +kernel) ?_
  walk_at "rq"
  refine U.iteF' ?_
  refine U.i_next ?_
  walk_at "rq"
  refine i_eqW (b := true) (by decide +kernel) ?_
  walk_at "rq"
  have x8 := x7.same s8
  have fa8 := fa.same s8
  have hp8 := s8 _ _ hp
  with_reducible refine U.i_seq ?_
  walk_at "rq"
  refine ⟨p, n, rfl, fa8, ?_⟩
  walk_at "rq"
  refine ⟨p, n, rfl, fa8, ?_⟩
  walk_at "rq"
  refine ⟨p, dx, _, rfl, hp8, p, n, rfl, fa8, fun H9 s9 => ⟨n, rfl, by omega, by omega, ?_⟩⟩
  have x9 := x8.same s9
  have fa9 := fa8.same s9
  have hp9 := s9 _ _ hp8
  clear x8 fa8 hp8 oq
  walk_at "rq"
  refine ⟨p, dx, _, rfl, hp9, p, n, rfl, fa9, fun H10 s10 => ⟨n, rfl, by omega, by omega, ?_⟩⟩
  rw [show (n != 0) = true by simp; omega]
  have x10 := x9.same s10
  have fa10 := fa9.same s10
  have hp10 := s10 _ _ hp9
  clear x9 fa9 hp9
  walk_at "rq"
  refine ⟨p, dx, _, rfl, hp10, p, n, rfl, fa10, _, rfl, ?_⟩
  walk_at "rq"
  refine ⟨p, dx, _, rfl, hp10, p, n, rfl, fa10, _, rfl, ?_⟩
  walk_at "rq"
  rename_i lf hlf H11 s11 olf
  have x11 := x10.same s11
  have nlf := x10.bd.bag.neN hlf
  have fa11 := fa10.same s11
  with_reducible refine U.i_seq ?_
  walk_at "rq"
  refine ⟨n, rfl, hn, fun H12 s12 => ?_⟩
  have x12 := x11.same s12
  have fa12 := fa11.same s12
  obtain ⟨lg, l1, l2, l3, e1, e2⟩ := texts hn
  walk_at "rq"
  refine ⟨n, rfl, lg, _, _, rfl, rfl, l1, ?_⟩
  walk_at "rq"
  refine ⟨_, _, rfl, rfl, l2, ?_⟩
  walk_at "rq"
  refine ⟨n, rfl, lg, _, _, rfl, rfl, l3, ?_⟩
  walk_at "rq"
  rename_i ld hld H13 s13 old
  have x13 := x12.same s13
  have nld := x12.bd.bag.neN hld
  have fa13 := fa12.same s13
  have olf13 := s13 _ _ (s12 _ _ olf)
  clear x11 fa11 x12 fa12 x10 fa10 hp10 olf
  rw [e1, e2] at olf13
  with_reducible refine U.i_seq ?_
  walk_at "rq"
  refine ⟨b, cb, rfl, x13.bd.bag, fun m H14 hm hb14 bt14 => ?_⟩
  have x14 := x13.but hb14 bt14
  have fa14 := fa13.but bt14 (by
    obtain ⟨_, _, _, _, z1, _⟩ := x13.bd.bag
    exact fa13.neL z1)
  walk_at "rq"
  have olf14 := bt14 _ _ olf13 nlf.1
  have old14 := bt14 _ _ old nld.1
  clear x13 fa13 olf13 old
  with_reducible refine U.i_seq ?_
  walk_at "rq"
  refine i_makeK ?_
  walk_at "rq"
  intro p2 dx2 np2 ndx2 nep2
  refine ⟨p2, dx2, m, rfl, upd_same, fun hm2 H15 kp2 fa2 => ⟨rfl, ?_⟩, fun hx => absurd hm hx⟩
  have s15 := Same.made np2 ndx2 kp2
  have x15 := x14.same s15
  have fa15 := fa14.same s15
  have olf15 := s15 _ _ olf14
  have old15 := s15 _ _ old14
  have np2p : p ≠ p2 := fun e => by
    obtain ⟨_, d', e'⟩ := fa14
    rw [e, np2] at e'
    cases e'
  clear x14 fa14 olf14 old14 kp2
  walk_at "rq"
  with_reducible refine U.i_seq ?_
  walk_at "rq"
  with_reducible refine U.i_seq ?_
  refine U.i_ifS (U.i_or ?_)
  walk_at "rq"
  refine ⟨_, _, rfl, U.Dts.lst olf15 old15 (.cons (.int _) (.cons (.int _) (.cons (.int _) (.cons (.bl _) (.cons (.str _) (.cons (.str _) .nil)))))) (by show 6 < 1000; decide), fun H16 s16 => ?_⟩
  have x16 := x15.same s16
  have fa16 := fa15.same s16
  have fa216 := fa2.same s16
  walk_at "rq"
  refine U.iteF' ?_
  walk_at "rq"
  obtain ⟨_, dxp, hp16⟩ := id fa16
  obtain ⟨_, dxq, hq16⟩ := id fa216
  refine ⟨p, _, _, rfl, hp16, .inl ⟨p2, _, _, rfl, hq16⟩, p, n, .ref p2, rfl, fa16, .inl ⟨p2, m, rfl, fa216, _, rfl, ?_⟩⟩
  walk_at "rq"
  refine ⟨p, _, _, p2, _, _, rfl, hp16, rfl, hq16, p, n, .ref p2, rfl, fa16, .inl ⟨p2, m, rfl, fa216, _, rfl, ?_⟩⟩
  walk_at "rq"
  rename_i t1 ht1 H17 s17 o17
  refine U.i_notV ?_
  walk_at "rq"
  rename_i t2 ht2 H18 s18 o18
  have ec : decide (n = m) = decide (m = n) := by simp [eq_comm]
  rw [ec] at o17
  refine ⟨_, _, rfl, U.Dts.lst (s18 _ _ o17) o18 (.cons (.bl _) (.cons (.bl _) .nil)) (by show 2 < 1000; decide), fun H19 s19 => ?_⟩
  have s169 := (s17.trans s18).trans s19
  have x19 := x16.same s169
  have fa19 := fa16.same s169
  have fa219 := fa216.same s169
  have hp19 := s169 _ _ hp16
  have hq19 := s169 _ _ hq16
  clear x15 x16 fa16 fa216 hp16 hq16 o17 o18 olf15 old15 fa2 fa15 fa hp
  walk_at "rq"
  refine U.iteF' ?_
  refine U.i_next ?_
  walk_at "rq"
  rename_i l1 hl1 H20 s20 o20
  have x20 := x19.same s20
  have fa20 := fa19.same s20
  have fa220 := fa219.same s20
  have hp20 := s20 _ _ hp19
  have hq20 := s20 _ _ hq19
  refine ⟨p2, _, _, _, p, _, _, rfl, hq20, rfl, o20, hp20, np2p, p, n, .ref p2, rfl, fa20, .inl ⟨p2, m, rfl, fa220, _, rfl, o20, ?_⟩⟩
  walk_at "rq"
  refine ⟨p, _, _, rfl, hp20, .inr (.inl ⟨n, rfl, T.fi⟩), p, n, .int n, rfl, fa20, .inr ⟨.inl ⟨n, rfl⟩, _, rfl, ?_⟩⟩
  walk_at "rq"
  refine ⟨p, _, _, rfl, hp20, p, n, rfl, fa20, _, rfl, ?_⟩
  refine ⟨p, _, _, rfl, hp20, .inr (.inr ⟨_, rfl, T.fs⟩), p, n, .str _, rfl, fa20, .inr ⟨.inr ⟨_, rfl⟩, _, rfl, ?_⟩⟩
  walk_at "rq"
  rename_i t3 ht3 H21 s21 o21 t4 ht4 H22 s22 o22
  rw [ec] at o21
  refine ⟨_, _, rfl, U.Dts.lst (s22 _ _ o21) o22 (.cons (.bl _) (.cons (.bl _) (.cons (.bl _) .nil))) (by show 3 < 1000; decide), fun H23 s23 => ?_⟩
  walk_at "rq"
  refine U.iteF' ?_
  refine U.i_next ?_
  exact ⟨_, _, _, _, _, _, _, _, _, rfl, ((x20.same s21).same s22).same s23⟩
end
end Lw


set_option Elab.async false
set_option linter.all false
set_option maxRecDepth 100000
set_option maxHeartbeats 4000000
/-! ### own steps (local) -/
local macro_rules | `(tactic| walk_at "hp") => `(tactic| first
  | assumption
  | exact L2.upd_same
  | ((with_reducible refine U.upd_new ?_ ?_); (focus (first | assumption | done)); walk_at "hp")
  | ((with_reducible refine U.upd_ne'' ?_ ?_); (focus (first | assumption | (apply Ne.symm; assumption))); walk_at "hp")
  | ((with_reducible refine' U.Same.get ?hx ?hy); (case hx => assumption); (case hy => walk_at "hp"))
  | ((with_reducible refine' U.ExtN.lst ?hx ?hy); (case hx => assumption); (case hy => walk_at "hp"))
  | ((with_reducible refine' U.ExtN.tup ?hx ?hy); (case hx => assumption); (case hy => walk_at "hp"))
  | ((with_reducible refine' U.ExtN.ins ?hx ?hy); (case hx => assumption); (case hy => walk_at "hp"))
  | fail "hp")
local macro_rules | `(tactic| walk_at "lay") => `(tactic| (intro p hn; generalize hg : L2.upd _ p _ = H'; have hs := U.same_of hg hn; have ho := U.at_of hg; clear hg))
local macro_rules | `(tactic| walk_at "sz") => `(tactic| first | decide | (show _ ≤ PySem.sizeLine; rw [PySem.sizeLine_eq]; (try simp only [List.length_cons, List.length_nil, List.length_map]); omega))
local macro_rules | `(tactic| walk_at "ref'") => `(tactic| skip)
local macro_rules | `(tactic| walk_at "rd1") => `(tactic| first
  | (with_reducible refine' U.i_seq ?_)
  | (with_reducible refine' U.i_asg ?_)
  | (with_reducible refine' U.i_ret ?_)
  | (with_reducible refine' U.i_ifS ?_)
  | (with_reducible refine' U.i_drop ?_)
  | ((with_reducible refine' U.i_var ?hx ?_); (case hx => rfl))
  | (with_reducible refine' U.i_c ?_)
  | (with_reducible refine' U.i_op ?_)
  | (with_reducible refine' U.i_un ?_)
  | (with_reducible refine' U.i_name ?_)
  | (with_reducible refine' U.i_gsub ?_)
  | (with_reducible refine' U.i_test ?_)
  | (with_reducible refine' U.i_tB ?_)
  | (with_reducible refine' U.i_bl ?_)
  | (with_reducible refine' U.i_not ?_)
  | (with_reducible refine' U.i_nil ?_)
  | (with_reducible refine' U.i_cons ?_)
  | (with_reducible refine' U.i_cb ?_)
  | (with_reducible refine' U.i_call ?_)
  | (with_reducible refine' U.i_fld ?_)
  | ((with_reducible refine' U.i_fld' ?hx ?hy ?hz ?hw ?_); (case hx => walk_at "hp"); (case hy => assumption); (case hz => assumption); (case hw => rfl))
  | (with_reducible refine' U.i_meth ?_)
  | ((with_reducible refine' U.i_meth' ?hx ?hy ?_); (case hx => walk_at "hp"); (case hy => rfl))
  | (with_reducible refine' U.i_add ?_)
  | (with_reducible refine' U.i_sub ?_)
  | ((with_reducible refine' U.i_mul ?hx ?_); (case hx => (first | (left; constructor <;> omega) | (right; constructor <;> omega))))
  | ((with_reducible refine' U.i_mod ?hx ?_); (case hx => omega))
  | ((with_reducible refine' U.i_fdiv ?hx ?_); (case hx => (constructor <;> omega)))
  | ((with_reducible refine' U.i_pow ?hx ?_); (case hx => (refine ⟨?_, ?_, ?_⟩ <;> decide)))
  | (with_reducible refine' U.i_lt ?_)
  | (with_reducible refine' U.i_le ?_)
  | (with_reducible refine' U.i_gt ?_)
  | (with_reducible refine' U.i_ge ?_)
  | (with_reducible refine' U.i_eqI ?_)
  | (with_reducible refine' U.i_neI ?_)
  | (with_reducible refine' U.i_rU ?_)
  | (with_reducible refine' U.i_abs ?_)
  | (with_reducible refine' U.i_callN ?_)
  | ((with_reducible refine' U.i_lens ?hx ?hy ?_); (case hx => rfl); (case hy => rfl))
  | ((with_reducible refine' U.i_ixL ?hx ?hy ?_); (case hx => exact L2.SqL.of (by walk_at "hp")); (case hy => rfl))
  | ((with_reducible refine' U.i_lenL ?hx ?_); (case hx => exact L2.SqL.of (by walk_at "hp")))
  | ((with_reducible refine' U.i_setL ?hx ?hy ?_); (case hx => walk_at "hp"); (case hy => rfl))
  | (with_reducible refine' U.i_augS ?_)
  | ((with_reducible refine' U.i_aug ?hx ?_); (case hx => rfl))
  | (with_reducible refine' U.i_ipI ?_)
  | ((with_reducible refine' U.i_ipMul ?hx ?_); (case hx => (first | (left; constructor <;> omega) | (right; constructor <;> omega))))
  | ((with_reducible refine' U.i_gtup ?hx ?hy ?_); (case hx => exact L2.SqT.of (by walk_at "hp")); (case hy => rfl))
  | (with_reducible refine' U.i_gcons ?_)
  | (with_reducible refine' U.i_gnil ?_)
  | ((with_reducible refine' U.i_divmod ?hx ?_); (case hx => (constructor <;> omega)); walk_at "lay")
  | (with_reducible refine' U.i_tup ?_)
  | (with_reducible refine' U.i_lst ?_)
  | ((with_reducible refine' U.lay_and ?hx ?_); (case hx => walk_at "sz"); walk_at "lay")
  | (with_reducible refine' U.i_sl ?_)
  | (with_reducible refine' U.i_part ?_)
  | (with_reducible refine' U.i_part' ?_)
  | (with_reducible refine' U.i_nopart ?_)
  | ((with_reducible refine' U.i_slL ?hx ?_); (case hx => exact L2.SqL.of (by walk_at "hp")); walk_at "lay")
  | (with_reducible refine' U.i_bm ?_)
  | ((with_reducible refine' U.i_bm' ?hx ?_); (case hx => walk_at "hp"))
  | ((with_reducible refine' U.i_append ?hx ?hy ?_); (case hx => walk_at "hp"); (case hy => walk_at "szl"))
  | ((with_reducible refine' U.i_chLL ?hx ?hy ?_); (case hx => rfl); (case hy => rfl))
  | (with_reducible refine' U.i_chain ?_)
  | (with_reducible refine' U.i_rng1 ?_)
  | ((with_reducible refine' U.i_rng1' ?hx ?hy ?_); (case hx => omega); (case hy => omega))
  | (with_reducible refine' U.i_rng2 ?_)
  | ((with_reducible refine' U.i_rng2' ?hx ?_); (case hx => (refine ⟨?_, ?_, ?_, ?_⟩ <;> omega)))
  | (with_reducible refine' U.i_rng3 ?_)
  | (with_reducible refine' U.i_enum ?_)
  | ((with_reducible refine' U.i_enum' ?hx ?_); (case hx => exact L2.SqL.of (by walk_at "hp")))
  | (with_reducible refine' U.i_enumT ?_)
  | ((with_reducible refine' U.i_enumT' ?hx ?_); (case hx => exact L2.SqT.of (by walk_at "hp")))
  | (with_reducible refine' U.i_rev ?_)
  | ((with_reducible refine' U.i_rev' ?hx ?_); (case hx => exact L2.SqL.of (by walk_at "hp")))
  | (with_reducible refine' U.i_plist ?_)
  | ((with_reducible refine' U.i_plist' ?hx ?_); (case hx => exact L2.SqL.of (by walk_at "hp")))
  | (with_reducible refine' U.i_for ?_)
  | (with_reducible refine' U.i_sfld ?_)
  | ((with_reducible refine' U.i_sfld' ?hx ?hy ?hz ?hw ?_); (case hx => walk_at "hp"); (case hy => assumption); (case hz => assumption); (case hw => exact Nat.le_of_ble_eq_true rfl))
  | (with_reducible refine' U.i_lc ?_)
  | (with_reducible refine' U.i_par3 ?_)
  | (with_reducible refine' U.i_par3' ?_)
  | (with_reducible refine' U.i_par ?_)
  | (with_reducible refine' U.i_par' ?_)
  | (with_reducible refine' U.i_lrg ?_)
  | (with_reducible refine' U.i_rg1 ?_)
  | (with_reducible refine' U.i_rg1' ?_)
  | (with_reducible refine' U.i_pl ?_)
  | ((with_reducible refine' U.i_pl' ?hx ?hy ?_); (case hx => walk_at "hp"); (case hy => exact Nat.le_of_ble_eq_true rfl))
  | (with_reducible refine' U.i_rAdd ?_)
  | ((with_reducible refine' U.i_listOf ?hx ?_); (case hx => exact L2.SqL.of (by walk_at "hp")); walk_at "lay")
  | (with_reducible refine' U.i_intB ?_)
  | (with_reducible refine' U.i_wget ?_)
  | ((with_reducible refine' U.i_tupleOf ?hx ?_); (case hx => walk_at "hp"); walk_at "lay")
  | ((with_reducible refine' U.i_repA ?hx ?hn ?h0 ?h1 ?h2 ?_); (case hx => walk_at "hp"); (case hn => simp); (case h0 => omega); (case h1 => omega); (case h2 => simp); intro p H' hs ho)
  | ((with_reducible refine' U.i_catA ?hx ?hy ?hz ?_); (case hx => walk_at "hp"); (case hy => walk_at "hp"); (case hz => walk_at "sz"); intro p H' hs ho)
  | ((with_reducible refine' U.i_slA ?hx ?_); (case hx => walk_at "hp"); intro p H' hs ho)
  | (with_reducible refine' U.i_zipS ?_)
  | ((with_reducible refine' U.i_zipTT ?hx ?hy ?_); (case hx => exact L2.SqT.of (by walk_at "hp")); (case hy => exact L2.SqT.of (by walk_at "hp")))
  | ((with_reducible refine' U.i_zipLL ?hx ?hy ?_); (case hx => exact L2.SqL.of (by walk_at "hp")); (case hy => exact L2.SqL.of (by walk_at "hp")))
  | (with_reducible refine' U.i_ptup ?_)
  | ((with_reducible refine' U.i_ptup' ?hx ?_); (case hx => exact L2.SqT.of (by walk_at "hp")))
  | ((with_reducible refine' U.i_lenT ?hx ?_); (case hx => exact L2.SqT.of (by walk_at "hp")))
  | (with_reducible refine' U.i_yes ?_)
  | (with_reducible refine' L2.iteT ?_)
  | (with_reducible refine' U.i_next ?_)
  | fail "rd1")
local macro_rules | `(tactic| walk_at "szl") => `(tactic| first | decide | (refine L2.small1000 ?_; (try simp only [List.length_cons, List.length_nil, List.length_map]); omega))
local macro_rules | `(tactic| walk_at "rd") => `(tactic| (repeat walk_at "rd1"))
local macro_rules | `(tactic| walk_at "ro") => `(tactic| (refine' U.i_or ?_; walk_at "rd"))
local macro_rules | `(tactic| walk_at "ra") => `(tactic| (refine' U.i_pt ?_; walk_at "rd"))
local macro_rules | `(tactic| walk_at "gd") => `(tactic| (repeat (first | walk_at "rd1" | (with_reducible refine' U.i_andV ?_))))

namespace Lw
open PySem L2 U LamX
theorem mkT {P : Program} {w : World} {K : PySem.W.Frag} {h : Heap} {mg : Str → Option Value} (X : K.In h) (G : h.Ns mainGlobals mg)
    {f5 f8 f11 aBadSize aBadNumber aSIZES aBASES ar4 ar8 ar9 ar16 aRULES f27 aField f38 t43 f44 f48 f52 f56 f60 f64 aBadRow aBadName aBadLine aBadHearers aBadLoss aBadPlan aBadDeed aBadText aRinged aShort aNarrow aHeavy aUnsolved aNoHouse aNoLine aTaken aFull aInUse aTold aNothingLeft aNoShare aMingleError aMissing aBusy f97 f100 f108 f111 f114 f117 : Addr}
    {oc7 dc7 pm7 cd7 ct7 kV7 oc10 dc10 pm10 cd10 ct10 kV10 oc13 dc13 pm13 cd13 ct13 kV13 oc29 dc29 pm29 cd29 ct29 kV29 oc43 dc43 pm43 cd43 ct43 kV43 oc47 dc47 pm47 cd47 ct47 kV47 oc51 dc51 pm51 cd51 ct51 kV51 oc55 dc55 pm55 cd55 ct55 kV55 oc59 dc59 pm59 cd59 ct59 kV59 oc63 dc63 pm63 cd63 ct63 kV63 oc67 dc67 pm67 cd67 ct67 kV67 vg68 oc99 dc99 pm99 cd99 ct99 kV99 oc102 dc102 pm102 cd102 ct102 kV102 oc110 dc110 pm110 cd110 ct110 kV110 oc113 dc113 pm113 cd113 ct113 kV113 oc116 dc116 pm116 cd116 ct116 kV116 oc119 dc119 pm119 cd119 ct119 kV119 : Value}
    {od7 an7 od10 an10 od13 an13 od29 an29 od43 an43 od47 an47 od51 an51 od55 an55 od59 an59 od63 an63 od67 an67 od99 an99 od102 an102 od110 an110 od113 an113 od116 an116 od119 an119 : Option Addr}
    {sl7 sl10 sl13 sl29 sl43 sl47 sl51 sl55 sl59 sl63 sl67 sl99 sl102 sl110 sl113 sl116 sl119 : Array (Option Value)}
    {olt18 olt20 olt22 olt23 olt24 olt25 olt26 o43 : Obj}
    (z1 : PySem.W.nsIn K mainGlobals "len" = some none)
    (z2 : PySem.W.nsIn K mainGlobals "abs" = some none)
    (z3 : PySem.W.nsIn K mainGlobals "list" = some none)
    (z4 : PySem.W.nsIn K mainGlobals "int" = some none)
    (a6 : PySem.W.nsIn K mainGlobals "_law_bag" = some (some (.ref f5)))
    (l7 : K.lookup f5 = some ⟨oc7, od7, .func (PySem.W.fnOf "_law_bag" "_law_bag" (defArgs (top 37)) (defBody (top 37)) (defScope (top 37)) .none kV7 dc7 pm7 an7 cd7 ct7), sl7⟩)
    (c7 : PySem.W.codeIn K cd7 "_law_bag" = true)
    (k7 : PySem.W.keepIn K (.ref f5) = true)
    (a9 : PySem.W.nsIn K mainGlobals "_law_pull" = some (some (.ref f8)))
    (l10 : K.lookup f8 = some ⟨oc10, od10, .func (PySem.W.fnOf "_law_pull" "_law_pull" (defArgs (top 40)) (defBody (top 40)) (defScope (top 40)) .none kV10 dc10 pm10 an10 cd10 ct10), sl10⟩)
    (c10 : PySem.W.codeIn K cd10 "_law_pull" = true)
    (k10 : PySem.W.keepIn K (.ref f8) = true)
    (a12 : PySem.W.nsIn K mainGlobals "_law_size" = some (some (.ref f11)))
    (l13 : K.lookup f11 = some ⟨oc13, od13, .func (PySem.W.fnOf "_law_size" "_law_size" (defArgs (top 42)) (defBody (top 42)) (defScope (top 42)) .none kV13 dc13 pm13 an13 cd13 ct13), sl13⟩)
    (c13 : PySem.W.codeIn K cd13 "_law_size" = true)
    (k13 : PySem.W.keepIn K (.ref f11) = true)
    (z14 : PySem.W.nsIn K mainGlobals "range" = some none)
    (g15 : PySem.W.nsIn K mainGlobals "BadSize" = some (some (.ref aBadSize)))
    (k15 : PySem.W.keepIn K (.ref aBadSize) = true)
    (q15 : PySem.W.excIn K aBadSize [.type "ValueError", .type "Exception", .type "BaseException", .type "object"] "ValueError.__new__" = true)
    (b15 : PySem.W.subIn K (.ref aBadSize) (.type "BaseException") = some true)
    (t15 : PySem.W.typeIn K (.ref aBadSize) = some (.type "type"))
    (g16 : PySem.W.nsIn K mainGlobals "BadNumber" = some (some (.ref aBadNumber)))
    (k16 : PySem.W.keepIn K (.ref aBadNumber) = true)
    (q16 : PySem.W.excIn K aBadNumber [.type "ValueError", .type "Exception", .type "BaseException", .type "object"] "ValueError.__new__" = true)
    (b16 : PySem.W.subIn K (.ref aBadNumber) (.type "BaseException") = some true)
    (t16 : PySem.W.typeIn K (.ref aBadNumber) = some (.type "type"))
    (g17 : PySem.W.nsIn K mainGlobals "SIZES" = some (some (.ref aSIZES)))
    (lt18 : K.lookup aSIZES = some olt18)
    (dlt18 : U.TupO olt18 [V.int 2, V.int 3, V.int 4, V.int 5, V.int 7, V.int 8, V.int 9, V.int 11, V.int 13, V.int 16])
    (g19 : PySem.W.nsIn K mainGlobals "BASES" = some (some (.ref aBASES)))
    (lt20 : K.lookup aBASES = some olt20)
    (dlt20 : U.TupO olt20 [V.int 2, V.int 3, V.int 5, V.int 7, V.int 11, V.int 13])
    (g21 : PySem.W.nsIn K mainGlobals "RULES" = some (some (.ref aRULES)))
    (lt22 : K.lookup aRULES = some olt22)
    (dlt22 : U.WDO olt22 [((Sum.inl 4 : Key), V.ref ar4), ((Sum.inl 8 : Key), V.ref ar8), ((Sum.inl 9 : Key), V.ref ar9), ((Sum.inl 16 : Key), V.ref ar16)])
    (lt23 : K.lookup ar4 = some olt23)
    (dlt23 : U.TupO olt23 [V.int 1, V.int 1])
    (lt24 : K.lookup ar8 = some olt24)
    (dlt24 : U.TupO olt24 [V.int 1, V.int 1, V.int 0])
    (lt25 : K.lookup ar9 = some olt25)
    (dlt25 : U.TupO olt25 [V.int 2, V.int 0])
    (lt26 : K.lookup ar16 = some olt26)
    (dlt26 : U.TupO olt26 [V.int 1, V.int 1, V.int 0, V.int 0])
    (a28 : PySem.W.nsIn K mainGlobals "grown" = some (some (.ref f27)))
    (l29 : K.lookup f27 = some ⟨oc29, od29, .func (PySem.W.fnOf "grown" "grown" (defArgs (top 33)) (defBody (top 33)) (defScope (top 33)) .none kV29 dc29 pm29 an29 cd29 ct29), sl29⟩)
    (c29 : PySem.W.codeIn K cd29 "grown" = true)
    (k29 : PySem.W.keepIn K (.ref f27) = true)
    (g30 : PySem.W.nsIn K mainGlobals "Field" = some (some (.ref aField)))
    (pg31 : PySem.W.plainGet K aField Str.empty = true)
    (hd32 : PySem.W.hasDictIn K aField = true)
    (po33 : PySem.W.plainOver K aField = true)
    (sa34 : PySem.W.findIn K (.ref aField) "__setattr__" = some (some (.builtin "object.__setattr__")))
    (na35 : PySem.W.findIn K (.ref aField) "many" = some none)
    (na36 : PySem.W.findIn K (.ref aField) "prime" = some none)
    (na37 : PySem.W.findIn K (.ref aField) "places" = some none)
    (a39 : PySem.W.findIn K (.ref aField) "__init__" = some (some (.ref f38)))
    (i40 : PySem.W.isFn K (.ref f38) = true)
    (mk41 : PySem.W.makesIn K aField = true)
    (kc42 : PySem.W.keepIn K (.ref aField) = true)
    (l43 : K.lookup f38 = some ⟨oc43, od43, .func (PySem.W.fnOf "__init__" "Field.__init__" (defArgs (inClass (top 34) 0)) (defBody (inClass (top 34) 0)) (defScope (inClass (top 34) 0)) (.ref t43) kV43 dc43 pm43 an43 cd43 ct43), sl43⟩)
    (c43 : PySem.W.codeIn K cd43 "Field.__init__" = true)
    (k43 : PySem.W.keepIn K (.ref f38) = true)
    (lt43 : K.lookup t43 = some o43)
    (dt43 : U.DfT o43 [V.int 16])
    (a45 : PySem.W.findIn K (.ref aField) "size" = some (some (.ref f44)))
    (i46 : PySem.W.isFn K (.ref f44) = true)
    (l47 : K.lookup f44 = some ⟨oc47, od47, .func (PySem.W.fnOf "size" "Field.size" (defArgs (inClass (top 34) 5)) (defBody (inClass (top 34) 5)) (defScope (inClass (top 34) 5)) .none kV47 dc47 pm47 an47 cd47 ct47), sl47⟩)
    (c47 : PySem.W.codeIn K cd47 "Field.size" = true)
    (k47 : PySem.W.keepIn K (.ref f44) = true)
    (a49 : PySem.W.findIn K (.ref aField) "base" = some (some (.ref f48)))
    (i50 : PySem.W.isFn K (.ref f48) = true)
    (l51 : K.lookup f48 = some ⟨oc51, od51, .func (PySem.W.fnOf "base" "Field.base" (defArgs (inClass (top 34) 6)) (defBody (inClass (top 34) 6)) (defScope (inClass (top 34) 6)) .none kV51 dc51 pm51 an51 cd51 ct51), sl51⟩)
    (c51 : PySem.W.codeIn K cd51 "Field.base" = true)
    (k51 : PySem.W.keepIn K (.ref f48) = true)
    (a53 : PySem.W.findIn K (.ref aField) "__eq__" = some (some (.ref f52)))
    (i54 : PySem.W.isFn K (.ref f52) = true)
    (l55 : K.lookup f52 = some ⟨oc55, od55, .func (PySem.W.fnOf "__eq__" "Field.__eq__" (defArgs (inClass (top 34) 1)) (defBody (inClass (top 34) 1)) (defScope (inClass (top 34) 1)) .none kV55 dc55 pm55 an55 cd55 ct55), sl55⟩)
    (c55 : PySem.W.codeIn K cd55 "Field.__eq__" = true)
    (k55 : PySem.W.keepIn K (.ref f52) = true)
    (a57 : PySem.W.findIn K (.ref aField) "__len__" = some (some (.ref f56)))
    (i58 : PySem.W.isFn K (.ref f56) = true)
    (l59 : K.lookup f56 = some ⟨oc59, od59, .func (PySem.W.fnOf "__len__" "Field.__len__" (defArgs (inClass (top 34) 2)) (defBody (inClass (top 34) 2)) (defScope (inClass (top 34) 2)) .none kV59 dc59 pm59 an59 cd59 ct59), sl59⟩)
    (c59 : PySem.W.codeIn K cd59 "Field.__len__" = true)
    (k59 : PySem.W.keepIn K (.ref f56) = true)
    (a61 : PySem.W.findIn K (.ref aField) "__repr__" = some (some (.ref f60)))
    (i62 : PySem.W.isFn K (.ref f60) = true)
    (l63 : K.lookup f60 = some ⟨oc63, od63, .func (PySem.W.fnOf "__repr__" "Field.__repr__" (defArgs (inClass (top 34) 3)) (defBody (inClass (top 34) 3)) (defScope (inClass (top 34) 3)) .none kV63 dc63 pm63 an63 cd63 ct63), sl63⟩)
    (c63 : PySem.W.codeIn K cd63 "Field.__repr__" = true)
    (k63 : PySem.W.keepIn K (.ref f60) = true)
    (a65 : PySem.W.findIn K (.ref aField) "__str__" = some (some (.ref f64)))
    (i66 : PySem.W.isFn K (.ref f64) = true)
    (l67 : K.lookup f64 = some ⟨oc67, od67, .func (PySem.W.fnOf "__str__" "Field.__str__" (defArgs (inClass (top 34) 4)) (defBody (inClass (top 34) 4)) (defScope (inClass (top 34) 4)) .none kV67 dc67 pm67 an67 cd67 ct67), sl67⟩)
    (c67 : PySem.W.codeIn K cd67 "Field.__str__" = true)
    (k67 : PySem.W.keepIn K (.ref f64) = true)
    (g68 : PySem.W.nsIn K mainGlobals "COMMON_SIZE" = some (some vg68))
    (rg68 : RelV (.int 16) vg68)
    (z69 : PySem.W.nsIn K mainGlobals "repr" = some none)
    (z70 : PySem.W.nsIn K mainGlobals "isinstance" = some none)
    (g71 : PySem.W.nsIn K mainGlobals "BadSize" = some (some (.ref aBadSize)))
    (g72 : PySem.W.nsIn K mainGlobals "BadNumber" = some (some (.ref aBadNumber)))
    (g73 : PySem.W.nsIn K mainGlobals "BadRow" = some (some (.ref aBadRow)))
    (g74 : PySem.W.nsIn K mainGlobals "BadName" = some (some (.ref aBadName)))
    (g75 : PySem.W.nsIn K mainGlobals "BadLine" = some (some (.ref aBadLine)))
    (g76 : PySem.W.nsIn K mainGlobals "BadHearers" = some (some (.ref aBadHearers)))
    (g77 : PySem.W.nsIn K mainGlobals "BadLoss" = some (some (.ref aBadLoss)))
    (g78 : PySem.W.nsIn K mainGlobals "BadPlan" = some (some (.ref aBadPlan)))
    (g79 : PySem.W.nsIn K mainGlobals "BadDeed" = some (some (.ref aBadDeed)))
    (g80 : PySem.W.nsIn K mainGlobals "BadText" = some (some (.ref aBadText)))
    (g81 : PySem.W.nsIn K mainGlobals "Ringed" = some (some (.ref aRinged)))
    (g82 : PySem.W.nsIn K mainGlobals "Short" = some (some (.ref aShort)))
    (g83 : PySem.W.nsIn K mainGlobals "Narrow" = some (some (.ref aNarrow)))
    (g84 : PySem.W.nsIn K mainGlobals "Heavy" = some (some (.ref aHeavy)))
    (g85 : PySem.W.nsIn K mainGlobals "Unsolved" = some (some (.ref aUnsolved)))
    (g86 : PySem.W.nsIn K mainGlobals "NoHouse" = some (some (.ref aNoHouse)))
    (g87 : PySem.W.nsIn K mainGlobals "NoLine" = some (some (.ref aNoLine)))
    (g88 : PySem.W.nsIn K mainGlobals "Taken" = some (some (.ref aTaken)))
    (g89 : PySem.W.nsIn K mainGlobals "Full" = some (some (.ref aFull)))
    (g90 : PySem.W.nsIn K mainGlobals "InUse" = some (some (.ref aInUse)))
    (g91 : PySem.W.nsIn K mainGlobals "Told" = some (some (.ref aTold)))
    (g92 : PySem.W.nsIn K mainGlobals "NothingLeft" = some (some (.ref aNothingLeft)))
    (g93 : PySem.W.nsIn K mainGlobals "NoShare" = some (some (.ref aNoShare)))
    (g94 : PySem.W.nsIn K mainGlobals "MingleError" = some (some (.ref aMingleError)))
    (g95 : PySem.W.nsIn K mainGlobals "Missing" = some (some (.ref aMissing)))
    (g96 : PySem.W.nsIn K mainGlobals "Busy" = some (some (.ref aBusy)))
    (a98 : PySem.W.nsIn K mainGlobals "_law_kind" = some (some (.ref f97)))
    (l99 : K.lookup f97 = some ⟨oc99, od99, .func (PySem.W.fnOf "_law_kind" "_law_kind" (defArgs (top 39)) (defBody (top 39)) (defScope (top 39)) .none kV99 dc99 pm99 an99 cd99 ct99), sl99⟩)
    (c99 : PySem.W.codeIn K cd99 "_law_kind" = true)
    (k99 : PySem.W.keepIn K (.ref f97) = true)
    (a101 : PySem.W.nsIn K mainGlobals "_law_why" = some (some (.ref f100)))
    (l102 : K.lookup f100 = some ⟨oc102, od102, .func (PySem.W.fnOf "_law_why" "_law_why" (defArgs (top 44)) (defBody (top 44)) (defScope (top 44)) .none kV102 dc102 pm102 an102 cd102 ct102), sl102⟩)
    (c102 : PySem.W.codeIn K cd102 "_law_why" = true)
    (k102 : PySem.W.keepIn K (.ref f100) = true)
    (z103 : PySem.W.nsIn K mainGlobals "bool" = some none)
    (z104 : PySem.W.nsIn K mainGlobals "str" = some none)
    (z105 : PySem.W.nsIn K mainGlobals "dict" = some none)
    (z106 : PySem.W.nsIn K mainGlobals "tuple" = some none)
    (z107 : PySem.W.nsIn K mainGlobals "all" = some none)
    (a109 : PySem.W.nsIn K mainGlobals "_law_whole" = some (some (.ref f108)))
    (l110 : K.lookup f108 = some ⟨oc110, od110, .func (PySem.W.fnOf "_law_whole" "_law_whole" (defArgs (top 43)) (defBody (top 43)) (defScope (top 43)) .none kV110 dc110 pm110 an110 cd110 ct110), sl110⟩)
    (c110 : PySem.W.codeIn K cd110 "_law_whole" = true)
    (k110 : PySem.W.keepIn K (.ref f108) = true)
    (a112 : PySem.W.nsIn K mainGlobals "_law_alike" = some (some (.ref f111)))
    (l113 : K.lookup f111 = some ⟨oc113, od113, .func (PySem.W.fnOf "_law_alike" "_law_alike" (defArgs (top 36)) (defBody (top 36)) (defScope (top 36)) .none kV113 dc113 pm113 an113 cd113 ct113), sl113⟩)
    (c113 : PySem.W.codeIn K cd113 "_law_alike" = true)
    (k113 : PySem.W.keepIn K (.ref f111) = true)
    (a115 : PySem.W.nsIn K mainGlobals "_law_root" = some (some (.ref f114)))
    (l116 : K.lookup f114 = some ⟨oc116, od116, .func (PySem.W.fnOf "_law_root" "_law_root" (defArgs (top 41)) (defBody (top 41)) (defScope (top 41)) .none kV116 dc116 pm116 an116 cd116 ct116), sl116⟩)
    (c116 : PySem.W.codeIn K cd116 "_law_root" = true)
    (k116 : PySem.W.keepIn K (.ref f114) = true)
    (a118 : PySem.W.nsIn K mainGlobals "_law_far" = some (some (.ref f117)))
    (l119 : K.lookup f117 = some ⟨oc119, od119, .func (PySem.W.fnOf "_law_far" "_law_far" (defArgs (top 38)) (defBody (top 38)) (defScope (top 38)) .none kV119 dc119 pm119 an119 cd119 ct119), sl119⟩)
    (c119 : PySem.W.codeIn K cd119 "_law_far" = true)
    (k119 : PySem.W.keepIn K (.ref f117) = true)
    (xf120 : PySem.W.findIn K (.ref aField) "__class__" = some (some (.builtin "object.__class__")))
    (xf121 : PySem.W.specialIn K (.builtin "object.__class__") "__get__" = some (some (.builtin "getset_descriptor.__get__")))
    (xf122 : PySem.W.takesIn K (.builtin "object.__class__") = some true)
    (xf123 : PySem.W.mroIn K aField (.type "object") = some true)
    (xf124 : PySem.W.kitOne K (.type "int") (.ref aField) = some false)
    (xf125 : PySem.W.findIn K (.ref aField) "__bool__" = some none)
    (xf126 : PySem.W.findIn K (.ref aField) "__ne__" = some (some (.builtin "object.__ne__")))
    (xf127 : PySem.W.notFirst K aField (.type "int") = true)
    (xf128 : PySem.W.notFirst K aField (.type "str") = true)
    (xf129 : PySem.W.kitOne K (.type "str") (.ref aField) = some false)
    : Txt P w K mg ⟨aBadSize, aBadNumber, aSIZES, aBASES, ar4, ar8, ar9, ar16, aRULES, aField, aBadRow, aBadName, aBadLine, aBadHearers, aBadLoss, aBadPlan, aBadDeed, aBadText, aRinged, aShort, aNarrow, aHeavy, aUnsolved, aNoHouse, aNoLine, aTaken, aFull, aInUse, aTold, aNothingLeft, aNoShare, aMingleError, aMissing, aBusy⟩ where
  len := PySem.W.mg_none_of X G z1
  abs := PySem.W.mg_none_of X G z2
  list := PySem.W.mg_none_of X G z3
  int := PySem.W.mg_none_of X G z4
  d_law_bag := (by have F : U.FunA K "_law_bag" "_law_bag" (top 37) [] [] f5 _ := ⟨⟨_, _, _, _, _, _, _, _, _, _, rfl, l7, c7, .inl ⟨rfl, rfl⟩, .inl rfl⟩, k7⟩; exact ⟨f5, _, F, PySem.W.mg_of X G a6, (U.bd0 F fun _ _ _ _ _ _ us hl => match us, hl with | [_], _ => rfl)⟩)
  d_law_pull := (by have F : U.FunA K "_law_pull" "_law_pull" (top 40) [] [] f8 _ := ⟨⟨_, _, _, _, _, _, _, _, _, _, rfl, l10, c10, .inl ⟨rfl, rfl⟩, .inl rfl⟩, k10⟩; exact ⟨f8, _, F, PySem.W.mg_of X G a9, (U.bd0 F fun _ _ _ _ _ _ us hl => match us, hl with | [_, _], _ => rfl)⟩)
  d_law_size := (by have F : U.FunA K "_law_size" "_law_size" (top 42) [] [] f11 _ := ⟨⟨_, _, _, _, _, _, _, _, _, _, rfl, l13, c13, .inl ⟨rfl, rfl⟩, .inl rfl⟩, k13⟩; exact ⟨f11, _, F, PySem.W.mg_of X G a12, (U.bd0 F fun _ _ _ _ _ _ us hl => match us, hl with | [_], _ => rfl)⟩)
  range := PySem.W.mg_none_of X G z14
  e_BadSize := ⟨PySem.W.mg_of X G g15, k15, ⟨_, _, _, _, PySem.F.excBase_ValueError, q15⟩, b15, t15⟩
  e_BadNumber := ⟨PySem.W.mg_of X G g16, k16, ⟨_, _, _, _, PySem.F.excBase_ValueError, q16⟩, b16, t16⟩
  g_SIZES := PySem.W.mg_of X G g17
  s_SIZES := fun H => U.sqT_of lt18 dlt18
  g_BASES := PySem.W.mg_of X G g19
  s_BASES := fun H => U.sqT_of lt20 dlt20
  g_RULES := PySem.W.mg_of X G g21
  w_RULES := U.wd_of lt22 dlt22
  s_r4 := fun H => U.sqT_of lt23 dlt23
  s_r8 := fun H => U.sqT_of lt24 dlt24
  s_r9 := fun H => U.sqT_of lt25 dlt25
  s_r16 := fun H => U.sqT_of lt26 dlt26
  d_grown := (by have F : U.FunA K "grown" "grown" (top 33) [] [] f27 _ := ⟨⟨_, _, _, _, _, _, _, _, _, _, rfl, l29, c29, .inl ⟨rfl, rfl⟩, .inl rfl⟩, k29⟩; exact ⟨f27, _, F, PySem.W.mg_of X G a28, (U.bd0 F fun _ _ _ _ _ _ us hl => match us, hl with | [_, _], _ => rfl)⟩)
  c_Field := ⟨pg31, hd32, po33, sa34⟩
  na_Field_many := na35
  na_Field_prime := na36
  na_Field_places := na37
  n_Field := (by have F : U.FunA K "__init__" "Field.__init__" (inClass (top 34) 0) [V.int 16] [] f38 _ := ⟨⟨_, _, _, _, _, _, _, _, _, _, rfl, l43, c43, U.dfl_of lt43 dt43, .inl rfl⟩, k43⟩; exact ⟨f38, _, F, ⟨mk41, a39, i40, kc42⟩, PySem.W.mg_of X G g30, (U.bd1 F (by decide) (fun _ _ _ _ _ _ _ us its hl hm => match us, its, hl, hm with | [_], [_], _, _ => ⟨_, rfl, rfl⟩) (fun _ _ _ _ _ _ _ us its hl hm => match us, its, hl, hm with | [_, _], [_], _, _ => ⟨_, rfl, rfl⟩))⟩)
  nk_Field := (by have F : U.FunA K "__init__" "Field.__init__" (inClass (top 34) 0) [V.int 16] [] f38 _ := ⟨⟨_, _, _, _, _, _, _, _, _, _, rfl, l43, c43, U.dfl_of lt43 dt43, .inl rfl⟩, k43⟩; obtain ⟨_, h⟩ := F.kbindsD 1 ["size"] (fun us its ws => us ++ ws) (by simp) (fun a b c => a.append c) (fun _ _ _ _ _ _ _ us its ws l1 l2 l3 => match us, its, ws, l1, l2, l3 with | [_], [_], [_], _, _, _ => ⟨_, rfl, by first | rfl | kernel_rfl⟩); exact ⟨f38, _, F, ⟨mk41, a39, i40, kc42⟩, PySem.W.mg_of X G g30, ⟨_, h⟩⟩)
  m_Field_size := (by have F : U.FunA K "size" "Field.size" (inClass (top 34) 5) [] [] f44 _ := ⟨⟨_, _, _, _, _, _, _, _, _, _, rfl, l47, c47, .inl ⟨rfl, rfl⟩, .inl rfl⟩, k47⟩; exact ⟨f44, _, F, ⟨pg31, hd32, po33, sa34⟩, ⟨a45, i46, k47⟩, (U.bd0 F fun _ _ _ _ _ _ us hl => match us, hl with | [_], _ => rfl)⟩)
  m_Field_base := (by have F : U.FunA K "base" "Field.base" (inClass (top 34) 6) [] [] f48 _ := ⟨⟨_, _, _, _, _, _, _, _, _, _, rfl, l51, c51, .inl ⟨rfl, rfl⟩, .inl rfl⟩, k51⟩; exact ⟨f48, _, F, ⟨pg31, hd32, po33, sa34⟩, ⟨a49, i50, k51⟩, (U.bd0 F fun _ _ _ _ _ _ us hl => match us, hl with | [_], _ => rfl)⟩)
  m_Field___eq__ := (by have F : U.FunA K "__eq__" "Field.__eq__" (inClass (top 34) 1) [] [] f52 _ := ⟨⟨_, _, _, _, _, _, _, _, _, _, rfl, l55, c55, .inl ⟨rfl, rfl⟩, .inl rfl⟩, k55⟩; exact ⟨f52, _, F, ⟨pg31, hd32, po33, sa34⟩, ⟨a53, i54, k55⟩, (U.bd0 F fun _ _ _ _ _ _ us hl => match us, hl with | [_, _], _ => rfl)⟩)
  m_Field___len__ := (by have F : U.FunA K "__len__" "Field.__len__" (inClass (top 34) 2) [] [] f56 _ := ⟨⟨_, _, _, _, _, _, _, _, _, _, rfl, l59, c59, .inl ⟨rfl, rfl⟩, .inl rfl⟩, k59⟩; exact ⟨f56, _, F, ⟨pg31, hd32, po33, sa34⟩, ⟨a57, i58, k59⟩, (U.bd0 F fun _ _ _ _ _ _ us hl => match us, hl with | [_], _ => rfl)⟩)
  m_Field___repr__ := (by have F : U.FunA K "__repr__" "Field.__repr__" (inClass (top 34) 3) [] [] f60 _ := ⟨⟨_, _, _, _, _, _, _, _, _, _, rfl, l63, c63, .inl ⟨rfl, rfl⟩, .inl rfl⟩, k63⟩; exact ⟨f60, _, F, ⟨pg31, hd32, po33, sa34⟩, ⟨a61, i62, k63⟩, (U.bd0 F fun _ _ _ _ _ _ us hl => match us, hl with | [_], _ => rfl)⟩)
  m_Field___str__ := (by have F : U.FunA K "__str__" "Field.__str__" (inClass (top 34) 4) [] [] f64 _ := ⟨⟨_, _, _, _, _, _, _, _, _, _, rfl, l67, c67, .inl ⟨rfl, rfl⟩, .inl rfl⟩, k67⟩; exact ⟨f64, _, F, ⟨pg31, hd32, po33, sa34⟩, ⟨a65, i66, k67⟩, (U.bd0 F fun _ _ _ _ _ _ us hl => match us, hl with | [_], _ => rfl)⟩)
  g_COMMON_SIZE := ⟨_, PySem.W.mg_of X G g68, rg68⟩
  repr := PySem.W.mg_none_of X G z69
  isinstance := PySem.W.mg_none_of X G z70
  gx_BadSize := PySem.W.mg_of X G g71
  gx_BadNumber := PySem.W.mg_of X G g72
  gx_BadRow := PySem.W.mg_of X G g73
  gx_BadName := PySem.W.mg_of X G g74
  gx_BadLine := PySem.W.mg_of X G g75
  gx_BadHearers := PySem.W.mg_of X G g76
  gx_BadLoss := PySem.W.mg_of X G g77
  gx_BadPlan := PySem.W.mg_of X G g78
  gx_BadDeed := PySem.W.mg_of X G g79
  gx_BadText := PySem.W.mg_of X G g80
  gx_Ringed := PySem.W.mg_of X G g81
  gx_Short := PySem.W.mg_of X G g82
  gx_Narrow := PySem.W.mg_of X G g83
  gx_Heavy := PySem.W.mg_of X G g84
  gx_Unsolved := PySem.W.mg_of X G g85
  gx_NoHouse := PySem.W.mg_of X G g86
  gx_NoLine := PySem.W.mg_of X G g87
  gx_Taken := PySem.W.mg_of X G g88
  gx_Full := PySem.W.mg_of X G g89
  gx_InUse := PySem.W.mg_of X G g90
  gx_Told := PySem.W.mg_of X G g91
  gx_NothingLeft := PySem.W.mg_of X G g92
  gx_NoShare := PySem.W.mg_of X G g93
  gx_MingleError := PySem.W.mg_of X G g94
  gx_Missing := PySem.W.mg_of X G g95
  gx_Busy := PySem.W.mg_of X G g96
  d_law_kind := (by have F : U.FunA K "_law_kind" "_law_kind" (top 39) [] [] f97 _ := ⟨⟨_, _, _, _, _, _, _, _, _, _, rfl, l99, c99, .inl ⟨rfl, rfl⟩, .inl rfl⟩, k99⟩; exact ⟨f97, _, F, PySem.W.mg_of X G a98, (U.bd0 F fun _ _ _ _ _ _ us hl => match us, hl with | [_], _ => rfl)⟩)
  d_law_why := (by have F : U.FunA K "_law_why" "_law_why" (top 44) [] [] f100 _ := ⟨⟨_, _, _, _, _, _, _, _, _, _, rfl, l102, c102, .inl ⟨rfl, rfl⟩, .inl rfl⟩, k102⟩; exact ⟨f100, _, F, PySem.W.mg_of X G a101, (U.bd0 F fun _ _ _ _ _ _ us hl => match us, hl with | [_], _ => rfl)⟩)
  bool := PySem.W.mg_none_of X G z103
  str := PySem.W.mg_none_of X G z104
  dict := PySem.W.mg_none_of X G z105
  tuple := PySem.W.mg_none_of X G z106
  all := PySem.W.mg_none_of X G z107
  d_law_whole := (by have F : U.FunA K "_law_whole" "_law_whole" (top 43) [] [] f108 _ := ⟨⟨_, _, _, _, _, _, _, _, _, _, rfl, l110, c110, .inl ⟨rfl, rfl⟩, .inl rfl⟩, k110⟩; exact ⟨f108, _, F, PySem.W.mg_of X G a109, (U.bd0 F fun _ _ _ _ _ _ us hl => match us, hl with | [_], _ => rfl)⟩)
  d_law_alike := (by have F : U.FunA K "_law_alike" "_law_alike" (top 36) [] [] f111 _ := ⟨⟨_, _, _, _, _, _, _, _, _, _, rfl, l113, c113, .inl ⟨rfl, rfl⟩, .inl rfl⟩, k113⟩; exact ⟨f111, _, F, PySem.W.mg_of X G a112, (U.bd0 F fun _ _ _ _ _ _ us hl => match us, hl with | [_, _], _ => rfl)⟩)
  d_law_root := (by have F : U.FunA K "_law_root" "_law_root" (top 41) [] [] f114 _ := ⟨⟨_, _, _, _, _, _, _, _, _, _, rfl, l116, c116, .inl ⟨rfl, rfl⟩, .inl rfl⟩, k116⟩; exact ⟨f114, _, F, PySem.W.mg_of X G a115, (U.bd0 F fun _ _ _ _ _ _ us hl => match us, hl with | [_], _ => rfl)⟩)
  d_law_far := (by have F : U.FunA K "_law_far" "_law_far" (top 38) [] [] f117 _ := ⟨⟨_, _, _, _, _, _, _, _, _, _, rfl, l119, c119, .inl ⟨rfl, rfl⟩, .inl rfl⟩, k119⟩; exact ⟨f117, _, F, PySem.W.mg_of X G a118, (U.bd0 F fun _ _ _ _ _ _ us hl => match us, hl with | [_], _ => rfl)⟩)
  ck := xf120
  cg := xf121
  ct := xf122
  cm := xf123
  ki := xf124
  cb := xf125
  cn := xf126
  fi := xf127
  fs := xf128
  ks := xf129

theorem fin {P : Program} {w : World} {K : PySem.W.Frag} {h : Heap} {mg : Str → Option Value} (X : K.In h) (G : h.Ns mainGlobals mg) {fa f : Addr} (hfa : mg "law" = some (.ref fa)) {A : Ad} (T : Txt P w K mg A) (kBS : WhyOf K A A.BadSize "BadSize")
    {oc kV dc pm ct : Value} {c Pt : Addr} {od an : Option Addr} {sl : Array (Option Value)} (a : PySem.W.nsIn K mainGlobals "law" = some (some (.ref f)))
    (l : K.lookup f = some ⟨oc, od, .func (PySem.W.fnOf "law" "law" (defArgs (top 45)) (defBody (top 45)) (defScope (top 45)) .none kV dc pm an (.ref c) ct), sl⟩) (cc : PySem.W.codeIn K (.ref c) "law" = true) (k : PySem.W.keepIn K (.ref f) = true)
    (t0 : h.get? Pt = some { cls := .none, data := .fields #[] }) (t1 : K.lookup Pt = none) (t2 : PySem.W.codeHdIn K c Pt = true) :
    LamX.LawAtS' P w K (fun _ => L2N.CX P w) 7 fa h mg Pt c (spLaw K Pt) := by
  have e := hfa.symm.trans (PySem.W.mg_of X G a)
  cases e
  exact ⟨PySem.W.fnOf "law" "law" (defArgs (top 45)) (defBody (top 45)) (defScope (top 45)) .none kV dc pm an (.ref c) ct, t0, t1, PySem.W.codeHd_of_K X t2, fun s v => .of_eq rfl, fun base _ _ TB => ok_law T l cc TB kBS⟩
theorem walk {l : PySem.W.OpenLaw} {q : Program} {loose : List Str} {XP : (Str → Option Value) → Heap → Prop} {YP : World → Heap → Prop} {d : DefRec} {K : Params → PySem.W.Frag} (hn : l.most = some 63) (hdf : d.params.defaults = [])
    (hY : ∀ (w : World) (h : Heap), YP w h → (K w.params).In h)
    (F : ∀ (w : World) (mg : Str → Option Value) (fa : Addr) (h : Heap), YP w h → (K w.params).In h → h.Ns mainGlobals mg → mg d.name = some (.ref fa) →
      ∃ c Pt : Addr, LamX.LawAtS' l.prog w (K w.params) (fun _ => L2N.CX l.prog w) 7 fa h mg Pt c (spLaw (K w.params) Pt)) :
    PySem.W.WalkO q loose XP YP l.row.toRowW d [] (fun f vs => PySem.call f vs) :=
  LamX.walk_ofTs (n := 63) (k := 7) (x := "_law_script") (CX := fun w => L2N.CX l.prog w) hn (by decide) hdf ⟨rfl, by decide, by decide⟩ hY (fun w mg fa h Y KX G hmg => by
    obtain ⟨c, Pt, fd, h1, h2, h3, hb, hF⟩ := F w mg fa h Y KX G hmg
    have one : ∀ {R : Addr × Addr → Prop}, R (c, Pt) → ∀ p ∈ [(c, Pt)], R p := fun r p m => by
      cases List.mem_singleton.mp m
      exact r
    exact ⟨fd, [(c, Pt)], spLaw (K w.params) Pt, one h1, one h2, one h3, hb, fun H a ns hl _ tt hS => ⟨a, ns, rfl, hS, hl, fun p m => by
      cases List.mem_singleton.mp m
      exact LamX.TabS.nil (tt _ List.mem_cons_self), fun _ => rfl⟩, fun base b1 b2 tb => hF base b1 b2 (tb _ List.mem_cons_self)⟩)
    fun _ _ _ _ _ z => by
      obtain ⟨_, _, _, _, _, _, _, _, _, _, _, _, z⟩ := z
      exact z
end Lw
open PySem PySem.W PyProof.Rows
set_option maxRecDepth 100000 in
set_option maxHeartbeats 0 in
theorem PySem.Challenge.cw_mingleway_k01_fields_by_their_sizes_holds : PySem.Challenge.rw_mingleway_k01_fields_by_their_sizes.Holds := by
  w_on; o_law; k_head; (case hw => w_witness2)
  k_fill
  refine Lw.walk (l := PySem.Challenge.rw_mingleway_k01_fields_by_their_sizes) rfl rfl (fun w h Y => PySem.W.km_in_of Y) ?F
  case F =>
    intro w mg fa h Y KX G hmg
    refine' ⟨_, _, Lw.fin KX G hmg (Lw.mkT KX G ?z1 ?z2 ?z3 ?z4 ?a6 ?l7 ?c7 ?k7 ?a9 ?l10 ?c10 ?k10 ?a12 ?l13 ?c13 ?k13 ?z14 ?g15 ?k15 ?q15 ?b15 ?t15 ?g16 ?k16 ?q16 ?b16 ?t16 ?g17 ?lt18 ?dlt18 ?g19 ?lt20 ?dlt20 ?g21 ?lt22 ?dlt22 ?lt23 ?dlt23 ?lt24 ?dlt24 ?lt25 ?dlt25 ?lt26 ?dlt26 ?a28 ?l29 ?c29 ?k29 ?g30 ?pg31 ?hd32 ?po33 ?sa34 ?na35 ?na36 ?na37 ?a39 ?i40 ?mk41 ?kc42 ?l43 ?c43 ?k43 ?lt43 ?dt43 ?a45 ?i46 ?l47 ?c47 ?k47 ?a49 ?i50 ?l51 ?c51 ?k51 ?a53 ?i54 ?l55 ?c55 ?k55 ?a57 ?i58 ?l59 ?c59 ?k59 ?a61 ?i62 ?l63 ?c63 ?k63 ?a65 ?i66 ?l67 ?c67 ?k67 ?g68 ?rg68 ?z69 ?z70 ?g71 ?g72 ?g73 ?g74 ?g75 ?g76 ?g77 ?g78 ?g79 ?g80 ?g81 ?g82 ?g83 ?g84 ?g85 ?g86 ?g87 ?g88 ?g89 ?g90 ?g91 ?g92 ?g93 ?g94 ?g95 ?g96 ?a98 ?l99 ?c99 ?k99 ?a101 ?l102 ?c102 ?k102 ?z103 ?z104 ?z105 ?z106 ?z107 ?a109 ?l110 ?c110 ?k110 ?a112 ?l113 ?c113 ?k113 ?a115 ?l116 ?c116 ?k116 ?a118 ?l119 ?c119 ?k119 ?xf120 ?xf121 ?xf122 ?xf123 ?xf124 ?xf125 ?xf126 ?xf127 ?xf128 ?xf129) ?kBS ?lawa ?lawl ?lawc ?lawk ?tab0 ?tab1 ?tab2⟩
    (case z1 => k_is)
    (case z2 => k_is)
    (case z3 => k_is)
    (case z4 => k_is)
    (case a6 => k_is)
    (case l7 => k_is)
    (case c7 => k_is)
    (case k7 => k_is)
    (case a9 => k_is)
    (case l10 => k_is)
    (case c10 => k_is)
    (case k10 => k_is)
    (case a12 => k_is)
    (case l13 => k_is)
    (case c13 => k_is)
    (case k13 => k_is)
    (case z14 => k_is)
    (case g15 => k_is)
    (case k15 => k_is)
    (case q15 => k_exc)
    (case b15 => k_is)
    (case t15 => k_is)
    (case g16 => k_is)
    (case k16 => k_is)
    (case q16 => k_exc)
    (case b16 => k_is)
    (case t16 => k_is)
    (case g17 => k_is)
    (case lt18 => k_is)
    (case dlt18 => exact U.tupO rfl rfl (by decide) (.cons ⟨_, rfl⟩ (.cons ⟨_, rfl⟩ (.cons ⟨_, rfl⟩ (.cons ⟨_, rfl⟩ (.cons ⟨_, rfl⟩ (.cons ⟨_, rfl⟩ (.cons ⟨_, rfl⟩ (.cons ⟨_, rfl⟩ (.cons ⟨_, rfl⟩ (.cons ⟨_, rfl⟩ .nil)))))))))))
    (case g19 => k_is)
    (case lt20 => k_is)
    (case dlt20 => exact U.tupO rfl rfl (by decide) (.cons ⟨_, rfl⟩ (.cons ⟨_, rfl⟩ (.cons ⟨_, rfl⟩ (.cons ⟨_, rfl⟩ (.cons ⟨_, rfl⟩ (.cons ⟨_, rfl⟩ .nil)))))))
    (case g21 => k_is)
    (case lt22 => k_is)
    (case dlt22 => exact ⟨[(4, _, _), (8, _, _), (9, _, _), (16, _, _)], _, ⟨rfl, rfl, rfl⟩, rfl, by decide, (.cons ⟨rfl, rfl⟩ (.cons ⟨rfl, rfl⟩ (.cons ⟨rfl, rfl⟩ (.cons ⟨rfl, rfl⟩ .nil))))⟩)
    (case lt23 => k_is)
    (case dlt23 => exact U.tupO rfl rfl (by decide) (.cons ⟨_, rfl⟩ (.cons ⟨_, rfl⟩ .nil)))
    (case lt24 => k_is)
    (case dlt24 => exact U.tupO rfl rfl (by decide) (.cons ⟨_, rfl⟩ (.cons ⟨_, rfl⟩ (.cons ⟨_, rfl⟩ .nil))))
    (case lt25 => k_is)
    (case dlt25 => exact U.tupO rfl rfl (by decide) (.cons ⟨_, rfl⟩ (.cons ⟨_, rfl⟩ .nil)))
    (case lt26 => k_is)
    (case dlt26 => exact U.tupO rfl rfl (by decide) (.cons ⟨_, rfl⟩ (.cons ⟨_, rfl⟩ (.cons ⟨_, rfl⟩ (.cons ⟨_, rfl⟩ .nil)))))
    (case a28 => k_is)
    (case l29 => k_is)
    (case c29 => k_is)
    (case k29 => k_is)
    (case g30 => k_is)
    (case pg31 => k_is)
    (case hd32 => k_is)
    (case po33 => k_is)
    (case sa34 => k_is)
    (case na35 => k_is)
    (case na36 => k_is)
    (case na37 => k_is)
    (case a39 => k_is)
    (case i40 => k_is)
    (case mk41 => k_is)
    (case kc42 => k_is)
    (case l43 => k_is)
    (case c43 => k_is)
    (case k43 => k_is)
    (case lt43 => k_is)
    (case dt43 => exact U.dfT rfl (.cons ⟨_, rfl⟩ .nil) (by simp))
    (case a45 => k_is)
    (case i46 => k_is)
    (case l47 => k_is)
    (case c47 => k_is)
    (case k47 => k_is)
    (case a49 => k_is)
    (case i50 => k_is)
    (case l51 => k_is)
    (case c51 => k_is)
    (case k51 => k_is)
    (case a53 => k_is)
    (case i54 => k_is)
    (case l55 => k_is)
    (case c55 => k_is)
    (case k55 => k_is)
    (case a57 => k_is)
    (case i58 => k_is)
    (case l59 => k_is)
    (case c59 => k_is)
    (case k59 => k_is)
    (case a61 => k_is)
    (case i62 => k_is)
    (case l63 => k_is)
    (case c63 => k_is)
    (case k63 => k_is)
    (case a65 => k_is)
    (case i66 => k_is)
    (case l67 => k_is)
    (case c67 => k_is)
    (case k67 => k_is)
    (case g68 => k_is)
    (case rg68 => exact ⟨_, rfl⟩)
    (case z69 => k_is)
    (case z70 => k_is)
    (case g71 => k_is)
    (case g72 => k_is)
    (case g73 => k_is)
    (case g74 => k_is)
    (case g75 => k_is)
    (case g76 => k_is)
    (case g77 => k_is)
    (case g78 => k_is)
    (case g79 => k_is)
    (case g80 => k_is)
    (case g81 => k_is)
    (case g82 => k_is)
    (case g83 => k_is)
    (case g84 => k_is)
    (case g85 => k_is)
    (case g86 => k_is)
    (case g87 => k_is)
    (case g88 => k_is)
    (case g89 => k_is)
    (case g90 => k_is)
    (case g91 => k_is)
    (case g92 => k_is)
    (case g93 => k_is)
    (case g94 => k_is)
    (case g95 => k_is)
    (case g96 => k_is)
    (case a98 => k_is)
    (case l99 => k_is)
    (case c99 => k_is)
    (case k99 => k_is)
    (case a101 => k_is)
    (case l102 => k_is)
    (case c102 => k_is)
    (case k102 => k_is)
    (case z103 => k_is)
    (case z104 => k_is)
    (case z105 => k_is)
    (case z106 => k_is)
    (case z107 => k_is)
    (case a109 => k_is)
    (case l110 => k_is)
    (case c110 => k_is)
    (case k110 => k_is)
    (case a112 => k_is)
    (case l113 => k_is)
    (case c113 => k_is)
    (case k113 => k_is)
    (case a115 => k_is)
    (case l116 => k_is)
    (case c116 => k_is)
    (case k116 => k_is)
    (case a118 => k_is)
    (case l119 => k_is)
    (case c119 => k_is)
    (case k119 => k_is)
    (case xf120 => k_is)
    (case xf121 => k_is)
    (case xf122 => k_is)
    (case xf123 => k_is)
    (case xf124 => kernel_rfl)
    (case xf125 => k_is)
    (case xf126 => k_is)
    (case xf127 => k_is)
    (case xf128 => k_is)
    (case xf129 => kernel_rfl)
    (case kBS => exact ⟨true, false, false, false, false, false, false, false, false, false, false, false, false, false, false, false, false, false, false, false, false, false, false, ⟨⟨by k_is, by k_is, by k_is, by k_is, by k_is, by k_is, by k_is, by k_is⟩, by kernel_rfl, by kernel_rfl, by kernel_rfl, by kernel_rfl, by kernel_rfl, by kernel_rfl, by kernel_rfl, by kernel_rfl, by kernel_rfl, by kernel_rfl, by kernel_rfl, by kernel_rfl, by kernel_rfl, by kernel_rfl, by kernel_rfl, by kernel_rfl, by kernel_rfl, by kernel_rfl, by kernel_rfl, by kernel_rfl, by kernel_rfl, by kernel_rfl, by kernel_rfl⟩, ⟨by kernel_rfl, by kernel_rfl, by kernel_rfl, by kernel_rfl, by kernel_rfl, by kernel_rfl⟩, by decide +kernel⟩)
    (case lawa => k_is)
    (case lawl => k_is)
    (case lawc => k_is)
    (case lawk => k_is)
    (case tab0 => exact PySem.W.km_tabs_of Y _ List.mem_cons_self)
    (case tab1 => first | k_is | rfl | decide +kernel)
    (case tab2 => first | k_is | rfl | decide +kernel)

