import PyProof.Rows.All
import Wide.All
import OpenK.AllK
import Wide.FinOn
import HandS.ForMost
import HandS.Evl
import HandS.Wide
import HandS.IsInst
import HandS.Exc
import HandS.Defaults
import PySem.Challenge.RW_blocksearch_k32_ratios_reckoned
set_option Elab.async false
set_option linter.all false
set_option maxRecDepth 100000
set_option maxHeartbeats 4000000
set_option autoImplicit false
/-! The layer of this work: bundles of defs, readings as steps. -/
namespace Bw
open PySem PySem.Spec L2

/-! ### a def that lets nothing out, as its callers want it -/
structure Fn (P : Program) (w : World) (K : PySem.W.Frag) (mg : Str → Option Value) (base : Heap) (x : Str) (k : Nat) (ps : List Str) (sp : Sp) : Prop where
  ex : ∃ (f : Addr) (fd : FuncData), FnOk P w K mg base CX0 k f fd ps sp ∧ mg x = some (.ref f) ∧ PySem.W.keepIn K (.ref f) = true ∧ Binds K fd ps []
section
variable {X : Cx}
theorem pe_fn {x : Str} {k : Nat} {ps : List Str} {sp : Sp} {e : Expr} {es : List Expr} {t : TA} {p pos : Pos} (F : Fn X.prog X.w X.K X.mg X.base x k ps sp) (hr : Room k X.A) (hg : Gl X x) (ha : PA X (e :: es) t)
    (hdb : (x == ("__debug__" : Str)) = false := by decide) (he : starEach (e :: es) X.env = (false, eval e X.env) :: starEach es X.env := by rfl) (hpl : (backTo pos (starEach es X.env)).any (·.1) = false := by rfl) :
    PE X (.Call (.Name x p) (e :: es) [] pos) (tCall sp [] E0 t) := by
  obtain ⟨f, fd, G, hm, hk, hb⟩ := F.ex
  exact pe_call G hr hg hm hk hb .nil pass0 ha hdb he hpl
theorem pe_fn0 {x : Str} {k : Nat} {ps : List Str} {sp : Sp} {p pos : Pos} (F : Fn X.prog X.w X.K X.mg X.base x k ps sp) (hr : Room k X.A) (hg : Gl X x)
    (hdb : (x == ("__debug__" : Str)) = false := by decide) : PE X (.Call (.Name x p) [] [] pos) (tCall sp [] E0 tNil) := by
  obtain ⟨f, fd, G, hm, hk, hb⟩ := F.ex
  exact pe_call0 G hr hg hm hk hb .nil pass0 hdb
end
/-! ### methods and makers as their callers want them -/
structure Me (P : Program) (w : World) (K : PySem.W.Frag) (mg : Str → Option Value) (base : Heap) (C : Addr) (m : Str) (k : Nat) (ps : List Str) (sp : Sp) : Prop where
  ex : ∃ (f : Addr) (fd : FuncData), FnOk P w K mg base CX0 k f fd ps sp ∧ Meth K C m f ∧ Binds K fd ps []
structure Mkr (P : Program) (w : World) (K : PySem.W.Frag) (mg : Str → Option Value) (base : Heap) (x : Str) (C : Addr) (k : Nat) (ps : List Str) (dvs : List V) (sp : Sp) : Prop where
  ex : ∃ (f : Addr) (fd : FuncData) (ds : List Value), Mk K C f ∧ FnOk P w K mg base CX0 k f fd ps sp ∧ mg x = some (.ref C) ∧ Binds K fd ps ds ∧ Vals dvs ds
section
variable {X : Cx}
theorem pe_me {pl : Sem Bool} {C : Addr} {m : Str} {k : Nat} {ps : List Str} {sp : Sp} {o e : Expr} {es : List Expr} {t : TA} {ta : TE} {apos pos : Pos} (he : PE X o ta) (c : Cls X.K C) (M : Me X.prog X.w X.K X.mg X.base C m k ps sp) (hr : Room k X.A) (ha : PA X (e :: es) t)
    (hst : starEach (e :: es) X.env = (false, eval e X.env) :: starEach es X.env := by rfl) (hpl : (backTo pos (starEach es X.env)).any (·.1) = false := by rfl)
    (ht : eval (.Call (.Attribute o m apos) (e :: es) [] pos) X.env = (do
      let ov ← eval o X.env
      standAt apos.atName
      let (f, first) ← holding [ov] (getMethod ov m pl)
      callWith pos f first (backTo pos (starEach (e :: es) X.env)) (backToKw pos (keywordEach [] X.env))) := by rfl) :
    PE X (.Call (.Attribute o m apos) (e :: es) [] pos) (tMeth C m sp [] E0 ta t) := by
  obtain ⟨f, fd, G, hm, hb⟩ := M.ex
  exact pe_meth he c hm G hr hb .nil pass0 ha hst hpl ht
theorem pe_me0 {pl : Sem Bool} {C : Addr} {m : Str} {k : Nat} {ps : List Str} {sp : Sp} {o : Expr} {ta : TE} {apos pos : Pos} (he : PE X o ta) (c : Cls X.K C) (M : Me X.prog X.w X.K X.mg X.base C m k ps sp) (hr : Room k X.A)
    (ht : eval (.Call (.Attribute o m apos) [] [] pos) X.env = (do
      let ov ← eval o X.env
      standAt apos.atName
      let (f, first) ← holding [ov] (getMethod ov m pl)
      callWith pos f first (backTo pos (starEach [] X.env)) (backToKw pos (keywordEach [] X.env))) := by rfl) :
    PE X (.Call (.Attribute o m apos) [] [] pos) (tMeth C m sp [] E0 ta tNil) := by
  obtain ⟨f, fd, G, hm, hb⟩ := M.ex
  exact pe_meth0 he c hm G hr hb .nil pass0 ht
theorem pe_mkr {x : Str} {C : Addr} {k : Nat} {ps : List Str} {dvs : List V} {sp : Sp} {e : Expr} {es : List Expr} {t : TA} {p pos : Pos} (M : Mkr X.prog X.w X.K X.mg X.base x C k ps dvs sp) (hr : Room (k + 1) X.A) (hg : Gl X x) (ha : PA X (e :: es) t)
    (hdb : (x == ("__debug__" : Str)) = false := by decide) (he : starEach (e :: es) X.env = (false, eval e X.env) :: starEach es X.env := by rfl) (hpl : (backTo pos (starEach es X.env)).any (·.1) = false := by rfl) :
    PE X (.Call (.Name x p) (e :: es) [] pos) (tMake C sp dvs E0 t) := by
  obtain ⟨f, fd, ds, M, G, hm, hb, hd⟩ := M.ex
  exact pe_make M G hr hg hm hb hd pass0 ha hdb he hpl
theorem pe_gint {x : Str} {n : Int} {p : Pos} (h : ∃ t, X.mg x = some (.int n t)) (hg : Gl X x) (hd : (x == ("__debug__" : Str)) = false := by decide) : PE X (.Name x p) (tC (.int n)) := by
  obtain ⟨t, h⟩ := h
  exact pe_glob hg h ⟨t, rfl⟩ hd
theorem pe_gstr {x : Str} {z : Str} {p : Pos} (h : ∃ t, X.mg x = some (.str z t)) (hg : Gl X x) (hd : (x == ("__debug__" : Str)) = false := by decide) : PE X (.Name x p) (tC (.str z)) := by
  obtain ⟨t, h⟩ := h
  exact pe_glob hg h ⟨t, rfl⟩ hd
end
section
variable {X : Cx}
/-! ### an attribute as a target -/
def gFld (K : PySem.W.Frag) (to : TE) (f : Str) : TG := fun v σ H Q => to σ H fun x H1 => ∃ a C dx fs, x = .ref a ∧ H1 a = some (.ins C dx fs) ∧ Cls K C ∧ NoAttr K C f ∧ fs.length < 1000 ∧ Q σ (upd H1 a (.ins C dx (putF f v fs)))
theorem pg_fld {o : Expr} {f : Str} {pos : Pos} {to : TE} (ho : PE X o to) : PG X (.Attribute o f pos) (gFld X.K to f) := by
  refine ⟨fun pins s σ H v u Q I r h => ?_⟩
  rw [assign_Attribute]
  refine wpAny_bind (wpAny_holding (thn (ho.run pins s σ H _ I h) fun ov s1 ⟨x, H1, I1, r1, a, C, dx, fs, ex, ea, c, n, l, q1⟩ => ?_))
  subst ex
  obtain rfl : ov = Value.ref a := r1
  refine wpAny_bind (wpAny_standAt (wpAny_bind (wpAny_holding (setattr_ok I1 ea c n l r fun s3 I3 => ?_))))
  exact wpAny_release ⟨σ, _, I3, q1⟩

/-! ### ints of any size -/
def CDivU (_ j : Int) : Prop := j ≠ 0 ∧ j.natAbs.log2 < 9000
theorem op_fdivU : OpR X (binaryOp .FloorDiv) (rI CDivU fun i j => .int (i.fdiv j)) := opI fun i j _ _ _ _ _ hc q =>
  PyProof.Rows.floordiv_int hc.1 q (.inl (PyProof.noPylong_of_log2 hc.2))
def CMulU (i j : Int) : Prop := IntMulOk i j
theorem op_mulU : OpR X (binaryOp .Mult) (rI CMulU fun i j => .int (i * j)) := opI fun _ _ _ _ _ _ _ hc q => PyProof.Rows.mul_int q hc
def CPowU (i j : Int) : Prop := 0 ≤ j ∧ (Builtin.Int.intBits i : Int) * j ≤ 2 ^ 27
theorem op_powU : OpR X (binaryOp .Pow) (rI CPowU fun i j => .int (i ^ j.toNat)) := opI fun _ _ _ _ _ _ _ hc q => PyProof.Rows.pow_int hc.1 hc.2 q
end
theorem bits_le {x : Int} {a : Nat} (h : x.natAbs < 2 ^ a) (h0 : 0 < a) : Builtin.Int.intBits x ≤ a := by
  unfold Builtin.Int.intBits
  split
  · omega
  · exact PySem.Flt.log2_lt_of h0 h
theorem powU {i j : Int} {a : Nat} (h : i.natAbs < 2 ^ a) (h0 : 0 < a) (hj : 0 ≤ j) (hs : (a : Int) * j ≤ 2 ^ 27) : CPowU i j := by
  refine ⟨hj, Int.le_trans (Int.mul_le_mul_of_nonneg_right (Int.ofNat_le.mpr (bits_le h h0)) hj) hs⟩
theorem divU {i j : Int} {b : Nat} (h : j ≠ 0) (hb : j.natAbs < 2 ^ b) (h0 : 0 < b) (h9 : b ≤ 9000) : CDivU i j := ⟨h, Nat.lt_of_lt_of_le (PySem.Flt.log2_lt_of h0 hb) h9⟩

/-! ### named readings of calls -/
section
variable {X : Cx}
theorem callR_imp {f : Value} {r r' : List V → Hp → VK → Prop} (h : CallR X f r) (i : ∀ xs H Q, r' xs H Q → r xs H Q) : CallR X f r' :=
  fun pins s σ H xs us Q I rv q => h pins s σ H xs us Q I rv (i _ _ _ q)
theorem opR_imp {f : Value → Value → Sem Value} {r r' : R2} (h : OpR X f r) (i : ∀ x y H Q, r' x y H Q → r x y H Q) : OpR X f r' :=
  fun pins s σ H x y v u Q I rx ry q => h pins s σ H x y v u Q I rx ry (i _ _ _ _ q)
def rAbs : List V → Hp → VK → Prop := fun xs H Q => ∃ i : Int, xs = [.int i] ∧ Q (.int i.natAbs) H
theorem cl_abs : CallR X (.builtin "abs") rAbs := callR_imp call_abs fun xs H Q ⟨i, e, q⟩ => ⟨i, e, by
  have : (if i < 0 then -i else i) = (i.natAbs : Int) := by split <;> omega
  rw [this]; exact q⟩
def rMaxI : List V → Hp → VK → Prop := fun xs H Q => ∃ i j : Int, xs = [.int i, .int j] ∧ Q (.int (max i j)) H
def rMinI : List V → Hp → VK → Prop := fun xs H Q => ∃ i j : Int, xs = [.int i, .int j] ∧ Q (.int (min i j)) H
theorem cl_max (hc : X.calm = true) : CallR X (.builtin "max") rMaxI := callR_imp (call_max2 hc) fun xs H Q ⟨i, j, e, q⟩ => ⟨i, j, e, by
  have : (if j > i then j else i) = max i j := by split <;> omega
  rw [this]; exact q⟩
theorem cl_min (hc : X.calm = true) : CallR X (.builtin "min") rMinI := callR_imp (call_min2 hc) fun xs H Q ⟨i, j, e, q⟩ => ⟨i, j, e, by
  have : (if j < i then j else i) = min i j := by split <;> omega
  rw [this]; exact q⟩
def rIntOf : List V → Hp → VK → Prop := fun xs H Q => (∃ i, xs = [.int i] ∧ Q (.int i) H) ∨ ∃ k : Bool, xs = [.bl k] ∧ Q (.int (if k then 1 else 0)) H
theorem cl_int : CallR X (.type "int") rIntOf := call_int1
def rLen (K : PySem.W.Frag) : List V → Hp → VK → Prop := fun xs H Q => ∃ x n, xs = [x] ∧ LenV K x H n ∧ Q (.int n) H
theorem cl_len : CallR X (.builtin "len") (rLen X.K) := call_len
def rStrI : List V → Hp → VK → Prop := fun xs H Q => ∃ i : Int, xs = [.int i] ∧ i.natAbs.log2 < 1920 ∧ Q (.str (toString i)) H
theorem cl_str : CallR X (.type "str") rStrI := call_str_int
def rOrd : List V → Hp → VK → Prop := fun xs H Q => ∃ x, xs = [.str x] ∧ x.length = 1 ∧ Q (.int (x.cps.getD 0 0 : Nat)) H
theorem cl_ord : CallR X (.builtin "ord") rOrd := call_ord
def rAddS : R2 := fun x y H Q => ∃ i j, x = .str i ∧ y = .str j ∧ i.length + j.length ≤ sizeLine ∧ Q (.str (i ++ j)) H
theorem op_addS : OpR X (binaryOp .Add) rAddS := op_add_str
def rIs0 : R2 := fun x y H Q => y = .non ∧ Q (.bl (decide (x = .non))) H
def rIsNot0 : R2 := fun x y H Q => y = .non ∧ Q (.bl (!decide (x = .non))) H
theorem op_is0 : OpR X (compareOp .Is) rIs0 := op_isN
theorem op_isnot0 : OpR X (compareOp .IsNot) rIsNot0 := op_notN
end

/-! ### readings, step by step -/
section
variable {σ : St} {H H' : Hp} {i : Nat} {v x y z : V} {ta tb te tv tc : TE} {b : Bool} {K : PySem.W.Frag} {Q : VK} {QB : Bool → Hp → Prop} {D : Ends} {t u : TS} {tt tu : TT} {a : Addr} {r r' : R2}
theorem w_seq (h : t { D with nx := u D } σ H) : tSeq t u D σ H := h
theorem w_next (h : D.nx σ H) : tNext D σ H := h
theorem w_set (h : te σ H fun x H1 => D.nx (σ.set i (some x)) H1) : tAsg te (gName i) D σ H := h
theorem w_asg {g : TG} (h : te σ H fun x H1 => g x σ H1 D.nx) : tAsg te g D σ H := h
theorem w_par {j : Nat} {tA : TA} (h : tA σ H fun vs H1 => ∃ v w, vs = [v, w] ∧ D.nx ((σ.set i (some v)).set j (some w)) H1) : tPar i j tA D σ H := h
theorem w_ret (h : te σ H D.rt) : tRet te D σ H := h
theorem w_retN (h : D.rt .non H) : tRetN D σ H := h
theorem w_drop (h : te σ H fun _ H1 => D.nx σ H1) : tDrop te D σ H := h
theorem w_if (h : tt σ H fun b H1 => if b = true then t D σ H1 else u D σ H1) : tIfS tt t u D σ H := h
theorem w_ifE (h : tt σ H fun b H1 => if b = true then ta σ H1 Q else tb σ H1 Q) : tIf tt ta tb σ H Q := h
theorem w_var (h : σ[i]? = some (some v)) (q : Q v H) : tVar i σ H Q := ⟨v, h, q⟩
theorem w_c (q : Q v H) : tC v σ H Q := q
theorem w_op (h : ta σ H fun x H1 => tb σ H1 fun y H2 => r x y H2 Q) : tOp r ta tb σ H Q := h
theorem w_un {r : V → Hp → VK → Prop} (h : ta σ H fun x H1 => r x H1 Q) : tUn r ta σ H Q := h
theorem w_I0 {g : Int → Int → V} {m n : Int} (q : Q (g m n) H) : rI0 g (.int m) (.int n) H Q := ⟨m, n, rfl, rfl, q⟩
theorem w_I {C : Int → Int → Prop} {g : Int → Int → V} {m n : Int} (hc : C m n) (q : Q (g m n) H) : rI C g (.int m) (.int n) H Q := ⟨m, n, rfl, rfl, hc, q⟩
theorem w_U {g : Int → V} {m : Int} (q : Q (g m) H) : rU g (.int m) H Q := ⟨m, rfl, q⟩
theorem w_eq (h : scal x y = true) (q : Q (.bl (decide (x = y))) H) : rEq x y H Q := ⟨h, q⟩
theorem w_ne (h : scal x y = true) (q : Q (.bl (!decide (x = y))) H) : rNe x y H Q := ⟨h, q⟩
theorem w_is0 (q : Q (.bl (decide (x = .non))) H) : rIs0 x .non H Q := ⟨rfl, q⟩
theorem w_isnot0 (q : Q (.bl (!decide (x = .non))) H) : rIsNot0 x .non H Q := ⟨rfl, q⟩
theorem w_test (h : te σ H fun x H' => ∃ k, x = .bl k ∧ QB k H') : tTest te σ H QB := h
theorem w_tB (h : te σ H fun x H' => ∃ k, x = .bl k ∧ QB k H') : tB te σ H QB := h
theorem w_bl {R : Bool → Prop} (q : R b) : ∃ k, V.bl b = .bl k ∧ R k := ⟨b, rfl, q⟩
theorem w_and (h : tt σ H fun c H1 => if c = true then tu σ H1 QB else QB false H1) : tAnd tt tu σ H QB := h
theorem w_or (h : tt σ H fun c H1 => if c = true then QB true H1 else tu σ H1 QB) : tOr tt tu σ H QB := h
theorem w_not (h : tt σ H fun c H1 => QB (!c) H1) : tNot tt σ H QB := h
theorem w_andV (h : ta σ H fun x H1 => ∃ c, x = .bl c ∧ if c = true then tb σ H1 Q else Q (.bl false) H1) : tAndV ta tb σ H Q := h
theorem w_orV (h : ta σ H fun x H1 => ∃ c, x = .bl c ∧ if c = true then Q (.bl true) H1 else tb σ H1 Q) : tOrV ta tb σ H Q := h
theorem w_notV (h : ta σ H fun x H1 => ∃ c, x = .bl c ∧ Q (.bl (!c)) H1) : tNotV ta σ H Q := h
theorem w_chain (h : ta σ H fun x H1 => tb σ H1 fun y H2 => r x y H2 fun z H3 => ∃ k, z = .bl k ∧ (if k = true then tc σ H3 fun w' H4 => r' y w' H4 Q else Q (.bl false) H3)) : tChain r r' ta tb tc σ H Q := h
theorem w_cons {tr : TA} {QA : List V → Hp → Prop} (h : ta σ H fun x H1 => tr σ H1 fun xs H2 => QA (x :: xs) H2) : tCons ta tr σ H QA := h
theorem w_nil {QA : List V → Hp → Prop} (q : QA [] H) : tNil σ H QA := q
theorem w_call {sp : Sp} {tA : TA} {E : XK} (h : tA σ H fun vs H1 => sp (vs ++ []) H1 Q E) : tCall sp [] E tA σ H Q := h
theorem w_cb {r : List V → Hp → VK → Prop} {tA : TA} (h : tA σ H fun vs H1 => r vs H1 Q) : tCB r tA σ H Q := h

/-! ### new objects: the heap as a letter -/
theorem same_new {p : Addr} {o : HO} (h : H p = none) : Same H (upd H p o) := fun c w e => by
  rw [upd_ne (ne_of_none e h)]
  exact e
theorem w_tup {tA : TA} (h : tA σ H fun xs H1 => xs.length ≤ sizeLine ∧ ∀ p H2, H1 p = none → Same H1 H2 → H2 p = some (.tup xs) → Q (.ref p) H2) (mono : ∀ σ H (Q Q' : List V → Hp → Prop), (∀ xs H, Q xs H → Q' xs H) → tA σ H Q → tA σ H Q') : tTup tA σ H Q :=
  mono _ _ _ _ (fun xs H1 ⟨l, k⟩ => ⟨l, fun p hp => k p _ hp (same_new hp) upd_same⟩) h
theorem w_newT {xs : List V} {H1 : Hp} (hl : xs.length ≤ sizeLine) (k : ∀ p H2, H1 p = none → Same H1 H2 → H2 p = some (.tup xs) → Q (.ref p) H2) : xs.length ≤ sizeLine ∧ ∀ p, H1 p = none → Q (.ref p) (upd H1 p (.tup xs)) :=
  ⟨hl, fun p hp => k p _ hp (same_new hp) upd_same⟩
theorem w_newL {xs : List V} {H1 : Hp} (hl : xs.length ≤ sizeLine) (k : ∀ p H2, H1 p = none → Same H1 H2 → H2 p = some (.lst xs) → Q (.ref p) H2) : xs.length ≤ sizeLine ∧ ∀ p, H1 p = none → Q (.ref p) (upd H1 p (.lst xs)) :=
  ⟨hl, fun p hp => k p _ hp (same_new hp) upd_same⟩
theorem w_tupE {tA : TA} (h : tA σ H fun xs H1 => xs.length ≤ sizeLine ∧ ∀ p, H1 p = none → Q (.ref p) (upd H1 p (.tup xs))) : tTup tA σ H Q := h
theorem w_lstE {tA : TA} (h : tA σ H fun xs H1 => xs.length ≤ sizeLine ∧ ∀ p, H1 p = none → Q (.ref p) (upd H1 p (.lst xs))) : tLst tA σ H Q := h
/-! ### calls of built-ins, subscripts -/
theorem w_abs {m : Int} (q : Q (.int m.natAbs) H) : rAbs [.int m] H Q := ⟨m, rfl, q⟩
theorem w_max {m n : Int} (q : Q (.int (max m n)) H) : rMaxI [.int m, .int n] H Q := ⟨m, n, rfl, q⟩
theorem w_min {m n : Int} (q : Q (.int (min m n)) H) : rMinI [.int m, .int n] H Q := ⟨m, n, rfl, q⟩
theorem w_intI {m : Int} (q : Q (.int m) H) : rIntOf [.int m] H Q := .inl ⟨m, rfl, q⟩
theorem w_intB {k : Bool} (q : Q (.int (if k then 1 else 0)) H) : rIntOf [.bl k] H Q := .inr ⟨k, rfl, q⟩
theorem w_lenL {p : Addr} {xs : List V} (h : SqL K H p xs) (q : Q (.int xs.length) H) : rLen K [.ref p] H Q := ⟨_, _, rfl, .inl ⟨xs, h, rfl⟩, q⟩
theorem w_lenT {p : Addr} {xs : List V} (h : SqT K H p xs) (q : Q (.int xs.length) H) : rLen K [.ref p] H Q := ⟨_, _, rfl, .inr ⟨xs, h, rfl⟩, q⟩
theorem w_lenS {w : Str} (h : w.length ≤ sizeLine) (q : Q (.int w.length) H) : rLen K [.str w] H Q := ⟨_, _, rfl, ⟨h, rfl⟩, q⟩
theorem w_ixL {p : Addr} {xs : List V} {m : Int} (h : SqL K H p xs) (ha : atI xs m = some v) (q : Q v H) : rIxL K (.ref p) (.int m) H Q := ⟨p, xs, m, v, rfl, rfl, h, ha, q⟩
theorem w_ixT {p : Addr} {xs : List V} {m : Int} (h : SqT K H p xs) (ha : atI xs m = some v) (q : Q v H) : rIxT K (.ref p) (.int m) H Q := ⟨p, xs, m, v, rfl, rfl, h, ha, q⟩
theorem w_ixS {w : Str} {m : Int} {c : Nat} (h : w.length ≤ sizeLine) (ha : atI w.cps.toList m = some c) (q : Q (.str ⟨#[c]⟩) H) : rIxS (.str w) (.int m) H Q := ⟨w, m, c, rfl, rfl, h, ha, q⟩
theorem w_isi {c : V} {tv cv : Value} {k : Bool} (hc : ClsV c cv) (ht : TyX K H x tv) (hk : PySem.W.kitOne K tv cv = some k) (q : Q (.bl k) H) : rIsi K [x, c] H Q := ⟨x, c, tv, cv, k, rfl, hc, ht, hk, q⟩
theorem w_gname {Q2 : L2.St → Hp → Prop} (q : Q2 (σ.set i (some v)) H) : gName i v σ H Q2 := q
theorem w_gsub {to ti : TE} {ts : TSet} {Q2 : L2.St → Hp → Prop} (h : to σ H fun o H1 => ti σ H1 fun i H2 => ts o i v H2 fun H3 => Q2 σ H3) : gSub to ti ts v σ H Q2 := h
theorem w_fld {C dx : Addr} {fs : List (Str × V)} {f : Str} {R : V → Prop} (ho : H a = some (.ins C dx fs)) (hc : Cls K C) (hn : NoAttr K C f) (hl : fs.lookup f = some v) (q : R v) : ∃ a' C dx fs v, V.ref a = .ref a' ∧ H a' = some (.ins C dx fs) ∧ Cls K C ∧ NoAttr K C f ∧ fs.lookup f = some v ∧ R v := ⟨a, C, dx, fs, v, rfl, ho, hc, hn, hl, q⟩
theorem w_fldE {f : Str} (h : ta σ H fun x H1 => ∃ a C dx fs v, x = .ref a ∧ H1 a = some (.ins C dx fs) ∧ Cls K C ∧ NoAttr K C f ∧ fs.lookup f = some v ∧ Q v H1) : tFld K ta f σ H Q := h
end

section
variable {σ : L2.St} {H H' : Hp} {i : Nat} {v x y z : V} {ta tb te tv tc : TE} {b : Bool} {K : PySem.W.Frag} {Q : VK} {QB : Bool → Hp → Prop} {D : Ends} {a C dx : Addr} {fs : List (Str × V)} {f m : Str}
theorem w_two {R : V → V → Prop} (q : R x y) : ∃ v w, [x, y] = [v, w] ∧ R v w := ⟨x, y, rfl, q⟩
theorem w_methE {sp : Sp} {dvs : List V} {E : XK} {t : TA} (h : ta σ H fun x H1 => ∃ a dx fs, x = .ref a ∧ H1 a = some (.ins C dx fs) ∧ fs.lookup m = none ∧ t σ H1 fun vs H2 => sp (x :: (vs ++ dvs)) H2 Q E) : tMeth C m sp dvs E ta t σ H Q := h
theorem w_meth {R : Prop} (ho : H a = some (.ins C dx fs)) (hl : fs.lookup m = none) (q : R) : ∃ a' dx fs, V.ref a = .ref a' ∧ H a' = some (.ins C dx fs) ∧ fs.lookup m = none ∧ R := ⟨a, dx, fs, rfl, ho, hl, q⟩
theorem w_makeE {sp : Sp} {dvs : List V} {E : XK} {t : TA} (h : t σ H fun vs H1 => ∀ x dx, H1 x = none → H1 dx = none → dx ≠ x →
  sp (.ref x :: (vs ++ dvs)) (upd (upd H1 dx (.own x)) x (.ins C dx [])) (fun v H2 => v = .non ∧ Q (.ref x) H2) E) : tMake C sp dvs E t σ H Q := h
theorem w_make {sp : Sp} {vs : List V} {E : XK} {H1 : Hp} (k : ∀ r dr H2, H1 r = none → H1 dr = none → Same H1 H2 → H2 r = some (.ins C dr []) → sp (.ref r :: vs) H2 (fun v H3 => v = .non ∧ Q (.ref r) H3) E) :
    ∀ x dx, H1 x = none → H1 dx = none → dx ≠ x → sp (.ref x :: vs) (upd (upd H1 dx (.own x)) x (.ins C dx [])) (fun v H2 => v = .non ∧ Q (.ref x) H2) E := by
  intro r dr nr nd ne
  refine k r dr _ nr nd (fun c o e => ?_) upd_same
  rw [upd_ne (ne_of_none e nr), upd_ne (ne_of_none e nd)]
  exact e
theorem w_isiB {tx tn : String} {k : Bool} (ht : TyX K H x (.type tx)) (hk : kitB tx tn = some k) (q : Q (.bl k) H) : rIsi K [x, .ty tn] H Q := ⟨x, .ty tn, _, _, k, rfl, .ty tn, ht, kit_ty hk, q⟩
theorem w_sfld {D : Ends} (h : tv σ H fun y H1 => ta σ H1 fun x H2 => ∃ a C dx fs, x = .ref a ∧ H2 a = some (.ins C dx fs) ∧ Cls K C ∧ NoAttr K C f ∧ fs.length < 1000 ∧ D.nx σ (upd H2 a (.ins C dx (putF f y fs)))) : sFld K ta tv f D σ H := h
theorem w_gfldE {to : TE} {Q2 : L2.St → Hp → Prop} (h : to σ H fun x H1 => ∃ a C dx fs, x = .ref a ∧ H1 a = some (.ins C dx fs) ∧ Cls K C ∧ NoAttr K C f ∧ fs.length < 1000 ∧ Q2 σ (upd H1 a (.ins C dx (putF f v fs)))) : gFld K to f v σ H Q2 := h
/-- a store to an attribute: the heap as a letter -/
def KB (p : Addr) (H H' : Hp) : Prop := ∀ c o, H c = some o → c ≠ p → H' c = some o
theorem KB.refl {p : Addr} : KB p H H := fun _ _ h _ => h
theorem KB.trans {p : Addr} {H1 H2 : Hp} (e : KB p H H1) (e' : KB p H1 H2) : KB p H H2 := fun c o h n => e' c o (e c o h n) n
theorem KB.of {p : Addr} (e : Same H H') : KB p H H' := fun c o h _ => e c o h
theorem KB.same {p : Addr} {H0 : Hp} (e : KB p H H') (e0 : Same H0 H) (n : H0 p = none) : Same H0 H' := fun c o h => e c o (e0 c o h) (ne_of_none h n)
theorem kb_upd {p : Addr} {o : HO} : KB p H (upd H p o) := fun c u h n => by rw [upd_ne n]; exact h
theorem w_st {R : Addr → Addr → Addr → List (Str × V) → Prop} (ho : H a = some (.ins C dx fs)) (hc : Cls K C) (hn : NoAttr K C f) (hl : fs.length < 1000) (q : R a C dx fs) :
    ∃ a' C dx fs, V.ref a = .ref a' ∧ H a' = some (.ins C dx fs) ∧ Cls K C ∧ NoAttr K C f ∧ fs.length < 1000 ∧ R a' C dx fs := ⟨a, C, dx, fs, rfl, ho, hc, hn, hl, q⟩
theorem w_setL {p : Addr} {xs : List V} {m : Int} {j : Nat} {QH : Hp → Prop} (h : H p = some (.lst xs)) (hj : ixN xs.length m = some j) (k : ∀ H2, KB p H H2 → H2 p = some (.lst (xs.set j v)) → QH H2) : rSetL (.ref p) (.int m) v H QH := ⟨p, xs, m, j, rfl, rfl, h, hj, k _ kb_upd upd_same⟩
theorem w_gtup {n : Nat} {t : TGs} {xs : List V} {Q2 : L2.St → Hp → Prop} (h : SqT K H a xs) (hn : xs.length = n) (q : t xs σ H Q2) : gTup K n t (.ref a) σ H Q2 := ⟨a, xs, rfl, h, hn, q⟩
theorem w_gcons {g : TG} {t : TGs} {r : List V} {Q2 : L2.St → Hp → Prop} (q : g v σ H fun σ' H' => t r σ' H' Q2) : gCons g t (v :: r) σ H Q2 := ⟨v, r, rfl, q⟩
theorem w_gnil {Q2 : L2.St → Hp → Prop} (q : Q2 σ H) : gNil [] σ H Q2 := ⟨rfl, q⟩
theorem lk_hit {r : List (Str × V)} : List.lookup f ((f, x) :: r) = some x := by simp [List.lookup]
theorem lk_miss {g : Str} {r : List (Str × V)} {o : Option V} (h : (f == g) = false) (e : List.lookup f r = o) : List.lookup f ((g, x) :: r) = o := by simp only [List.lookup, h]; exact e
theorem pf_hit {r : List (Str × V)} : putF f v ((f, x) :: r) = (f, v) :: r := by simp [putF]
theorem pf_miss {g : Str} {r : List (Str × V)} (h : (g == f) = false) : putF f v ((g, x) :: r) = (g, x) :: putF f v r := by
  have : ¬ g = f := beq_eq_false_iff_ne.mp h
  simp [putF, this]
theorem pf_nil : putF f v [] = [(f, v)] := rfl
/-- kept at another place -/
theorem kb_at {p q : Addr} {o : HO} (e : KB p H H') (h : H q = some o) (n : q ≠ p) : H' q = some o := e q o h n
end

/-- while, by a word that falls -/
theorem w_while {σ : L2.St} {H : Hp} {D : Ends} {c : TT} {tb : TS} (W : Nat → L2.St → Hp → Prop) (m0 : Nat) (h0 : W m0 σ H)
    (hs : ∀ m σ H, W m σ H → c σ H fun b H1 => if b = true then tb { D with nx := fun σ' H' => ∃ m', m' < m ∧ W m' σ' H', ct := fun σ' H' => ∃ m', m' < m ∧ W m' σ' H', bk := D.nx } σ H1 else D.nx σ H1)
    (mono : ∀ σ H (Q Q' : Bool → Hp → Prop), (∀ b H, Q b H → Q' b H) → c σ H Q → c σ H Q' ) : tWhile c tb D σ H :=
  ⟨W, ⟨m0, h0⟩, fun m σ H w => mono _ _ _ _ (fun b H1 q => by
    cases b with
    | true =>
      rw [if_pos rfl] at q ⊢
      exact ⟨_, fun _ _ h => h, q⟩
    | false =>
      rw [if_neg Bool.false_ne_true] at q ⊢
      exact q) (hs m σ H w)⟩
theorem w_loopT {D : Ends} {W : Nat → L2.St → Hp → Prop} {m : Nat} {tb : TS} {σ : L2.St} {H : Hp} (h : tb { D with nx := fun σ' H' => ∃ m', m' < m ∧ W m' σ' H', ct := fun σ' H' => ∃ m', m' < m ∧ W m' σ' H', bk := D.nx } σ H) :
    ∃ N : L2.St → Hp → Prop, (∀ σ' H', N σ' H' → ∃ m', m' < m ∧ W m' σ' H') ∧ tb { D with nx := N, ct := N, bk := D.nx } σ H := ⟨_, fun _ _ h => h, h⟩

theorem same_gen {H H2 : Hp} {p : Addr} {o : HO} (n : H p = none) (e : upd H p o = H2) : Same H H2 := e ▸ same_new n
theorem at_gen {H H2 : Hp} {p : Addr} {o : HO} (e : upd H p o = H2) : H2 p = some o := e ▸ upd_same
theorem kb_gen {H H2 : Hp} {p : Addr} {o : HO} (e : upd H p o = H2) : KB p H H2 := e ▸ kb_upd
theorem same_make {H H2 : Hp} {x dx : Addr} {o u : HO} (nx : H x = none) (nd : H dx = none) (e : upd (upd H dx u) x o = H2) : Same H H2 := fun c w h => by
  rw [← e, upd_ne (ne_of_none h nx), upd_ne (ne_of_none h nd)]
  exact h
theorem makeG {H1 : Hp} {R : Addr → Addr → Prop} (k : ∀ x dx, H1 x = none → H1 dx = none → dx ≠ x → R x dx) : ∀ x dx, H1 x = none → H1 dx = none → dx ≠ x → R x dx := k
theorem newL {n : Nat} {R : Addr → Prop} {H : Hp} (hl : n ≤ sizeLine) (k : ∀ p, H p = none → R p) : n ≤ sizeLine ∧ ∀ p, H p = none → R p := ⟨hl, k⟩
theorem kit_int_int : kitB "int" "int" = some true := by decide +kernel
theorem kit_int_bool : kitB "int" "bool" = some false := by decide +kernel
theorem kit_int_str : kitB "int" "str" = some false := by decide +kernel
theorem kit_int_list : kitB "int" "list" = some false := by decide +kernel
theorem kit_int_tuple : kitB "int" "tuple" = some false := by decide +kernel
theorem kit_int_dict : kitB "int" "dict" = some false := by decide +kernel
theorem kit_bool_int : kitB "bool" "int" = some true := by decide +kernel
theorem kit_bool_bool : kitB "bool" "bool" = some true := by decide +kernel
theorem kit_bool_str : kitB "bool" "str" = some false := by decide +kernel
theorem kit_bool_list : kitB "bool" "list" = some false := by decide +kernel
theorem kit_bool_tuple : kitB "bool" "tuple" = some false := by decide +kernel
theorem kit_bool_dict : kitB "bool" "dict" = some false := by decide +kernel
theorem kit_str_int : kitB "str" "int" = some false := by decide +kernel
theorem kit_str_bool : kitB "str" "bool" = some false := by decide +kernel
theorem kit_str_str : kitB "str" "str" = some true := by decide +kernel
theorem kit_str_list : kitB "str" "list" = some false := by decide +kernel
theorem kit_str_tuple : kitB "str" "tuple" = some false := by decide +kernel
theorem kit_str_dict : kitB "str" "dict" = some false := by decide +kernel
theorem kit_list_int : kitB "list" "int" = some false := by decide +kernel
theorem kit_list_bool : kitB "list" "bool" = some false := by decide +kernel
theorem kit_list_str : kitB "list" "str" = some false := by decide +kernel
theorem kit_list_list : kitB "list" "list" = some true := by decide +kernel
theorem kit_list_tuple : kitB "list" "tuple" = some false := by decide +kernel
theorem kit_list_dict : kitB "list" "dict" = some false := by decide +kernel
theorem kit_tuple_int : kitB "tuple" "int" = some false := by decide +kernel
theorem kit_tuple_bool : kitB "tuple" "bool" = some false := by decide +kernel
theorem kit_tuple_str : kitB "tuple" "str" = some false := by decide +kernel
theorem kit_tuple_list : kitB "tuple" "list" = some false := by decide +kernel
theorem kit_tuple_tuple : kitB "tuple" "tuple" = some true := by decide +kernel
theorem kit_tuple_dict : kitB "tuple" "dict" = some false := by decide +kernel
theorem kit_NoneType_int : kitB "NoneType" "int" = some false := by decide +kernel
theorem kit_NoneType_bool : kitB "NoneType" "bool" = some false := by decide +kernel
theorem kit_NoneType_str : kitB "NoneType" "str" = some false := by decide +kernel
theorem kit_NoneType_list : kitB "NoneType" "list" = some false := by decide +kernel
theorem kit_NoneType_tuple : kitB "NoneType" "tuple" = some false := by decide +kernel
theorem kit_NoneType_dict : kitB "NoneType" "dict" = some false := by decide +kernel
theorem kit_dict_int : kitB "dict" "int" = some false := by decide +kernel
theorem kit_dict_bool : kitB "dict" "bool" = some false := by decide +kernel
theorem kit_dict_str : kitB "dict" "str" = some false := by decide +kernel
theorem kit_dict_list : kitB "dict" "list" = some false := by decide +kernel
theorem kit_dict_tuple : kitB "dict" "tuple" = some false := by decide +kernel
theorem kit_dict_dict : kitB "dict" "dict" = some true := by decide +kernel

section
variable {σ : L2.St} {H : Hp} {K : PySem.W.Frag} {D : Ends} {a : Addr}
theorem w_forE {wi : TI} {g : TG} {tb : TS} (h : wi σ H fun J H1 => ∃ W : Nat → Nat → L2.St → Hp → Prop, (∃ m, W 0 m σ H1) ∧ ∀ i m σ H, W i m σ H →
  (J.stop i H ∧ D.nx σ H) ∨ (J.go i H ∧ ∃ N : L2.St → Hp → Prop, (∀ σ' H', N σ' H' → ∃ m', m' < m ∧ W (i + 1) m' σ' H') ∧ ∀ x H', J.yld i H x H' → g x σ H' fun σ2 H2 => tb { D with nx := N, ct := N, bk := D.nx } σ2 H2)) : tFor wi g tb D σ H := h
theorem w_iTup {tl : TE} {R : It → Hp → Prop} (h : tl σ H fun x H1 => ∃ a, x = .ref a ∧ (∃ xs, SqT K H1 a xs) ∧ R (Itt K a) H1) : iTup K tl σ H R := h
theorem w_iList {tl : TE} {R : It → Hp → Prop} (h : tl σ H fun x H1 => ∃ a, x = .ref a ∧ (∃ xs, SqL K H1 a xs) ∧ R (Itl K a) H1) : iList K tl σ H R := h
theorem w_iRng1 {ta : TA} {R : It → Hp → Prop} (h : ta σ H fun vs H1 => ∃ j : Int, vs = [.int j] ∧ -(2 ^ 62) ≤ j ∧ j < 2 ^ 62 ∧ R (Itr 0 j.toNat) H1) : iRng1 ta σ H R := h
theorem w_iRng2 {ta : TA} {R : It → Hp → Prop} (h : ta σ H fun vs H1 => ∃ i j : Int, vs = [.int i, .int j] ∧ (-(2 ^ 62) ≤ i ∧ i < 2 ^ 62 ∧ -(2 ^ 62) ≤ j ∧ j < 2 ^ 62) ∧ R (Itr i (j - i).toNat) H1) : iRng2 ta σ H R := h
theorem w_itT {R : Addr → Prop} {xs : List V} (h : SqT K H a xs) (q : R a) : ∃ a', V.ref a = .ref a' ∧ (∃ xs, SqT K H a' xs) ∧ R a' := ⟨a, rfl, ⟨xs, h⟩, q⟩
theorem w_itL {R : Addr → Prop} {xs : List V} (h : SqL K H a xs) (q : R a) : ∃ a', V.ref a = .ref a' ∧ (∃ xs, SqL K H a' xs) ∧ R a' := ⟨a, rfl, ⟨xs, h⟩, q⟩
/-- == of data -/
theorem w_eqD {x y : V} {Q : VK} {d e : PyData} {k : Bool} (hx : Dp K H x d) (hy : Dp K H y e) (sd : SeqAt.shaped d = true) (se : SeqAt.shaped e = true) (hk : PyData.eqv d e = k) (q : Q (.bl k) H) : rEqD K x y H Q := ⟨d, e, hx, hy, sd, se, hk ▸ q⟩
theorem w_neD {x y : V} {Q : VK} {d e : PyData} {k : Bool} (hx : Dp K H x d) (hy : Dp K H y e) (sd : SeqAt.shaped d = true) (se : SeqAt.shaped e = true) (hk : PyData.eqv d e = k) (q : Q (.bl (!k)) H) : rNeD K x y H Q := ⟨d, e, hx, hy, sd, se, hk ▸ q⟩
theorem dp_t2 {p : Addr} {m n : Int} (h : SqT K H p [.int m, .int n]) : Dp K H (.ref p) (.tuple [.int m, .int n]) := .tup h (.cons (.int m) (.cons (.int n) .nil))
end
theorem mulW {i j : Int} {a b : Nat} (ha : i.natAbs < 2 ^ a) (hb : j.natAbs < 2 ^ b) (h0 : 0 < a) (h1 : 0 < b) (h : a + b ≤ 1000000) : CMulU i j := (wide_mul ha hb h0 h1 h).ok
theorem mulL {i j : Int} (h : i.natAbs < 2 ^ 64) : CMulU i j := CMul.ok (.inl ⟨by omega, by omega⟩)
theorem mulR {i j : Int} (h : j.natAbs < 2 ^ 64) : CMulU i j := CMul.ok (.inr ⟨by omega, by omega⟩)
theorem w_pow10_5 {H : Hp} {Q : VK} (q : Q (.int 100000) H) : rI CPowU (fun i j => .int (i ^ j.toNat)) (.int 10) (.int 5) H Q := ⟨10, 5, rfl, rfl, powU (a := 4) (by decide) (by decide) (by decide) (by decide), q⟩
theorem w_pow10_8 {H : Hp} {Q : VK} (q : Q (.int 100000000) H) : rI CPowU (fun i j => .int (i ^ j.toNat)) (.int 10) (.int 8) H Q := ⟨10, 8, rfl, rfl, powU (a := 4) (by decide) (by decide) (by decide) (by decide), q⟩
theorem w_pow10_9 {H : Hp} {Q : VK} (q : Q (.int 1000000000) H) : rI CPowU (fun i j => .int (i ^ j.toNat)) (.int 10) (.int 9) H Q := ⟨10, 9, rfl, rfl, powU (a := 4) (by decide) (by decide) (by decide) (by decide), q⟩
theorem w_pow10_10 {H : Hp} {Q : VK} (q : Q (.int 10000000000) H) : rI CPowU (fun i j => .int (i ^ j.toNat)) (.int 10) (.int 10) H Q := ⟨10, 10, rfl, rfl, powU (a := 4) (by decide) (by decide) (by decide) (by decide), q⟩
theorem w_pow10_11 {H : Hp} {Q : VK} (q : Q (.int 100000000000) H) : rI CPowU (fun i j => .int (i ^ j.toNat)) (.int 10) (.int 11) H Q := ⟨10, 11, rfl, rfl, powU (a := 4) (by decide) (by decide) (by decide) (by decide), q⟩
theorem w_pow10_12 {H : Hp} {Q : VK} (q : Q (.int 1000000000000) H) : rI CPowU (fun i j => .int (i ^ j.toNat)) (.int 10) (.int 12) H Q := ⟨10, 12, rfl, rfl, powU (a := 4) (by decide) (by decide) (by decide) (by decide), q⟩
theorem w_pow10_18 {H : Hp} {Q : VK} (q : Q (.int 1000000000000000000) H) : rI CPowU (fun i j => .int (i ^ j.toNat)) (.int 10) (.int 18) H Q := ⟨10, 18, rfl, rfl, powU (a := 4) (by decide) (by decide) (by decide) (by decide), q⟩
/-! ### small facts -/
theorem sz {n : Nat} (h : n ≤ 100000) : n ≤ sizeLine := Nat.le_trans h (by decide)
theorem w_iteP {c : Bool} {A B : Prop} (h1 : c = true → A) (h2 : c = false → B) : if c = true then A else B := by
  cases c with
  | true => exact iteT (h1 rfl)
  | false => exact iteF (h2 rfl)
theorem w_dec {c A B : Prop} {dc : Decidable c} (h1 : c → A) (h2 : ¬ c → B) : if decide c = true then A else B := by
  by_cases h : c
  · rw [if_pos (decide_eq_true h)]
    exact h1 h
  · rw [if_neg (fun e => h (of_decide_eq_true e))]
    exact h2 h
theorem same_at {H H' : Hp} {a : Addr} {o : HO} (e : Same H H') (h : H a = some o) : H' a = some o := e a o h
theorem same_t {K : PySem.W.Frag} {H H' : Hp} {a : Addr} {xs : List V} (e : Same H H') (h : SqT K H a xs) : SqT K H' a xs := by
  rcases h with (h | ⟨o, h⟩) | h
  · exact .inl (.inl (e _ _ h))
  · exact .inl (.inr ⟨o, e _ _ h⟩)
  · exact .inr h
end Bw

/-! Ratios in lowest terms: plain numbers. -/
namespace Rat0
/-- the lowest terms of t over b -/
def by_ (t b : Int) : Int := if b < 0 then -(Int.gcd t b : Int) else (Int.gcd t b : Int)
def top (t b : Int) : Int := t.fdiv (by_ t b)
def bot (t b : Int) : Int := b.fdiv (by_ t b)
/-- in lowest terms -/
structure Low (t b : Int) : Prop where
  pos : 0 < b
  one : Int.gcd t b = 1
theorem by_ne {t b : Int} (h : b ≠ 0) : by_ t b ≠ 0 := by
  have g := Int.gcd_pos_of_ne_zero_right t h
  unfold by_
  split <;> omega
theorem by_dvd_left (t b : Int) : by_ t b ∣ t := by
  unfold by_
  split
  · exact Int.neg_dvd.mpr (Int.gcd_dvd_left t b)
  · exact Int.gcd_dvd_left t b
theorem by_dvd_right (t b : Int) : by_ t b ∣ b := by
  unfold by_
  split
  · exact Int.neg_dvd.mpr (Int.gcd_dvd_right t b)
  · exact Int.gcd_dvd_right t b
theorem by_abs (t b : Int) : (by_ t b).natAbs = Int.gcd t b := by
  unfold by_
  split <;> simp
theorem top_le (t b : Int) : (top t b).natAbs ≤ t.natAbs := by
  unfold top
  rw [Int.fdiv_eq_ediv_of_dvd (by_dvd_left t b), Int.natAbs_ediv_of_dvd (by_dvd_left t b)]
  exact Nat.div_le_self _ _
theorem bot_le (t b : Int) : (bot t b).natAbs ≤ b.natAbs := by
  unfold bot
  rw [Int.fdiv_eq_ediv_of_dvd (by_dvd_right t b), Int.natAbs_ediv_of_dvd (by_dvd_right t b)]
  exact Nat.div_le_self _ _
theorem by_le {t b : Int} (h : b ≠ 0) : (by_ t b).natAbs ≤ b.natAbs := by
  rw [by_abs]
  exact Nat.le_of_dvd (by omega) (Int.gcd_dvd_natAbs_right t b)
theorem bot_pos {t b : Int} (h : b ≠ 0) : 0 < bot t b := by
  have g := Int.gcd_pos_of_ne_zero_right t h
  unfold bot
  rw [Int.fdiv_eq_ediv_of_dvd (by_dvd_right t b)]
  obtain ⟨c, e⟩ := by_dvd_right t b
  have n := by_ne (t := t) h
  have e2 : b / by_ t b = c := by
    exact Int.ediv_eq_of_eq_mul_right n e
  rw [e2]
  by_cases hb : b < 0
  · have eb : by_ t b = -(Int.gcd t b : Int) := if_pos hb
    rw [eb] at e
    have : ¬ c ≤ 0 := fun hc => by
      have h1 : (0 : Int) ≤ -(Int.gcd t b : Int) * c := by
        rw [Int.neg_mul, ← Int.mul_neg]
        exact Int.mul_nonneg (by omega) (by omega)
      omega
    omega
  · have eb : by_ t b = (Int.gcd t b : Int) := if_neg hb
    rw [eb] at e
    have : ¬ c ≤ 0 := fun hc => by
      have h1 : (Int.gcd t b : Int) * c ≤ 0 := Int.mul_nonpos_of_nonneg_of_nonpos (by omega) hc
      omega
    omega
theorem low_of {t b : Int} (h : b ≠ 0) : Low (top t b) (bot t b) := by
  refine ⟨bot_pos h, ?_⟩
  have g := Int.gcd_pos_of_ne_zero_right t h
  have k := Int.gcd_ediv_gcd_ediv_gcd g
  unfold top bot
  rw [Int.fdiv_eq_ediv_of_dvd (by_dvd_left t b), Int.fdiv_eq_ediv_of_dvd (by_dvd_right t b)]
  unfold by_
  split
  · rw [Int.ediv_neg, Int.ediv_neg, Int.neg_gcd, Int.gcd_neg]
    exact k
  · exact k
theorem Low.top {t b : Int} (h : Low t b) : top t b = t := by
  unfold Rat0.top by_
  rw [if_neg (by have := h.pos; omega), h.one]
  exact Int.fdiv_one t
theorem Low.bot {t b : Int} (h : Low t b) : bot t b = b := by
  unfold Rat0.bot by_
  rw [if_neg (by have := h.pos; omega), h.one]
  exact Int.fdiv_one b
theorem Low.neg {t b : Int} (h : Low t b) : Low (-t) b := ⟨h.pos, by rw [Int.neg_gcd]; exact h.one⟩
/-- one turn of the common part's loop -/
theorem gcd_turn (a b : Int) (ha : 0 ≤ a) (hb : 0 < b) : Int.gcd b (a % b) = Int.gcd a b := by
  obtain ⟨m, rfl⟩ := Int.eq_ofNat_of_zero_le ha
  obtain ⟨n, rfl⟩ := Int.eq_ofNat_of_zero_le (Int.le_of_lt hb)
  show Nat.gcd n (m % n) = Nat.gcd m n
  rw [Nat.gcd_comm m n, Nat.gcd_rec n m, Nat.gcd_comm]
theorem add_lt {i j : Int} {a : Nat} (ha : i.natAbs < 2 ^ a) (hb : j.natAbs < 2 ^ a) : (i + j).natAbs < 2 ^ (a + 1) := by
  rw [Nat.pow_succ]
  omega
theorem up_lt {i : Int} {a b : Nat} (ha : i.natAbs < 2 ^ a) (h : a ≤ b) : i.natAbs < 2 ^ b := Nat.lt_of_lt_of_le ha (Nat.pow_le_pow_right (by decide) h)
end Rat0

open PySem PySem.Spec L2 Bw
local macro_rules | `(tactic| wtm_at "look") => `(tactic| first | assumption | with_reducible exact upd_same | ((with_reducible refine' same_at ?ws ?wt); (case ws => assumption); (case wt => wtm_at "look")) | ((with_reducible refine' kb_at ?ws ?wt ?wn); (case ws => assumption); (case wt => wtm_at "look"); (case wn => wtm_at "ne")))
local macro_rules | `(tactic| wtm_at "ne") => `(tactic| first | assumption | ((with_reducible refine Ne.symm ?ws); (case ws => assumption)) | exact ne_of_none (by wtm_at "look") (by assumption) | exact (ne_of_none (by wtm_at "look") (by assumption)).symm)
local macro_rules | `(tactic| wtm_at "seq") => `(tactic| first | assumption | ((with_reducible refine' SqL.of ?ws); (case ws => wtm_at "look")) | ((with_reducible refine' SqT.of ?ws); (case ws => wtm_at "look")) | ((with_reducible refine' Same.seq ?ws ?wt); (case ws => assumption); (case wt => wtm_at "seq")) | ((with_reducible refine' same_t ?ws ?wt); (case ws => assumption); (case wt => wtm_at "seq")))
local macro_rules | `(tactic| wtm_at "ix") => `(tactic| first | assumption | exact atI_nat (j := 0) rfl | exact atI_nat (j := 1) rfl | exact atI_nat (j := 2) rfl | exact atI_nat (j := 3) rfl | exact atI_nat (j := 4) rfl)
local macro_rules | `(tactic| wtm_at "len") => `(tactic| first | (refine sz ?_; simp only [List.length_cons, List.length_nil]; omega) | (refine sz ?_; omega))
local macro_rules | `(tactic| wtm_at "fld") => `(tactic| first | assumption | exact lk_hit | exact lk_miss (by decide +kernel) (by wtm_at "fld") | rfl)
local macro_rules | `(tactic| wtm_at "tyx") => `(tactic| first | assumption | exact .base (.int _) | exact .base (.bl _) | exact .base (.str _) | exact .base .non | exact .base (.lst (by wtm_at "look")) | exact .base (.tup (by wtm_at "look")))
local macro_rules | `(tactic| wtm_at "ixn") => `(tactic| first | assumption | exact Evl.ixN_nat (j := 0) (by simp) | exact Evl.ixN_nat (j := 1) (by simp) | exact Evl.ixN_nat (j := 2) (by simp) | rfl)
local macro_rules | `(tactic| wtm_at "cond") => `(tactic| first | assumption | (show (0 : Int) < _; omega) | exact mulL (by omega) | exact mulR (by omega) | exact divU (b := 64) (by omega) (by omega) (by decide) (by decide) | exact powU (a := 200) (by omega) (by decide) (by decide) (by decide))
local macro_rules | `(tactic| wtm_at "new") => `(tactic| (intro pN nN; generalize eN : upd _ pN _ = HN; have sN := same_gen nN eN; have hN := at_gen eN; clear eN))
local macro_rules | `(tactic| wtm_at "mut") => `(tactic| (generalize eM : upd _ _ _ = HM; have kM := kb_gen eM; have hM := at_gen eM; clear eM; (repeat (first | rw [pf_hit] at hM | rw [pf_nil] at hM | ((rw [pf_miss] at hM); rotate_left; decide +kernel)))))
local macro_rules | `(tactic| wtm_at "make") => `(tactic| (intro pR dR nR ndR neR; generalize eR : upd (upd _ dR _) pR _ = HR; have sR := same_make nR ndR eR; have hR := at_gen eR; clear eR neR))
local macro_rules | `(tactic| wtm_at "shp") => `(tactic| simp [SeqAt.shaped, PyData.canLay0, PyData.canLayAll0, PyData.depth, PyData.depthAll])
local macro_rules | `(tactic| wtm_at "kit") => `(tactic| first | exact kit_int_int | exact kit_int_bool | exact kit_int_str | exact kit_int_list | exact kit_int_tuple | exact kit_int_dict | exact kit_bool_int | exact kit_bool_bool | exact kit_bool_str | exact kit_bool_list | exact kit_bool_tuple | exact kit_bool_dict | exact kit_str_int | exact kit_str_bool | exact kit_str_str | exact kit_str_list | exact kit_str_tuple | exact kit_str_dict | exact kit_list_int | exact kit_list_bool | exact kit_list_str | exact kit_list_list | exact kit_list_tuple | exact kit_list_dict | exact kit_tuple_int | exact kit_tuple_bool | exact kit_tuple_str | exact kit_tuple_list | exact kit_tuple_tuple | exact kit_tuple_dict | exact kit_NoneType_int | exact kit_NoneType_bool | exact kit_NoneType_str | exact kit_NoneType_list | exact kit_NoneType_tuple | exact kit_NoneType_dict | exact kit_dict_int | exact kit_dict_bool | exact kit_dict_str | exact kit_dict_list | exact kit_dict_tuple | exact kit_dict_dict)
local macro_rules | `(tactic| wtm_at "w1") => `(tactic| first
  | with_reducible refine w_seq ?_
  | with_reducible refine w_next ?_
  | with_reducible refine w_set ?_
  | with_reducible refine w_asg ?_
  | with_reducible refine w_par ?_
  | with_reducible refine w_ret ?_
  | with_reducible refine w_drop ?_
  | with_reducible refine w_if ?_
  | with_reducible refine w_ifE ?_
  | refine w_var rfl ?_
  | with_reducible refine w_c ?_
  | with_reducible refine w_op ?_
  | with_reducible refine w_un ?_
  | with_reducible refine w_I0 ?_
  | with_reducible refine w_U ?_
  | with_reducible refine w_pow10_5 ?_
  | with_reducible refine w_pow10_8 ?_
  | with_reducible refine w_pow10_9 ?_
  | with_reducible refine w_pow10_10 ?_
  | with_reducible refine w_pow10_11 ?_
  | with_reducible refine w_pow10_12 ?_
  | with_reducible refine w_pow10_18 ?_
  | ((with_reducible refine w_I ?wc ?_); (case' wc => try wtm_at "cond"))
  | ((with_reducible refine' w_setL ?wh ?wj ?_); (case wh => wtm_at "look"); (case wj => wtm_at "ixn"); intro hS kS eS; (try dsimp only [List.set_cons_zero, List.set_cons_succ] at eS))
  | ((with_reducible refine w_eq ?wh ?_); (case wh => rfl))
  | ((with_reducible refine w_ne ?wh ?_); (case wh => rfl))
  | with_reducible refine w_is0 ?_
  | with_reducible refine w_isnot0 ?_
  | with_reducible refine w_test ?_
  | with_reducible refine w_tB ?_
  | with_reducible refine w_bl ?_
  | with_reducible refine w_and ?_
  | with_reducible refine w_or ?_
  | with_reducible refine w_not ?_
  | with_reducible refine w_andV ?_
  | with_reducible refine w_orV ?_
  | with_reducible refine w_notV ?_
  | with_reducible refine w_chain ?_
  | with_reducible refine w_cons ?_
  | with_reducible refine w_nil ?_
  | with_reducible refine w_call ?_
  | with_reducible refine w_cb ?_
  | with_reducible refine w_tupE ?_
  | with_reducible refine w_lstE ?_
  | with_reducible refine w_abs ?_
  | with_reducible refine w_max ?_
  | with_reducible refine w_min ?_
  | with_reducible refine w_intI ?_
  | with_reducible refine w_intB ?_
  | ((with_reducible refine' w_lenL ?wh ?_); (case wh => wtm_at "seq"))
  | ((with_reducible refine' w_ixL ?wh ?wa ?_); (case wh => wtm_at "seq"); (case wa => wtm_at "ix"))
  | ((with_reducible refine' w_ixT ?wh ?wa ?_); (case wh => wtm_at "seq"); (case wa => wtm_at "ix"))
  | with_reducible refine w_gname ?_
  | with_reducible refine w_gsub ?_
  | with_reducible refine w_fldE ?_
  | ((with_reducible refine' w_fld ?wh ?wc ?wn ?wl ?_); (case wh => wtm_at "look"); (case wc => assumption); (case wn => assumption); (case wl => wtm_at "fld"))
  | with_reducible refine w_two ?_
  | with_reducible refine w_forE ?_
  | with_reducible refine w_iTup ?_
  | with_reducible refine w_iList ?_
  | with_reducible refine w_iRng1 ?_
  | with_reducible refine w_iRng2 ?_
  | ((with_reducible refine' w_itT ?wh ?_); (case wh => wtm_at "seq"))
  | ((with_reducible refine' w_itL ?wh ?_); (case wh => wtm_at "seq"))
  | with_reducible refine w_methE ?_
  | ((with_reducible refine' w_meth ?wh ?wl ?_); (case wh => wtm_at "look"); (case wl => wtm_at "fld"))
  | with_reducible refine w_makeE ?_
  | ((with_reducible refine makeG ?_); wtm_at "make")
  | ((with_reducible refine' w_isiB ?wt ?wk ?_); (case wt => wtm_at "tyx"); (case wk => wtm_at "kit"))
  | with_reducible refine w_sfld ?_
  | with_reducible refine w_gfldE ?_
  | ((with_reducible refine' w_st ?wh ?wc ?wn ?wl ?_); (case wh => wtm_at "look"); (case wc => assumption); (case wn => assumption); (case wl => (simp only [List.length_cons, List.length_nil]; omega)); wtm_at "mut")
  | ((with_reducible refine' w_gtup ?wh ?wn ?_); (case wh => wtm_at "seq"); (case wn => rfl))
  | with_reducible refine w_gcons ?_
  | with_reducible refine w_gnil ?_
  | with_reducible refine iteT ?_
  | with_reducible refine iteF ?_
  | refine iteT ?_
  | refine iteF ?_
  | ((with_reducible refine newL ?wl ?_); (case wl => wtm_at "len"); wtm_at "new"))
local macro_rules | `(tactic| wtm_at "w0") => `(tactic| dsimp only [cxOf, Cx.nox, Cx.wish, L2.start, List.map_cons, List.map_nil, List.length_cons, List.length_nil, List.cons_append, List.nil_append, List.replicate, Nat.reduceAdd, Nat.reduceSub])
local macro_rules | `(tactic| wtm_at "wp") => `(tactic| repeat (wtm_at "w1"))

namespace K32
def topS (i : Nat) : Stmt := PySem.Challenge.pw_blocksearch_k32_ratios_reckoned.main.body.getD i (.Pass ⟨0, 0, 0, 0⟩)
/-! ### the text -/
abbrev s_is_figured : Stmt := topS 7
theorem sc_is_figured : FnScope ["thing"] ["thing"] (defScope s_is_figured) := ⟨rfl, rfl, rfl, by decide +kernel, rfl, by decide +kernel, by decide +kernel⟩
abbrev s_common_part : Stmt := topS 8
theorem sc_common_part : FnScope ["one", "other"] ["one", "other"] (defScope s_common_part) := ⟨rfl, rfl, rfl, by decide +kernel, rfl, by decide +kernel, by decide +kernel⟩
abbrev s_Ratio___init__ : Stmt := inClass (topS 9) 0
theorem sc_Ratio___init__ : FnScope ["self", "top", "bottom", "e"] ["self", "top", "bottom"] (defScope s_Ratio___init__) := ⟨rfl, rfl, rfl, by decide +kernel, rfl, by decide +kernel, by decide +kernel⟩
abbrev s_Ratio_set_lowest : Stmt := inClass (topS 9) 1
theorem sc_Ratio_set_lowest : FnScope ["self", "top", "bottom", "by"] ["self", "top", "bottom"] (defScope s_Ratio_set_lowest) := ⟨rfl, rfl, rfl, by decide +kernel, rfl, by decide +kernel, by decide +kernel⟩
abbrev s_Ratio_plus : Stmt := inClass (topS 9) 5
theorem sc_Ratio_plus : FnScope ["self", "other"] ["self", "other"] (defScope s_Ratio_plus) := ⟨rfl, rfl, rfl, by decide +kernel, rfl, by decide +kernel, by decide +kernel⟩
abbrev s_Ratio_times : Stmt := inClass (topS 9) 6
theorem sc_Ratio_times : FnScope ["self", "other"] ["self", "other"] (defScope s_Ratio_times) := ⟨rfl, rfl, rfl, by decide +kernel, rfl, by decide +kernel, by decide +kernel⟩
abbrev s_Ratio_is_less : Stmt := inClass (topS 9) 7
theorem sc_Ratio_is_less : FnScope ["self", "other"] ["self", "other"] (defScope s_Ratio_is_less) := ⟨rfl, rfl, rfl, by decide +kernel, rfl, by decide +kernel, by decide +kernel⟩
abbrev s_made_of : Stmt := topS 10
theorem sc_made_of : FnScope ["top", "bottom", "made"] ["top", "bottom"] (defScope s_made_of) := ⟨rfl, rfl, rfl, by decide +kernel, rfl, by decide +kernel, by decide +kernel⟩
abbrev s_law_purse : Stmt := topS 12
theorem sc_law_purse : FnScope ["_law_script", "_law_at", "_law_cell", "_law_great"] ["_law_script", "_law_at"] (defScope s_law_purse) := ⟨rfl, rfl, rfl, by decide +kernel, rfl, by decide +kernel, by decide +kernel⟩
abbrev s_law_take : Stmt := topS 13
theorem sc_law_take : FnScope ["_law_purse_here", "_law_many", "_law_digit", "_law_one"] ["_law_purse_here", "_law_many"] (defScope s_law_take) := ⟨rfl, rfl, rfl, by decide +kernel, rfl, by decide +kernel, by decide +kernel⟩
abbrev s_law_low : Stmt := topS 14
theorem sc_law_low : FnScope ["_law_upper", "_law_lower", "_law_one", "_law_other"] ["_law_upper", "_law_lower"] (defScope s_law_low) := ⟨rfl, rfl, rfl, by decide +kernel, rfl, by decide +kernel, by decide +kernel⟩
abbrev s_law_plus : Stmt := topS 15
theorem sc_law_plus : FnScope ["_law_one", "_law_other"] ["_law_one", "_law_other"] (defScope s_law_plus) := ⟨rfl, rfl, rfl, by decide +kernel, rfl, by decide +kernel, by decide +kernel⟩
abbrev s_law_less : Stmt := topS 16
theorem sc_law_less : FnScope ["_law_one", "_law_other"] ["_law_one", "_law_other"] (defScope s_law_less) := ⟨rfl, rfl, rfl, by decide +kernel, rfl, by decide +kernel, by decide +kernel⟩
abbrev s_law_is_ratio : Stmt := topS 17
theorem sc_law_is_ratio : FnScope ["_law_told", "_law_due", "_law_number"] ["_law_told", "_law_due"] (defScope s_law_is_ratio) := ⟨rfl, rfl, rfl, by decide +kernel, rfl, by decide +kernel, by decide +kernel⟩
abbrev s_law_drawn_ratio : Stmt := topS 18
theorem sc_law_drawn_ratio : FnScope ["_law_purse_here", "_law_top", "_law_bottom"] ["_law_purse_here"] (defScope s_law_drawn_ratio) := ⟨rfl, rfl, rfl, by decide +kernel, rfl, by decide +kernel, by decide +kernel⟩
abbrev s_law_far : Stmt := topS 19
theorem sc_law_far : FnScope ["_law_purse_here", "_law_small", "_law_sign", "_law_got", "_law_nth"] ["_law_purse_here"] (defScope s_law_far) := ⟨rfl, rfl, rfl, by decide +kernel, rfl, by decide +kernel, by decide +kernel⟩
abbrev s_law_is_truth : Stmt := topS 20
theorem sc_law_is_truth : FnScope ["_law_told", "_law_due"] ["_law_told", "_law_due"] (defScope s_law_is_truth) := ⟨rfl, rfl, rfl, by decide +kernel, rfl, by decide +kernel, by decide +kernel⟩
abbrev s_law_right : Stmt := topS 21
theorem sc_law_right : FnScope ["_law_one", "_law_other", "_law_mine", "_law_yours", "_law_due", "_law_told", "_law_further"] ["_law_one", "_law_other"] (defScope s_law_right) := ⟨rfl, rfl, rfl, by decide +kernel, rfl, by decide +kernel, by decide +kernel⟩
abbrev s_law : Stmt := topS 22
theorem sc_law : FnScope ["_law_script", "_law_at", "_law_purse_here", "_law_sort", "_law_one", "_law_other"] ["_law_script"] (defScope s_law) := ⟨rfl, rfl, rfl, by decide +kernel, rfl, by decide +kernel, by decide +kernel⟩
structure Txt (K : PySem.W.Frag) (mg : Str → Option Value) (C : Addr) : Prop where
  cl_Ratio : Cls K C
  na_top : NoAttr K C "top"
  na_bottom : NoAttr K C "bottom"
  c_FARTHEST : ∃ t, mg "FARTHEST" = some (.int (10 ^ 300) t)
  n_abs : mg "abs" = none
  n_int : mg "int" = none
  n_bool : mg "bool" = none
  n_isinstance : mg "isinstance" = none
  n_len : mg "len" = none
  n_max : mg "max" = none
  n_min : mg "min" = none
  n_range : mg "range" = none
section
variable {P : Program} {w : World} {K : PySem.W.Frag} {mg : Str → Option Value} {base : Heap} {C : Addr}
/-! ### the program -/
def spGcd : Sp := fun vs H Q _ => ∃ a b : Int, vs = [.int a, .int b] ∧ Q (.int (Int.gcd a b)) H
theorem ok_common {f : Addr} {fd : FuncData} (F : Fun K "common_part" "common_part" s_common_part f fd) (T : Txt K mg C) : FnOk P w K mg base CX0 1 f fd ["one", "other"] spGcd := by
  refine F.ok sc_common_part (fun vs H Q E h => ?_) (fun cdv A outer s H vs Q E hr h => ?_)
  · obtain ⟨a, b, rfl, _⟩ := h
    rfl
  · obtain ⟨a, b, rfl, k⟩ := h
    refine ⟨_, (pss_cons (ps_par (i := 0) (j := 1) (by rfl) sc_common_part.nd rfl rfl (by decide) rfl rfl (pa_cons (pe_callB cl_abs (by rfl) T.n_abs PyProof.Rows.boot_abs (pa_cons (pv 0) pa_nil)) (pa_cons (pe_callB cl_abs (by rfl) T.n_abs PyProof.Rows.boot_abs (pa_cons (pv 1) pa_nil)) pa_nil)) (by rfl))
 (pss_cons (ps_while PassesOwn.never (pt_cmpR op_ne (pv 1) pe_int (nomark _))
 (pss_one (ps_par (i := 0) (j := 1) (by rfl) sc_common_part.nd rfl rfl (by decide) rfl rfl (pa_cons (pv 1) (pa_cons (pe_op op_mod (pv 0) (pv 1)) pa_nil)) (by rfl))))
 (pss_one (ps_ret (pv 0))))), ?_⟩
    wtm_at "w0"
    wtm_at "wp"
    refine ⟨fun m σ H' => H' = H ∧ ∃ x y : Nat, σ = [some (.int x), some (.int y)] ∧ Nat.gcd x y = Int.gcd a b ∧ y = m, ⟨b.natAbs, rfl, a.natAbs, b.natAbs, rfl, rfl, rfl⟩, ?_⟩
    rintro m σ H' ⟨rfl, x, y, rfl, e, rfl⟩
    wtm_at "wp"
    cases y with
    | zero =>
      refine iteF ?_
      wtm_at "wp"
      rw [Nat.gcd_zero_right] at e
      rw [← e] at k
      exact k
    | succ y =>
      refine iteT ?_
      refine w_loopT ?_
      wtm_at "wp"
      refine ⟨(x % (y + 1)), Nat.mod_lt _ (Nat.succ_pos _), rfl, y + 1, x % (y + 1), rfl, ?_, rfl⟩
      rw [← e, Nat.gcd_comm x, Nat.gcd_rec (y + 1) x, Nat.gcd_comm]

def spFig : Sp := fun vs H Q _ => ∃ a : Int, vs = [.int a] ∧ a.natAbs < 10 ^ 300 ∧ Q (.bl true) H
theorem ok_fig {f : Addr} {fd : FuncData} (F : Fun K "is_figured" "is_figured" s_is_figured f fd) (T : Txt K mg C) : FnOk P w K mg base CX0 1 f fd ["thing"] spFig := by
  refine F.ok sc_is_figured (fun vs H Q E h => ?_) (fun cdv A outer s H vs Q E hr h => ?_)
  · obtain ⟨a, rfl, _⟩ := h
    rfl
  · obtain ⟨a, rfl, ha, k⟩ := h
    refine ⟨_, (pss_one (ps_ret (pe_and (pe_callB call_isi (by rfl) T.n_isinstance PyProof.Rows.boot_isinstance (pa_cons (pv 0) (pa_cons (pe_bltn (v := .ty "int") (by rfl) T.n_int PyProof.Rows.boot_int rfl) pa_nil))) (pe_and (pe_not (pe_callB call_isi (by rfl) T.n_isinstance PyProof.Rows.boot_isinstance (pa_cons (pv 0) (pa_cons (pe_bltn (v := .ty "bool") (by rfl) T.n_bool PyProof.Rows.boot_bool rfl) pa_nil)))) (pe_one (pe_chain op_lt op_lt (pe_un un_neg (pe_gint T.c_FARTHEST rfl)) (pv 0) (pe_gint T.c_FARTHEST rfl))))))), ?_⟩
    wtm_at "w0"
    wtm_at "wp"
    have e : ((10 : Nat) ^ 300 : Nat) = ((10 : Int) ^ 300) := rfl
    generalize (10 : Int) ^ 300 = z at *
    generalize (10 : Nat) ^ 300 = y at *
    refine w_dec (fun _ => ?_) (fun n => absurd (by omega) n)
    wtm_at "wp"
    rw [decide_eq_true (show a < z by omega)]
    exact k
/-- a ratio at r -/
def RAt (C : Addr) (H : Hp) (r : Addr) (t b : Int) : Prop := ∃ dx, H r = some (.ins C dx [("top", .int t), ("bottom", .int b)])
theorem RAt.same {H H' : Hp} {r : Addr} {t b : Int} (h : RAt C H r t b) (e : Same H H') : RAt C H' r t b := by
  obtain ⟨dx, h⟩ := h
  exact ⟨dx, e _ _ h⟩
theorem divBy {i t b : Int} (h : b ≠ 0) (hb : b.natAbs < 2 ^ 2000) : CDivU i (Rat0.by_ t b) :=
  divU (b := 2000) (Rat0.by_ne h) (Nat.lt_of_le_of_lt (Rat0.by_le h) hb) (by decide) (by decide)
def spSet (C : Addr) : Sp := fun vs H Q _ => ∃ (r dx : Addr) (t b : Int) (x y : V), vs = [.ref r, .int t, .int b] ∧ H r = some (.ins C dx [("top", x), ("bottom", y)]) ∧ b ≠ 0 ∧ b.natAbs < 2 ^ 2000 ∧
  ∀ H', KB r H H' → H' r = some (.ins C dx [("top", .int (Rat0.top t b)), ("bottom", .int (Rat0.bot t b))]) → Q .non H'
theorem ok_set {f : Addr} {fd : FuncData} (F : Fun K "set_lowest" "Ratio.set_lowest" s_Ratio_set_lowest f fd) (T : Txt K mg C) (f_common_part : Fn P w K mg base "common_part" 1 ["one", "other"] spGcd) : FnOk P w K mg base CX0 2 f fd ["self", "top", "bottom"] (spSet C) := by
  have hc := T.cl_Ratio
  have h1 := T.na_top
  have h2 := T.na_bottom
  refine F.ok sc_Ratio_set_lowest (fun vs H Q E h => ?_) (fun cdv A outer s H vs Q E hr h => ?_)
  · obtain ⟨r, dx, t, b, x, y, rfl, _⟩ := h
    rfl
  · obtain ⟨r, dx, t, b, x, y, rfl, ho, hb, hb2, k⟩ := h
    refine ⟨_, (pss_cons (ps_set (i := 3) sc_Ratio_set_lowest.nd rfl (.inl rfl) (pe_fn f_common_part (hr.mono (by decide)) rfl (pa_cons (pv 1) (pa_cons (pv 2) pa_nil))))
 (pss_cons (ps_if (pt_cmpR op_lt (pv 2) pe_int (nomark _))
 (pss_one (ps_set (i := 3) sc_Ratio_set_lowest.nd rfl (.inl rfl) (pe_un un_neg (pv 3))))
 pss_nil)
 (pss_one (ps_asg (pe_tup (pa_cons (pe_op op_fdivU (pv 1) (pv 3)) (pa_cons (pe_op op_fdivU (pv 2) (pv 3)) pa_nil))) (pg_tup rfl (pgs_cons (pg_fld (pv 0)) (pgs_cons (pg_fld (pv 0)) pgs_nil))))))), ?_⟩
    wtm_at "w0"
    wtm_at "wp"
    refine ⟨_, _, rfl, ?_⟩
    wtm_at "wp"
    refine w_dec (fun h => ?_) (fun h => ?_)
    · have eb : Rat0.by_ t b = -(Int.gcd t b : Int) := if_pos h
      have hd : ∀ i, CDivU i (-(Int.gcd t b : Int)) := fun i => eb ▸ divBy hb hb2
      wtm_at "wp"
      · exact hd _
      wtm_at "wp"
      · exact hd _
      wtm_at "wp"
      rename_i pN nN HN sN hN H1 k1 e1 H2 k2 e2
      refine k _ (KB.trans (KB.of sN) (KB.trans k1 k2)) ?_
      rw [e2, Rat0.top, Rat0.bot, eb]
    · have eb : Rat0.by_ t b = (Int.gcd t b : Int) := if_neg h
      have hd : ∀ i, CDivU i (Int.gcd t b : Int) := fun i => eb ▸ divBy hb hb2
      wtm_at "wp"
      · exact hd _
      wtm_at "wp"
      · exact hd _
      wtm_at "wp"
      rename_i pN nN HN sN hN H1 k1 e1 H2 k2 e2
      refine k _ (KB.trans (KB.of sN) (KB.trans k1 k2)) ?_
      rw [e2, Rat0.top, Rat0.bot, eb]

def spInit (C : Addr) : Sp := fun vs H Q _ => ∃ (r dx : Addr) (t b : Int), vs = [.ref r, .int t, .int b] ∧ H r = some (.ins C dx []) ∧ t.natAbs < 10 ^ 300 ∧ b.natAbs < 10 ^ 300 ∧ b ≠ 0 ∧
  ∀ H', KB r H H' → H' r = some (.ins C dx [("top", .int (Rat0.top t b)), ("bottom", .int (Rat0.bot t b))]) → Q .non H'
theorem f300 {n : Nat} (h : n < 10 ^ 300) : n < 2 ^ 2000 := Nat.lt_trans h (by decide +kernel)
theorem ok_init {f : Addr} {fd : FuncData} (F : FunD K "__init__" "Ratio.__init__" (defArgs s_Ratio___init__) (defBody s_Ratio___init__) (defScope s_Ratio___init__) [.int 1] [] f fd) (T : Txt K mg C) (f_is_figured : Fn P w K mg base "is_figured" 1 ["thing"] spFig)
    (me_Ratio_set_lowest : Me P w K mg base C "set_lowest" 2 ["self", "top", "bottom"] (spSet C)) : FnOk P w K mg base CX0 3 f fd ["self", "top", "bottom"] (spInit C) := by
  have hc := T.cl_Ratio
  have h1 := T.na_top
  have h2 := T.na_bottom
  refine F.ok sc_Ratio___init__ (fun vs H Q E h => ?_) (fun cdv A outer s H vs Q E hr h => ?_)
  · obtain ⟨r, dx, t, b, rfl, _⟩ := h
    rfl
  · obtain ⟨r, dx, t, b, rfl, ho, ht, hb, hb0, k⟩ := h
    refine ⟨_, PSs.nox (pss_cons (ps_if (PW.pt (pw_or (pt_not (pt_val (pe_fn f_is_figured (hr.mono (by decide)) rfl (pa_cons (pv 1) pa_nil)))) (pw_or1 (pt_not (pt_val (pe_fn f_is_figured (hr.mono (by decide)) rfl (pa_cons (pv 2) pa_nil)))))))
 (pss_one (ps_never))
 pss_nil)
 (pss_cons (ps_try_thru0 (pss_one (ps_fld (pv 0) (pe_op op_fdivU (pv 1) (pv 2)) rfl)))
 (pss_cons (ps_fld (pv 0) pe_int rfl)
 (pss_one (ps_expr (pe_me (pv 0) T.cl_Ratio me_Ratio_set_lowest (hr.mono (by decide)) (pa_cons (pv 1) (pa_cons (pv 2) pa_nil)))))))), ?_⟩
    wtm_at "w0"
    wtm_at "wp"
    refine ⟨_, rfl, ht, ?_⟩
    wtm_at "wp"
    refine ⟨_, rfl, hb, ?_⟩
    wtm_at "wp"
    · exact divU hb0 (f300 hb) (by decide) (by decide)
    wtm_at "wp"
    rename_i H1 k1 e1 H2 k2 e2
    refine ⟨r, dx, t, b, _, _, rfl, e2, hb0, f300 hb, fun H3 k3 e3 => ?_⟩
    exact k _ (k1.trans (k2.trans k3)) e3
def spMade (C : Addr) : Sp := fun vs H Q _ => ∃ (t b : Int), vs = [.int t, .int b] ∧ b ≠ 0 ∧ b.natAbs < 2 ^ 2000 ∧
  ∀ r H', H r = none → Same H H' → RAt C H' r (Rat0.top t b) (Rat0.bot t b) → Q (.ref r) H'
theorem ok_made {f : Addr} {fd : FuncData} (F : Fun K "made_of" "made_of" s_made_of f fd) (T : Txt K mg C) (mk_Ratio_1 : Mkr P w K mg base "Ratio" C 3 ["self", "top", "bottom"] [.int 1] (spInit C))
    (me_Ratio_set_lowest : Me P w K mg base C "set_lowest" 2 ["self", "top", "bottom"] (spSet C)) : FnOk P w K mg base CX0 5 f fd ["top", "bottom"] (spMade C) := by
  have hc := T.cl_Ratio
  refine F.ok sc_made_of (fun vs H Q E h => ?_) (fun cdv A outer s H vs Q E hr h => ?_)
  · obtain ⟨t, b, rfl, _⟩ := h
    rfl
  · obtain ⟨t, b, rfl, hb0, hb, k⟩ := h
    refine ⟨_, (pss_cons (ps_set (i := 2) sc_made_of.nd rfl (.inl rfl) (pe_mkr mk_Ratio_1 (hr.mono (by decide)) rfl (pa_cons pe_int pa_nil)))
 (pss_cons (ps_expr (pe_me (pv 2) T.cl_Ratio me_Ratio_set_lowest (hr.mono (by decide)) (pa_cons (pv 0) (pa_cons (pv 1) pa_nil))))
 (pss_one (ps_ret (pv 2))))), ?_⟩
    wtm_at "w0"
    wtm_at "wp"
    rename_i r dr nr nd H1 s1 h1
    refine ⟨r, dr, 0, 1, rfl, h1, by decide +kernel, by decide +kernel, by decide, fun H2 k2 e2 => ⟨rfl, ?_⟩⟩
    wtm_at "wp"
    refine ⟨r, dr, t, b, _, _, rfl, e2, hb0, hb, fun H3 k3 e3 => ?_⟩
    wtm_at "wp"
    exact k r H3 nr ((k2.trans k3).same s1 nr) ⟨dr, e3⟩
/-- both together, multiplied, less -/
def spPlus (C : Addr) : Sp := fun vs H Q _ => ∃ (r r' : Addr) (a b c d : Int), vs = [.ref r, .ref r'] ∧ RAt C H r a b ∧ RAt C H r' c d ∧ b ≠ 0 ∧ d ≠ 0 ∧
  a.natAbs < 2 ^ 900 ∧ b.natAbs < 2 ^ 900 ∧ c.natAbs < 2 ^ 900 ∧ d.natAbs < 2 ^ 900 ∧
  ∀ q H', H q = none → Same H H' → RAt C H' q (Rat0.top (a * d + c * b) (b * d)) (Rat0.bot (a * d + c * b) (b * d)) → Q (.ref q) H'
def spTimes (C : Addr) : Sp := fun vs H Q _ => ∃ (r r' : Addr) (a b c d : Int), vs = [.ref r, .ref r'] ∧ RAt C H r a b ∧ RAt C H r' c d ∧ b ≠ 0 ∧ d ≠ 0 ∧
  a.natAbs < 2 ^ 900 ∧ b.natAbs < 2 ^ 900 ∧ c.natAbs < 2 ^ 900 ∧ d.natAbs < 2 ^ 900 ∧
  ∀ q H', H q = none → Same H H' → RAt C H' q (Rat0.top (a * c) (b * d)) (Rat0.bot (a * c) (b * d)) → Q (.ref q) H'
def spLess (C : Addr) : Sp := fun vs H Q _ => ∃ (r r' : Addr) (a b c d : Int), vs = [.ref r, .ref r'] ∧ RAt C H r a b ∧ RAt C H r' c d ∧
  a.natAbs < 2 ^ 900 ∧ b.natAbs < 2 ^ 900 ∧ c.natAbs < 2 ^ 900 ∧ d.natAbs < 2 ^ 900 ∧ Q (.bl (decide (a * d < c * b))) H
theorem mulB {i j : Int} (hi : i.natAbs < 2 ^ 900) (hj : j.natAbs < 2 ^ 900) : CMulU i j := mulW hi hj (by decide) (by decide) (by decide)
theorem ok_plus {f : Addr} {fd : FuncData} (F : Fun K "plus" "Ratio.plus" s_Ratio_plus f fd) (T : Txt K mg C) (f_made_of : Fn P w K mg base "made_of" 5 ["top", "bottom"] (spMade C)) : FnOk P w K mg base CX0 6 f fd ["self", "other"] (spPlus C) := by
  have hc := T.cl_Ratio
  have h1 := T.na_top
  have h2 := T.na_bottom
  refine F.ok sc_Ratio_plus (fun vs H Q E h => ?_) (fun cdv A outer s H vs Q E hr h => ?_)
  · obtain ⟨r, r', a, b, c, d, rfl, _⟩ := h
    rfl
  · obtain ⟨r, r', a, b, c, d, rfl, ⟨d1, o1⟩, ⟨d2, o2⟩, hb, hd, la, lb, lc, ld, k⟩ := h
    refine ⟨_, (pss_one (ps_ret (pe_fn f_made_of (hr.mono (by decide)) rfl (pa_cons (pe_op op_add (pe_op op_mulU (pe_fld (pv 0) rfl) (pe_fld (pv 1) rfl)) (pe_op op_mulU (pe_fld (pv 1) rfl) (pe_fld (pv 0) rfl))) (pa_cons (pe_op op_mulU (pe_fld (pv 0) rfl) (pe_fld (pv 1) rfl)) pa_nil))))), ?_⟩
    wtm_at "w0"
    wtm_at "wp"
    · exact mulB la ld
    wtm_at "wp"
    · exact mulB lc lb
    wtm_at "wp"
    · exact mulB lb ld
    wtm_at "wp"
    refine ⟨_, _, rfl, Int.mul_ne_zero hb hd, Nat.lt_trans (wide_lt lb ld) (by decide +kernel), ?_⟩
    exact k
theorem ok_times {f : Addr} {fd : FuncData} (F : Fun K "times" "Ratio.times" s_Ratio_times f fd) (T : Txt K mg C) (f_made_of : Fn P w K mg base "made_of" 5 ["top", "bottom"] (spMade C)) : FnOk P w K mg base CX0 6 f fd ["self", "other"] (spTimes C) := by
  have hc := T.cl_Ratio
  have h1 := T.na_top
  have h2 := T.na_bottom
  refine F.ok sc_Ratio_times (fun vs H Q E h => ?_) (fun cdv A outer s H vs Q E hr h => ?_)
  · obtain ⟨r, r', a, b, c, d, rfl, _⟩ := h
    rfl
  · obtain ⟨r, r', a, b, c, d, rfl, ⟨d1, o1⟩, ⟨d2, o2⟩, hb, hd, la, lb, lc, ld, k⟩ := h
    refine ⟨_, (pss_one (ps_ret (pe_fn f_made_of (hr.mono (by decide)) rfl (pa_cons (pe_op op_mulU (pe_fld (pv 0) rfl) (pe_fld (pv 1) rfl)) (pa_cons (pe_op op_mulU (pe_fld (pv 0) rfl) (pe_fld (pv 1) rfl)) pa_nil))))), ?_⟩
    wtm_at "w0"
    wtm_at "wp"
    · exact mulB la lc
    wtm_at "wp"
    · exact mulB lb ld
    wtm_at "wp"
    refine ⟨_, _, rfl, Int.mul_ne_zero hb hd, Nat.lt_trans (wide_lt lb ld) (by decide +kernel), ?_⟩
    exact k
theorem ok_less {f : Addr} {fd : FuncData} (F : Fun K "is_less" "Ratio.is_less" s_Ratio_is_less f fd) (T : Txt K mg C) : FnOk P w K mg base CX0 1 f fd ["self", "other"] (spLess C) := by
  have hc := T.cl_Ratio
  have h1 := T.na_top
  have h2 := T.na_bottom
  refine F.ok sc_Ratio_is_less (fun vs H Q E h => ?_) (fun cdv A outer s H vs Q E hr h => ?_)
  · obtain ⟨r, r', a, b, c, d, rfl, _⟩ := h
    rfl
  · obtain ⟨r, r', a, b, c, d, rfl, ⟨d1, o1⟩, ⟨d2, o2⟩, la, lb, lc, ld, k⟩ := h
    refine ⟨_, (pss_one (ps_ret (pe_cmpR op_lt (pe_op op_mulU (pe_fld (pv 0) rfl) (pe_fld (pv 1) rfl)) (pe_op op_mulU (pe_fld (pv 1) rfl) (pe_fld (pv 0) rfl)) (nomark _)))), ?_⟩
    wtm_at "w0"
    wtm_at "wp"
    · exact mulB la ld
    wtm_at "wp"
    · exact mulB lc lb
    wtm_at "wp"
    exact k
/-! ### the law's own reckoning -/
def spLow (K : PySem.W.Frag) : Sp := fun vs H Q _ => ∃ (t b : Int), vs = [.int t, .int b] ∧ b ≠ 0 ∧ b.natAbs < 2 ^ 2000 ∧
  ∀ p H', H p = none → Same H H' → H' p = some (.tup [.int (Rat0.top t b), .int (Rat0.bot t b)]) → Q (.ref p) H'
theorem ok_low {f : Addr} {fd : FuncData} (F : Fun K "_law_low" "_law_low" s_law_low f fd) (T : Txt K mg C) : FnOk P w K mg base CX0 1 f fd ["_law_upper", "_law_lower"] (spLow K) := by
  refine F.ok sc_law_low (fun vs H Q E h => ?_) (fun cdv A outer s H vs Q E hr h => ?_)
  · obtain ⟨a, b, rfl, _⟩ := h
    rfl
  · obtain ⟨a, b, rfl, hb, hb2, k⟩ := h
    refine ⟨_, (pss_cons (ps_par (i := 2) (j := 3) (by rfl) sc_law_low.nd rfl rfl (by decide) rfl rfl (pa_cons (pe_callB cl_abs (by rfl) T.n_abs PyProof.Rows.boot_abs (pa_cons (pv 0) pa_nil)) (pa_cons (pe_callB cl_abs (by rfl) T.n_abs PyProof.Rows.boot_abs (pa_cons (pv 1) pa_nil)) pa_nil)) (by rfl))
 (pss_cons (ps_while PassesOwn.never (pt_cmpR op_gt (pv 3) pe_int (nomark _))
 (pss_one (ps_par (i := 2) (j := 3) (by rfl) sc_law_low.nd rfl rfl (by decide) rfl rfl (pa_cons (pv 3) (pa_cons (pe_op op_mod (pv 2) (pv 3)) pa_nil)) (by rfl))))
 (pss_cons (ps_if (pt_cmpR op_lt (pv 1) pe_int (nomark _))
 (pss_one (ps_set (i := 2) sc_law_low.nd rfl (.inl rfl) (pe_op op_sub pe_int (pv 2))))
 pss_nil)
 (pss_one (ps_ret (pe_tup (pa_cons (pe_op op_fdivU (pv 0) (pv 2)) (pa_cons (pe_op op_fdivU (pv 1) (pv 2)) pa_nil)))))))), ?_⟩
    wtm_at "w0"
    wtm_at "wp"
    refine ⟨fun m σ H' => H' = H ∧ ∃ x y : Nat, σ = [some (.int a), some (.int b), some (.int x), some (.int y)] ∧ Nat.gcd x y = Int.gcd a b ∧ y = m, ⟨b.natAbs, rfl, a.natAbs, b.natAbs, rfl, rfl, rfl⟩, ?_⟩
    rintro m σ H' ⟨rfl, x, y, rfl, e, rfl⟩
    wtm_at "wp"
    cases y with
    | zero =>
      refine iteF ?_
      rw [Nat.gcd_zero_right] at e
      subst e
      wtm_at "wp"
      refine w_dec (fun h => ?_) (fun h => ?_)
      · have eb : Rat0.by_ a b = -(Int.gcd a b : Int) := if_pos h
        have eb' : Rat0.by_ a b = 0 - (Int.gcd a b : Int) := by omega
        have hd : ∀ i, CDivU i (0 - (Int.gcd a b : Int)) := fun i => eb' ▸ divBy hb hb2
        wtm_at "wp"
        · exact hd _
        wtm_at "wp"
        · exact hd _
        wtm_at "wp"
        rename_i pN nN HN sN hN
        refine k _ _ nN sN ?_
        rw [hN, Rat0.top, Rat0.bot, eb']
      · have eb : Rat0.by_ a b = (Int.gcd a b : Int) := if_neg h
        have hd : ∀ i, CDivU i (Int.gcd a b : Int) := fun i => eb ▸ divBy hb hb2
        wtm_at "wp"
        · exact hd _
        wtm_at "wp"
        · exact hd _
        wtm_at "wp"
        rename_i pN nN HN sN hN
        refine k _ _ nN sN ?_
        rw [hN, Rat0.top, Rat0.bot, eb]
    | succ y =>
      refine w_dec (fun _ => ?_) (fun n => absurd (by omega) n)
      refine w_loopT ?_
      wtm_at "wp"
      refine ⟨(x % (y + 1)), Nat.mod_lt _ (Nat.succ_pos _), rfl, y + 1, x % (y + 1), rfl, ?_, rfl⟩
      rw [← e, Nat.gcd_comm x, Nat.gcd_rec (y + 1) x, Nat.gcd_comm]

end
end K32

namespace K32
section
variable {P : Program} {w : World} {K : PySem.W.Frag} {mg : Str → Option Value} {base : Heap} {C : Addr}
def spLPlus (K : PySem.W.Frag) : Sp := fun vs H Q _ => ∃ (p q : Addr) (a b c d : Int), vs = [.ref p, .ref q] ∧ SqT K H p [.int a, .int b] ∧ SqT K H q [.int c, .int d] ∧ b ≠ 0 ∧ d ≠ 0 ∧
  a.natAbs < 2 ^ 900 ∧ b.natAbs < 2 ^ 900 ∧ c.natAbs < 2 ^ 900 ∧ d.natAbs < 2 ^ 900 ∧
  ∀ o H', H o = none → Same H H' → H' o = some (.tup [.int (Rat0.top (a * d + c * b) (b * d)), .int (Rat0.bot (a * d + c * b) (b * d))]) → Q (.ref o) H'
def spLLess (K : PySem.W.Frag) : Sp := fun vs H Q _ => ∃ (p q : Addr) (a b c d : Int), vs = [.ref p, .ref q] ∧ SqT K H p [.int a, .int b] ∧ SqT K H q [.int c, .int d] ∧
  a.natAbs < 2 ^ 900 ∧ b.natAbs < 2 ^ 900 ∧ c.natAbs < 2 ^ 900 ∧ d.natAbs < 2 ^ 900 ∧ Q (.bl (decide (a * d < c * b))) H
theorem ok_lplus {f : Addr} {fd : FuncData} (F : Fun K "_law_plus" "_law_plus" s_law_plus f fd) (f__law_low : Fn P w K mg base "_law_low" 1 ["_law_upper", "_law_lower"] (spLow K)) : FnOk P w K mg base CX0 2 f fd ["_law_one", "_law_other"] (spLPlus K) := by
  refine F.ok sc_law_plus (fun vs H Q E h => ?_) (fun cdv A outer s H vs Q E hr h => ?_)
  · obtain ⟨r, r', a, b, c, d, rfl, _⟩ := h
    rfl
  · obtain ⟨r, r', a, b, c, d, rfl, o1, o2, hb, hd, la, lb, lc, ld, k⟩ := h
    refine ⟨_, (pss_one (ps_ret (pe_fn f__law_low (hr.mono (by decide)) rfl (pa_cons (pe_op op_add (pe_op op_mulU (pe_ix ix_tup (pv 0) pe_int (fun _ _ => rfl)) (pe_ix ix_tup (pv 1) pe_int (fun _ _ => rfl))) (pe_op op_mulU (pe_ix ix_tup (pv 1) pe_int (fun _ _ => rfl)) (pe_ix ix_tup (pv 0) pe_int (fun _ _ => rfl)))) (pa_cons (pe_op op_mulU (pe_ix ix_tup (pv 0) pe_int (fun _ _ => rfl)) (pe_ix ix_tup (pv 1) pe_int (fun _ _ => rfl))) pa_nil))))), ?_⟩
    wtm_at "w0"
    wtm_at "wp"
    · exact mulB la ld
    wtm_at "wp"
    · exact mulB lc lb
    wtm_at "wp"
    · exact mulB lb ld
    wtm_at "wp"
    refine ⟨_, _, rfl, Int.mul_ne_zero hb hd, Nat.lt_trans (wide_lt lb ld) (by decide +kernel), ?_⟩
    exact k
theorem ok_lless {f : Addr} {fd : FuncData} (F : Fun K "_law_less" "_law_less" s_law_less f fd) : FnOk P w K mg base CX0 1 f fd ["_law_one", "_law_other"] (spLLess K) := by
  refine F.ok sc_law_less (fun vs H Q E h => ?_) (fun cdv A outer s H vs Q E hr h => ?_)
  · obtain ⟨r, r', a, b, c, d, rfl, _⟩ := h
    rfl
  · obtain ⟨r, r', a, b, c, d, rfl, o1, o2, la, lb, lc, ld, k⟩ := h
    refine ⟨_, (pss_one (ps_ret (pe_cmpR op_lt (pe_op op_mulU (pe_ix ix_tup (pv 0) pe_int (fun _ _ => rfl)) (pe_ix ix_tup (pv 1) pe_int (fun _ _ => rfl))) (pe_op op_mulU (pe_ix ix_tup (pv 1) pe_int (fun _ _ => rfl)) (pe_ix ix_tup (pv 0) pe_int (fun _ _ => rfl))) (nomark _)))), ?_⟩
    wtm_at "w0"
    wtm_at "wp"
    · exact mulB la ld
    wtm_at "wp"
    · exact mulB lc lb
    wtm_at "wp"
    exact k
def spTruth : Sp := fun vs H Q _ => ∃ x : Bool, vs = [.bl x, .bl x] ∧ Q (.bl true) H
theorem ok_truth {f : Addr} {fd : FuncData} (F : Fun K "_law_is_truth" "_law_is_truth" s_law_is_truth f fd) (T : Txt K mg C) : FnOk P w K mg base CX0 1 f fd ["_law_told", "_law_due"] spTruth := by
  refine F.ok sc_law_is_truth (fun vs H Q E h => ?_) (fun cdv A outer s H vs Q E hr h => ?_)
  · obtain ⟨x, rfl, _⟩ := h
    rfl
  · obtain ⟨x, rfl, k⟩ := h
    refine ⟨_, (pss_one (ps_ret (pe_and (pe_callB call_isi (by rfl) T.n_isinstance PyProof.Rows.boot_isinstance (pa_cons (pv 0) (pa_cons (pe_bltn (v := .ty "bool") (by rfl) T.n_bool PyProof.Rows.boot_bool rfl) pa_nil))) (pe_one (pe_cmpR op_eq (pv 0) (pv 1) (nomark _)))))), ?_⟩
    wtm_at "w0"
    wtm_at "wp"
    rw [decide_eq_true rfl]
    exact k
def spIsR (K : PySem.W.Frag) (C : Addr) : Sp := fun vs H Q _ => ∃ (r p : Addr) (a b : Int), vs = [.ref r, .ref p] ∧ RAt C H r a b ∧ SqT K H p [.int a, .int b] ∧ ∀ H', Same H H' → Q (.bl true) H'
theorem ok_isr {f : Addr} {fd : FuncData} (F : Fun K "_law_is_ratio" "_law_is_ratio" s_law_is_ratio f fd) (T : Txt K mg C) : FnOk P w K mg base CX0 1 f fd ["_law_told", "_law_due"] (spIsR K C) := by
  have hc := T.cl_Ratio
  have h1 := T.na_top
  have h2 := T.na_bottom
  refine F.ok sc_law_is_ratio (fun vs H Q E h => ?_) (fun cdv A outer s H vs Q E hr h => ?_)
  · obtain ⟨r, p, a, b, rfl, _⟩ := h
    rfl
  · obtain ⟨r, p, a, b, rfl, ⟨dx, ho⟩, hp, k⟩ := h
    refine ⟨_, (pss_cons (ps_for PassesOwn.never rfl (pi_tup (pe_tup (pa_cons (pe_fld (pv 0) rfl) (pa_cons (pe_fld (pv 0) rfl) pa_nil)))) (pg_name (i := 2) sc_law_is_ratio.nd rfl (.inl rfl))
 (pss_one (ps_if (PW.pt (pw_or (pt_not (pt_val (pe_callB call_isi (by rfl) T.n_isinstance PyProof.Rows.boot_isinstance (pa_cons (pv 2) (pa_cons (pe_bltn (v := .ty "int") (by rfl) T.n_int PyProof.Rows.boot_int rfl) pa_nil))))) (pw_or1 (pt_val (pe_callB call_isi (by rfl) T.n_isinstance PyProof.Rows.boot_isinstance (pa_cons (pv 2) (pa_cons (pe_bltn (v := .ty "bool") (by rfl) T.n_bool PyProof.Rows.boot_bool rfl) pa_nil)))))))
 (pss_one (ps_ret pe_bl))
 pss_nil)))
 (pss_one (ps_ret (pe_cmpR (op_eqD hr.units) (pe_tup (pa_cons (pe_fld (pv 0) rfl) (pa_cons (pe_fld (pv 0) rfl) pa_nil))) (pv 1) (nomark _))))), ?_⟩
    wtm_at "w0"
    wtm_at "wp"
    rename_i q nq H1 s1 hq
    refine for_tup (xs := [.int a, .int b]) (fun i σ H' => H' = H1 ∧ ∃ v, σ = [some (.ref r), some (.ref p), v]) ⟨rfl, _, rfl⟩ (fun i σ H' _ ⟨e, _⟩ => e ▸ SqT.of hq) ?_ ?_
    · rintro i x σ H' hx ⟨rfl, v, rfl⟩
      obtain ⟨n, rfl⟩ : ∃ n, x = V.int n := by
        have := List.mem_of_getElem? hx
        simp at this
        rcases this with e | e <;> exact ⟨_, e⟩
      wtm_at "wp"
      exact ⟨rfl, _, rfl⟩
    · rintro σ H' ⟨rfl, v, rfl⟩
      wtm_at "wp"
      rename_i q2 nq2 H2 s2 hq2
      refine w_eqD (dp_t2 (SqT.of hq2)) (dp_t2 (by wtm_at "seq")) (by wtm_at "shp") (by wtm_at "shp") (k := true) (by simp [PyData.eqv, PyData.eqvAll]) ?_
      exact k _ (s1.trans s2)

/-! ### draws -/
/-- a purse at p: three numbers -/
def Purse (H : Hp) (p : Addr) (n : Nat) : Prop := ∃ a b c : Int, H p = some (.lst [.int a, .int b, .int c]) ∧ 0 ≤ a ∧ 0 ≤ b ∧ b < 10 ^ 30 ∧ 0 ≤ c ∧ c ≤ n
theorem Purse.mono {H H' : Hp} {p : Addr} {n n' : Nat} (h : Purse H p n) (e : Same H H') (hn : n ≤ n') : Purse H' p n' := by
  obtain ⟨a, b, c, h, h1, h2, h3, h4, h5⟩ := h
  exact ⟨a, b, c, e _ _ h, h1, h2, h3, h4, by omega⟩
def spTake : Sp := fun vs H Q _ => ∃ (p : Addr) (m : Int) (n : Nat), vs = [.ref p, .int m] ∧ Purse H p n ∧ n ≤ 10 ^ 9 ∧ 0 < m ∧ m ≤ 10 ^ 12 ∧
  ∀ (d : Int) H', 0 ≤ d → d < m → KB p H H' → Purse H' p (n + 1) → Q (.int d) H'
theorem ok_take {f : Addr} {fd : FuncData} (F : Fun K "_law_take" "_law_take" s_law_take f fd) : FnOk P w K mg base CX0 1 f fd ["_law_purse_here", "_law_many"] spTake := by
  refine F.ok sc_law_take (fun vs H Q E h => ?_) (fun cdv A outer s H vs Q E hr h => ?_)
  · obtain ⟨p, m, n, rfl, _⟩ := h
    rfl
  · obtain ⟨p, m, n, rfl, ⟨a, b, c, hp, ha, hb, hb2, hc, hc2⟩, hn, hm, hm2, k⟩ := h
    have hb2' : b < 1000000000000000000000000000000 := hb2
    have hn' : n ≤ 1000000000 := hn
    have hm2' : m ≤ 1000000000000 := hm2
    have hcc : (c + 1) * (c + 1) ≤ 1000000001 * 1000000001 := Int.mul_le_mul (by omega) (by omega) (by omega) (by omega)
    have hcc0 : 0 ≤ (c + 1) * (c + 1) := Int.mul_nonneg (by omega) (by omega)
    refine ⟨_, (pss_cons (ps_if (pt_cmpR op_gt (pe_ix ix_list (pv 0) pe_int (fun _ _ => rfl)) pe_int (nomark _))
 (pss_cons (ps_set (i := 2) sc_law_take.nd rfl (.inl rfl) (pe_op op_mod (pe_ix ix_list (pv 0) pe_int (fun _ _ => rfl)) (pv 1)))
 (pss_cons (ps_asg (pe_op op_fdivU (pe_ix ix_list (pv 0) pe_int (fun _ _ => rfl)) (pv 1)) (pg_sub (pv 0) pe_int set_list))
 (pss_one (ps_ret (pv 2)))))
 pss_nil)
 (pss_cons (ps_asg (pe_op op_add (pe_ix ix_list (pv 0) pe_int (fun _ _ => rfl)) pe_int) (pg_sub (pv 0) pe_int set_list))
 (pss_cons (ps_set (i := 3) sc_law_take.nd rfl (.inl rfl) (pe_op op_mod (pe_op op_powU (pe_op op_add (pe_ix ix_list (pv 0) pe_int (fun _ _ => rfl)) (pe_op op_mulU (pe_op op_mulU pe_int (pe_ix ix_list (pv 0) pe_int (fun _ _ => rfl))) (pe_ix ix_list (pv 0) pe_int (fun _ _ => rfl)))) pe_int) pe_int))
 (pss_one (ps_ret (pe_op op_mod (pe_op op_fdivU (pe_op op_mod (pe_op op_add (pe_op op_mulU (pv 3) (pe_op op_add (pv 3) pe_int)) (pe_ix ix_list (pv 0) pe_int (fun _ _ => rfl))) pe_int) pe_int) (pv 1))))))), ?_⟩
    wtm_at "w0"
    wtm_at "wp"
    refine w_dec (fun h0 => ?_) (fun h0 => ?_)
    · wtm_at "wp"
      rename_i H1 k1 e1
      refine k _ _ (Int.emod_nonneg _ (by omega)) (Int.emod_lt_of_pos _ hm) k1 ⟨_, _, _, e1, ?_, hb, hb2, hc, by omega⟩
      rw [Int.fdiv_eq_ediv_of_nonneg _ (Int.le_of_lt hm)]
      exact Int.ediv_nonneg ha (Int.le_of_lt hm)
    · wtm_at "wp"
      · refine powU (a := 200) ?_ (by decide) (by decide) (by decide)
        rw [Int.mul_assoc]
        omega
      wtm_at "wp"
      rename_i H1 k1 e1
      exact k _ _ (Int.emod_nonneg _ (by omega)) (Int.emod_lt_of_pos _ hm) k1 ⟨_, _, _, e1, ha, hb, hb2, by omega, by omega⟩
def spPurse (K : PySem.W.Frag) : Sp := fun vs H Q _ => ∃ (a : Addr) (ns : List Int) (j : Nat), vs = [.ref a, .int j] ∧ SqL K H a (ns.map V.int) ∧ j ≤ 63 ∧
  ∀ p H', H p = none → Same H H' → Purse H' p 0 → Q (.ref p) H'
theorem purse_num {c : Int} {j : Nat} (hj : j ≤ 63) : 0 ≤ c % 1000000000000000000 * 1000003 + 7919 * j + 17 ∧ c % 1000000000000000000 * 1000003 + 7919 * j + 17 < 10 ^ 30 := by
  have h1 := Int.emod_nonneg c (show (1000000000000000000 : Int) ≠ 0 by decide)
  have h2 := Int.emod_lt_of_pos c (show (0 : Int) < 1000000000000000000 by decide)
  constructor <;> omega
theorem ok_purse {f : Addr} {fd : FuncData} (F : Fun K "_law_purse" "_law_purse" s_law_purse f fd) (T : Txt K mg C) : FnOk P w K mg base CX0 1 f fd ["_law_script", "_law_at"] (spPurse K) := by
  refine F.ok sc_law_purse (fun vs H Q E h => ?_) (fun cdv A outer s H vs Q E hr h => ?_)
  · obtain ⟨a, ns, j, rfl, _⟩ := h
    rfl
  · obtain ⟨a, ns, j, rfl, hS, hj, k⟩ := h
    refine ⟨_, (pss_cons (ps_set (i := 2) sc_law_purse.nd rfl (.inl rfl) pe_int)
 (pss_cons (ps_if (pt_cmpR op_lt (pv 1) (pe_callB cl_len (by rfl) T.n_len PySem.boot_len (pa_cons (pv 0) pa_nil)) (nomark _))
 (pss_one (ps_set (i := 2) sc_law_purse.nd rfl (.inl rfl) (pe_ix ix_list (pv 0) (pv 1) (fun _ _ => rfl))))
 pss_nil)
 (pss_cons (ps_set (i := 3) sc_law_purse.nd rfl (.inl rfl) (pe_op op_mulU (pe_callB cl_abs (by rfl) T.n_abs PyProof.Rows.boot_abs (pa_cons (pv 2) pa_nil)) (pe_callTy cl_int (by rfl) T.n_int PyProof.Rows.boot_int (pa_cons (pe_cmpR op_ge (pe_callB cl_abs (by rfl) T.n_abs PyProof.Rows.boot_abs (pa_cons (pv 2) pa_nil)) (pe_op op_powU pe_int pe_int) (nomark _)) pa_nil))))
 (pss_one (ps_ret (pe_lst (pa_cons (pv 3) (pa_cons (pe_op op_add (pe_op op_add (pe_op op_mulU (pe_op op_mod (pv 2) (pe_op op_powU pe_int pe_int)) pe_int) (pe_op op_mulU pe_int (pv 1))) pe_int) (pa_cons pe_int pa_nil))))))))), ?_⟩
    wtm_at "w0"
    wtm_at "wp"
    refine w_dec (fun h0 => ?_) (fun h0 => ?_)
    · have hl : j < ns.length := by
        rw [List.length_map] at h0
        omega
      have hx : atI (ns.map V.int) (j : Int) = some (.int ns[j]) := atI_nat (by rw [List.getElem?_map, List.getElem?_eq_getElem hl]; rfl)
      wtm_at "wp"
      rename_i p np H1 s1 hp
      exact k _ _ np s1 ⟨_, _, _, hp, Int.mul_nonneg (by omega) (by split <;> omega), (purse_num hj).1, (purse_num hj).2, by omega, by omega⟩
    · wtm_at "wp"
      rename_i p np H1 s1 hp
      exact k _ _ np s1 ⟨_, _, _, hp, Int.mul_nonneg (by omega) (by split <;> omega), (purse_num hj).1, (purse_num hj).2, by omega, by omega⟩
def spFar : Sp := fun vs H Q _ => ∃ (p : Addr) (n : Nat), vs = [.ref p] ∧ Purse H p n ∧ n ≤ 10 ^ 8 ∧
  ∀ (d : Int) H', d.natAbs < 10 ^ 45 → KB p H H' → Purse H' p (n + 10) → Q (.int d) H'
theorem far_turn {g d : Int} {i : Nat} (h0 : 0 ≤ g) (h : g < 10 ^ (5 + 8 * i)) (d0 : 0 ≤ d) (hd : d < 100000000) : 0 ≤ g * 100000000 + d ∧ g * 100000000 + d < 10 ^ (5 + 8 * (i + 1)) := by
  have e : (10 : Int) ^ (5 + 8 * (i + 1)) = 10 ^ (5 + 8 * i) * 100000000 := by
    rw [show 5 + 8 * (i + 1) = (5 + 8 * i) + 8 by omega, Int.pow_add]
    rfl
  rw [e]
  generalize (10 : Int) ^ (5 + 8 * i) = z at *
  constructor
  · have := Int.mul_nonneg h0 (show (0 : Int) ≤ 100000000 by decide)
    omega
  · have := Int.mul_le_mul_of_nonneg_right (show g + 1 ≤ z by omega) (show (0 : Int) ≤ 100000000 by decide)
    omega
theorem far_le {g : Int} {i : Nat} (h0 : 0 ≤ g) (h : g < 10 ^ (5 + 8 * i)) (hi : i ≤ 5) : g.natAbs < 10 ^ 45 := by
  have h0' := Nat.pow_le_pow_right (show 10 > 0 by decide) (show 5 + 8 * i ≤ 45 by omega)
  have h1 : ((10 ^ (5 + 8 * i) : Nat) : Int) ≤ ((10 ^ 45 : Nat) : Int) := Int.ofNat_le.mpr h0'
  rw [Int.natCast_pow (n := 5 + 8 * i)] at h1
  have h3 : ((10 : Nat) : Int) = 10 := rfl
  rw [h3] at h1
  generalize (10 : Nat) ^ 45 = z at *
  generalize (10 : Int) ^ (5 + 8 * i) = y at *
  omega
theorem ok_far {f : Addr} {fd : FuncData} (F : Fun K "_law_far" "_law_far" s_law_far f fd) (T : Txt K mg C) (f__law_take : Fn P w K mg base "_law_take" 1 ["_law_purse_here", "_law_many"] spTake) : FnOk P w K mg base CX0 2 f fd ["_law_purse_here"] spFar := by
  refine F.ok sc_law_far (fun vs H Q E h => ?_) (fun cdv A outer s H vs Q E hr h => ?_)
  · obtain ⟨p, n, rfl, _⟩ := h
    rfl
  · obtain ⟨p, n, rfl, hp, hn, k⟩ := h
    have hn' : n ≤ 100000000 := hn
    have e45 : (10 : Nat) ^ 45 = 1000000000000000000000000000000000000000000000 := rfl
    refine ⟨_, (pss_cons (ps_set (i := 1) sc_law_far.nd rfl (.inl rfl) (pe_cmpR op_eq (pe_fn f__law_take (hr.mono (by decide)) rfl (pa_cons (pv 0) (pa_cons pe_int pa_nil))) pe_int (nomark _)))
 (pss_cons (ps_set (i := 2) sc_law_far.nd rfl (.inl rfl) (pe_op op_sub pe_int (pe_op op_mulU pe_int (pe_fn f__law_take (hr.mono (by decide)) rfl (pa_cons (pv 0) (pa_cons pe_int pa_nil))))))
 (pss_cons (ps_if (pt_val (pv 1))
 (pss_one (ps_ret (pe_op op_mulU (pv 2) (pe_fn f__law_take (hr.mono (by decide)) rfl (pa_cons (pv 0) (pa_cons pe_int pa_nil))))))
 pss_nil)
 (pss_cons (ps_set (i := 3) sc_law_far.nd rfl (.inl rfl) (pe_fn f__law_take (hr.mono (by decide)) rfl (pa_cons (pv 0) (pa_cons (pe_op op_powU pe_int pe_int) pa_nil))))
 (pss_cons (ps_for PassesOwn.never rfl (pi_range1 (by rfl) T.n_range (pa_cons (pe_fn f__law_take (hr.mono (by decide)) rfl (pa_cons (pv 0) (pa_cons pe_int pa_nil))) pa_nil)) (pg_name (i := 4) sc_law_far.nd rfl (.inl rfl))
 (pss_one (ps_set (i := 3) sc_law_far.nd rfl (.inl rfl) (pe_op op_add (pe_op op_mulU (pv 3) (pe_op op_powU pe_int pe_int)) (pe_fn f__law_take (hr.mono (by decide)) rfl (pa_cons (pv 0) (pa_cons (pe_op op_powU pe_int pe_int) pa_nil)))))))
 (pss_one (ps_ret (pe_op op_mulU (pv 2) (pv 3))))))))), ?_⟩
    wtm_at "w0"
    wtm_at "wp"
    refine ⟨p, 4, n, rfl, hp, by omega, by decide, by decide, fun d1 H1 d10 d11 k1 p1 => ?_⟩
    wtm_at "wp"
    refine ⟨p, 2, _, rfl, p1, by omega, by decide, by decide, fun d2 H2 d20 d21 k2 p2 => ?_⟩
    wtm_at "wp"
    have hs : (1 - 2 * d2).natAbs = 1 := by omega
    have hm : ∀ x : Int, ((1 - 2 * d2) * x).natAbs = x.natAbs := fun x => by rw [Int.natAbs_mul, hs, Nat.one_mul]
    refine w_dec (fun _ => ?_) (fun _ => ?_)
    · wtm_at "wp"
      refine ⟨p, 12, _, rfl, p2, by omega, by decide, by decide, fun d3 H3 d30 d31 k3 p3 => ?_⟩
      wtm_at "wp"
      refine k _ _ ?_ (k1.trans (k2.trans k3)) (p3.mono (Same.refl _) (by omega))
      rw [hm, e45]
      omega
    · wtm_at "wp"
      refine ⟨p, _, _, rfl, p2, by omega, by decide, by decide, fun d3 H3 d30 d31 k3 p3 => ?_⟩
      wtm_at "wp"
      refine ⟨p, 6, _, rfl, p3, by omega, by decide, by decide, fun d4 H4 d40 d41 k4 p4 => ?_⟩
      wtm_at "wp"
      refine ⟨d4, rfl, by omega, by omega, for_range (n := d4.toNat) (fun i σ H' => ∃ (g : Int) (v : Option V), σ = [some (.ref p), some (.bl (decide (V.int d1 = V.int 0))), some (.int (1 - 2 * d2)), some (.int g), v] ∧ 0 ≤ g ∧ g < 10 ^ (5 + 8 * i) ∧ KB p H H' ∧ Purse H' p (n + 4 + i)) ?_ ?_ ?_⟩
      · exact ⟨d3, none, rfl, d30, d31, k1.trans (k2.trans (k3.trans k4)), p4.mono (Same.refl _) (by omega)⟩
      · rintro i σ H5 hi ⟨g, v, rfl, g0, g1, k5, p5⟩
        have gb := far_le g0 g1 (by omega)
        rw [e45] at gb
        wtm_at "wp"
        refine ⟨p, _, _, rfl, p5, by omega, by decide, by decide, fun d6 H6 d60 d61 k6 p6 => ?_⟩
        wtm_at "wp"
        have tt := far_turn g0 g1 d60 d61
        exact ⟨_, _, rfl, tt.1, tt.2, k5.trans k6, p6.mono (Same.refl _) (by omega)⟩
      · rintro σ H5 ⟨g, v, rfl, g0, g1, k5, p5⟩
        wtm_at "wp"
        refine k _ _ ?_ k5 (p5.mono (Same.refl _) (by omega))
        rw [hm]
        exact far_le g0 g1 (by omega)

def spDrawn : Sp := fun vs H Q _ => ∃ (p : Addr) (n : Nat), vs = [.ref p] ∧ Purse H p n ∧ n ≤ 10 ^ 7 ∧
  ∀ (q : Addr) (a b : Int) H', Rat0.Low a b → a.natAbs < 10 ^ 45 → b.natAbs < 10 ^ 45 → H q = none → KB p H H' → Purse H' p (n + 20) → H' q = some (.tup [.int a, .int b]) → Q (.ref q) H'
theorem ok_drawn {f : Addr} {fd : FuncData} (F : Fun K "_law_drawn_ratio" "_law_drawn_ratio" s_law_drawn_ratio f fd) (T : Txt K mg C) (f__law_far : Fn P w K mg base "_law_far" 2 ["_law_purse_here"] spFar)
    (f__law_low : Fn P w K mg base "_law_low" 1 ["_law_upper", "_law_lower"] (spLow K)) : FnOk P w K mg base CX0 3 f fd ["_law_purse_here"] spDrawn := by
  refine F.ok sc_law_drawn_ratio (fun vs H Q E h => ?_) (fun cdv A outer s H vs Q E hr h => ?_)
  · obtain ⟨p, n, rfl, _⟩ := h
    rfl
  · obtain ⟨p, n, rfl, hp, hn, k⟩ := h
    have hn' : n ≤ 10000000 := hn
    refine ⟨_, (pss_cons (ps_par (i := 1) (j := 2) (by rfl) sc_law_drawn_ratio.nd rfl rfl (by decide) rfl rfl (pa_cons (pe_fn f__law_far (hr.mono (by decide)) rfl (pa_cons (pv 0) pa_nil)) (pa_cons (pe_fn f__law_far (hr.mono (by decide)) rfl (pa_cons (pv 0) pa_nil)) pa_nil)) (by rfl))
 (pss_cons (ps_if (pt_cmpR op_eq (pv 2) pe_int (nomark _))
 (pss_one (ps_set (i := 2) sc_law_drawn_ratio.nd rfl (.inl rfl) pe_int))
 pss_nil)
 (pss_one (ps_ret (pe_fn f__law_low (hr.mono (by decide)) rfl (pa_cons (pv 1) (pa_cons (pv 2) pa_nil))))))), ?_⟩
    have fin : ∀ (a b : Int) (H2 : Hp), b ≠ 0 → a.natAbs < 10 ^ 45 → b.natAbs < 10 ^ 45 → KB p H H2 → Purse H2 p (n + 20) → spLow K [.int a, .int b] H2 Q E0 := fun a b H2 b0 la lb k2 p2 => by
      refine ⟨a, b, rfl, b0, Nat.lt_trans lb (by decide +kernel), fun q H3 nq s3 hq => ?_⟩
      have np : H q = none := by
        cases e : H q with
        | none => rfl
        | some o =>
          by_cases hqp : q = p
          · subst hqp
            obtain ⟨_, _, _, h, _⟩ := p2
            rw [h] at nq
            cases nq
          · rw [k2 q o e hqp] at nq
            cases nq
      exact k q _ _ H3 (Rat0.low_of b0) (Nat.lt_of_le_of_lt (Rat0.top_le a b) la) (Nat.lt_of_le_of_lt (Rat0.bot_le a b) lb) np (k2.trans (.of s3)) (p2.mono s3 (Nat.le_refl _)) hq
    wtm_at "w0"
    wtm_at "wp"
    refine ⟨p, n, rfl, hp, by omega, fun d1 H1 l1 k1 p1 => ?_⟩
    wtm_at "wp"
    refine ⟨p, _, rfl, p1, by omega, fun d2 H2 l2 k2 p2 => ?_⟩
    wtm_at "wp"
    refine w_dec (fun _ => ?_) (fun e => ?_)
    · wtm_at "wp"
      exact fin _ _ _ (by decide) l1 (by decide) (k1.trans k2) (p2.mono (Same.refl _) (by omega))
    · wtm_at "wp"
      exact fin _ _ _ (fun z => e (by rw [z])) l1 l2 (k1.trans k2) (p2.mono (Same.refl _) (by omega))
end
end K32

namespace K32
section
variable {P : Program} {w : World} {K : PySem.W.Frag} {mg : Str → Option Value} {base : Heap} {C : Addr}
/-! ### the laws over two ratios -/
def spRight (K : PySem.W.Frag) : Sp := fun vs H Q _ => ∃ (p q : Addr) (a b c d : Int), vs = [.ref p, .ref q] ∧ SqT K H p [.int a, .int b] ∧ SqT K H q [.int c, .int d] ∧ Rat0.Low a b ∧ Rat0.Low c d ∧
  a.natAbs < 10 ^ 45 ∧ b.natAbs < 10 ^ 45 ∧ c.natAbs < 10 ^ 45 ∧ d.natAbs < 10 ^ 45 ∧ ∀ H', Same H H' → Q (.bl true) H'
theorem f45 {n : Nat} (h : n < 10 ^ 45) : n < 2 ^ 150 := Nat.lt_trans h (by decide +kernel)
theorem f45' {n : Nat} (h : n < 10 ^ 45) : n < 10 ^ 300 := Nat.lt_trans h (by decide +kernel)
theorem ok_right {f : Addr} {fd : FuncData} (F : Fun K "_law_right" "_law_right" s_law_right f fd) (T : Txt K mg C) (mk_Ratio_2 : Mkr P w K mg base "Ratio" C 3 ["self", "top", "bottom"] [] (spInit C))
    (f__law_plus : Fn P w K mg base "_law_plus" 2 ["_law_one", "_law_other"] (spLPlus K)) (f__law_low : Fn P w K mg base "_law_low" 1 ["_law_upper", "_law_lower"] (spLow K)) (f__law_less : Fn P w K mg base "_law_less" 1 ["_law_one", "_law_other"] (spLLess K))
    (f__law_is_ratio : Fn P w K mg base "_law_is_ratio" 1 ["_law_told", "_law_due"] (spIsR K C)) (f__law_is_truth : Fn P w K mg base "_law_is_truth" 1 ["_law_told", "_law_due"] spTruth)
    (me_Ratio_plus : Me P w K mg base C "plus" 6 ["self", "other"] (spPlus C)) (me_Ratio_times : Me P w K mg base C "times" 6 ["self", "other"] (spTimes C)) (me_Ratio_is_less : Me P w K mg base C "is_less" 1 ["self", "other"] (spLess C)) :
    FnOk P w K mg base CX0 7 f fd ["_law_one", "_law_other"] (spRight K) := by
  have hc := T.cl_Ratio
  have h1 := T.na_top
  have h2 := T.na_bottom
  refine F.ok sc_law_right (fun vs H Q E h => ?_) (fun cdv A outer s H vs Q E hr h => ?_)
  · obtain ⟨r, r', a, b, c, d, rfl, _⟩ := h
    rfl
  · obtain ⟨p, q, a, b, c, d, rfl, hp, hq, l1, l2, la, lb, lc, ld, k⟩ := h
    have b0 : b ≠ 0 := by have := l1.pos; omega
    have d0 : d ≠ 0 := by have := l2.pos; omega
    have ba := f45 la
    have bb := f45 lb
    have bc := f45 lc
    have bd := f45 ld
    refine ⟨_, (pss_cons (ps_par (i := 2) (j := 3) (by rfl) sc_law_right.nd rfl rfl (by decide) rfl rfl (pa_cons (pe_mkr mk_Ratio_2 (hr.mono (by decide)) rfl (pa_cons (pe_ix ix_tup (pv 0) pe_int (fun _ _ => rfl)) (pa_cons (pe_ix ix_tup (pv 0) pe_int (fun _ _ => rfl)) pa_nil))) (pa_cons (pe_mkr mk_Ratio_2 (hr.mono (by decide)) rfl (pa_cons (pe_ix ix_tup (pv 1) pe_int (fun _ _ => rfl)) (pa_cons (pe_ix ix_tup (pv 1) pe_int (fun _ _ => rfl)) pa_nil))) pa_nil)) (by rfl))
 (pss_cons (ps_set (i := 4) sc_law_right.nd rfl (.inl rfl) (pe_lst (pa_cons (pe_fn f__law_plus (hr.mono (by decide)) rfl (pa_cons (pv 0) (pa_cons (pv 1) pa_nil))) (pa_cons (pe_fn f__law_low (hr.mono (by decide)) rfl (pa_cons (pe_op op_mulU (pe_ix ix_tup (pv 0) pe_int (fun _ _ => rfl)) (pe_ix ix_tup (pv 1) pe_int (fun _ _ => rfl))) (pa_cons (pe_op op_mulU (pe_ix ix_tup (pv 0) pe_int (fun _ _ => rfl)) (pe_ix ix_tup (pv 1) pe_int (fun _ _ => rfl))) pa_nil))) pa_nil))))
 (pss_cons (ps_set (i := 5) sc_law_right.nd rfl (.inl rfl) (pe_lst (pa_cons (pe_me (pv 2) T.cl_Ratio me_Ratio_plus (hr.mono (by decide)) (pa_cons (pv 3) pa_nil)) (pa_cons (pe_me (pv 2) T.cl_Ratio me_Ratio_times (hr.mono (by decide)) (pa_cons (pv 3) pa_nil)) pa_nil))))
 (pss_cons (ps_if (PW.pt (pw_or (pt_not (pt_val (pe_fn f__law_is_ratio (hr.mono (by decide)) rfl (pa_cons (pe_ix ix_list (pv 5) pe_int (fun _ _ => rfl)) (pa_cons (pe_ix ix_list (pv 4) pe_int (fun _ _ => rfl)) pa_nil))))) (pw_or1 (pt_not (pt_val (pe_fn f__law_is_ratio (hr.mono (by decide)) rfl (pa_cons (pe_ix ix_list (pv 5) pe_int (fun _ _ => rfl)) (pa_cons (pe_ix ix_list (pv 4) pe_int (fun _ _ => rfl)) pa_nil))))))))
 (pss_one (ps_ret pe_bl))
 pss_nil)
 (pss_cons (ps_if (pt_not (pt_val (pe_fn f__law_is_truth (hr.mono (by decide)) rfl (pa_cons (pe_me (pv 2) T.cl_Ratio me_Ratio_is_less (hr.mono (by decide)) (pa_cons (pv 3) pa_nil)) (pa_cons (pe_fn f__law_less (hr.mono (by decide)) rfl (pa_cons (pv 0) (pa_cons (pv 1) pa_nil))) pa_nil)))))
 (pss_one (ps_ret pe_bl))
 pss_nil)
 (pss_cons (ps_if (PW.pt (pw_or (pt_not (pt_val (pe_fn f__law_is_truth (hr.mono (by decide)) rfl (pa_cons (pe_me (pv 3) T.cl_Ratio me_Ratio_is_less (hr.mono (by decide)) (pa_cons (pv 2) pa_nil)) (pa_cons (pe_fn f__law_less (hr.mono (by decide)) rfl (pa_cons (pv 1) (pa_cons (pv 0) pa_nil))) pa_nil))))) (pw_or1 (pt_val (pe_me (pv 2) T.cl_Ratio me_Ratio_is_less (hr.mono (by decide)) (pa_cons (pv 2) pa_nil))))))
 (pss_one (ps_ret pe_bl))
 pss_nil)
 (pss_cons (ps_set (i := 6) sc_law_right.nd rfl (.inl rfl) (pe_me (pe_me (pe_ix ix_list (pv 5) pe_int (fun _ _ => rfl)) T.cl_Ratio me_Ratio_times (hr.mono (by decide)) (pa_cons (pe_ix ix_list (pv 5) pe_int (fun _ _ => rfl)) pa_nil)) T.cl_Ratio me_Ratio_plus (hr.mono (by decide)) (pa_cons (pv 2) pa_nil)))
 (pss_cons (ps_if (pt_not (pt_val (pe_fn f__law_is_ratio (hr.mono (by decide)) rfl (pa_cons (pv 6) (pa_cons (pe_fn f__law_plus (hr.mono (by decide)) rfl (pa_cons (pe_fn f__law_low (hr.mono (by decide)) rfl (pa_cons (pe_op op_mulU (pe_ix ix_tup (pe_ix ix_list (pv 4) pe_int (fun _ _ => rfl)) pe_int (fun _ _ => rfl)) (pe_ix ix_tup (pe_ix ix_list (pv 4) pe_int (fun _ _ => rfl)) pe_int (fun _ _ => rfl))) (pa_cons (pe_op op_mulU (pe_ix ix_tup (pe_ix ix_list (pv 4) pe_int (fun _ _ => rfl)) pe_int (fun _ _ => rfl)) (pe_ix ix_tup (pe_ix ix_list (pv 4) pe_int (fun _ _ => rfl)) pe_int (fun _ _ => rfl))) pa_nil))) (pa_cons (pv 0) pa_nil))) pa_nil)))))
 (pss_one (ps_ret pe_bl))
 pss_nil)
 (pss_cons (ps_if (pt_not (pt_val (pe_fn f__law_is_truth (hr.mono (by decide)) rfl (pa_cons (pe_me (pv 6) T.cl_Ratio me_Ratio_is_less (hr.mono (by decide)) (pa_cons (pe_ix ix_list (pv 5) pe_int (fun _ _ => rfl)) pa_nil)) (pa_cons (pe_fn f__law_less (hr.mono (by decide)) rfl (pa_cons (pe_tup (pa_cons (pe_fld (pv 6) rfl) (pa_cons (pe_fld (pv 6) rfl) pa_nil))) (pa_cons (pe_ix ix_list (pv 4) pe_int (fun _ _ => rfl)) pa_nil))) pa_nil)))))
 (pss_one (ps_ret pe_bl))
 pss_nil)
 (pss_one (ps_ret (pe_and (pe_fn f__law_is_ratio (hr.mono (by decide)) rfl (pa_cons (pv 2) (pa_cons (pv 0) pa_nil))) (pe_one (pe_fn f__law_is_ratio (hr.mono (by decide)) rfl (pa_cons (pv 3) (pa_cons (pv 1) pa_nil)))))))))))))))), ?_⟩
    wtm_at "w0"
    have nb : b * d ≠ 0 := Int.mul_ne_zero b0 d0
    have m1 := wide_lt ba bd
    have m2 := wide_lt bc bb
    have m3 := wide_lt bb bd
    have m4 := wide_lt ba bc
    have m5 := Rat0.add_lt m1 m2
    have x1 := Nat.lt_of_le_of_lt (Rat0.top_le (a * d + c * b) (b * d)) m5
    have y1 := Nat.lt_of_le_of_lt (Rat0.bot_le (a * d + c * b) (b * d)) m3
    have x2 := Nat.lt_of_le_of_lt (Rat0.top_le (a * c) (b * d)) m4
    have y2 := Nat.lt_of_le_of_lt (Rat0.bot_le (a * c) (b * d)) m3
    have ny1 : Rat0.bot (a * d + c * b) (b * d) ≠ 0 := by have := Rat0.bot_pos (t := a * d + c * b) nb; omega
    have ny2 : Rat0.bot (a * c) (b * d) ≠ 0 := by have := Rat0.bot_pos (t := a * c) nb; omega
    wtm_at "wp"
    rename_i m dm nm ndm Hm sm hm
    refine ⟨_, _, a, b, rfl, hm, f45' la, f45' lb, b0, fun Ha ka ha => ⟨rfl, ?_⟩⟩
    rw [l1.top, l1.bot] at ha
    have sa : Same H Ha := ka.same sm nm
    clear ka sm hm
    wtm_at "wp"
    rename_i y dy ny ndy Hy sy hy
    refine ⟨_, _, c, d, rfl, hy, f45' lc, f45' ld, d0, fun Hb kb hb => ⟨rfl, ?_⟩⟩
    rw [l2.top, l2.bot] at hb
    have sb : Same Ha Hb := kb.same sy ny
    clear kb sy hy
    wtm_at "wp"
    refine ⟨p, q, a, b, c, d, rfl, by wtm_at "seq", by wtm_at "seq", b0, d0, Rat0.up_lt ba (by decide), Rat0.up_lt bb (by decide), Rat0.up_lt bc (by decide), Rat0.up_lt bd (by decide), fun o1 H1 n1 s1 e1 => ?_⟩
    generalize hX1 : Rat0.top (a * d + c * b) (b * d) = X1 at *
    generalize hY1 : Rat0.bot (a * d + c * b) (b * d) = Y1 at *
    wtm_at "wp"
    · exact mulW ba bc (by decide) (by decide) (by decide)
    wtm_at "wp"
    · exact mulW bb bd (by decide) (by decide) (by decide)
    wtm_at "wp"
    refine ⟨_, _, rfl, nb, Rat0.up_lt m3 (by decide), fun o2 H2 n2 s2 e2 => ?_⟩
    generalize hX2 : Rat0.top (a * c) (b * d) = X2 at *
    generalize hY2 : Rat0.bot (a * c) (b * d) = Y2 at *
    wtm_at "wp"
    rename_i du nd H3 s3 e3
    refine ⟨m, y, a, b, c, d, rfl, ⟨_, by wtm_at "look"⟩, ⟨_, by wtm_at "look"⟩, b0, d0, Rat0.up_lt ba (by decide), Rat0.up_lt bb (by decide), Rat0.up_lt bc (by decide), Rat0.up_lt bd (by decide), fun t1 H4 n4 s4 ⟨d4, e4⟩ => ?_⟩
    rw [hX1, hY1] at e4
    wtm_at "wp"
    refine ⟨m, y, a, b, c, d, rfl, ⟨_, by wtm_at "look"⟩, ⟨_, by wtm_at "look"⟩, b0, d0, Rat0.up_lt ba (by decide), Rat0.up_lt bb (by decide), Rat0.up_lt bc (by decide), Rat0.up_lt bd (by decide), fun t2 H5 n5 s5 ⟨d5, e5⟩ => ?_⟩
    rw [hX2, hY2] at e5
    wtm_at "wp"
    rename_i to nt H6 s6 e6
    refine ⟨t1, o1, _, _, rfl, ⟨_, by wtm_at "look"⟩, by wtm_at "seq", fun H7 s7 => ?_⟩
    wtm_at "wp"
    refine ⟨t2, o2, _, _, rfl, ⟨_, by wtm_at "look"⟩, by wtm_at "seq", fun H8 s8 => ?_⟩
    wtm_at "wp"
    refine ⟨m, y, a, b, c, d, rfl, ⟨_, by wtm_at "look"⟩, ⟨_, by wtm_at "look"⟩, Rat0.up_lt ba (by decide), Rat0.up_lt bb (by decide), Rat0.up_lt bc (by decide), Rat0.up_lt bd (by decide), ?_⟩
    wtm_at "wp"
    refine ⟨p, q, a, b, c, d, rfl, by wtm_at "seq", by wtm_at "seq", Rat0.up_lt ba (by decide), Rat0.up_lt bb (by decide), Rat0.up_lt bc (by decide), Rat0.up_lt bd (by decide), ?_⟩
    wtm_at "wp"
    refine ⟨_, rfl, ?_⟩
    wtm_at "wp"
    refine ⟨y, m, c, d, a, b, rfl, ⟨_, by wtm_at "look"⟩, ⟨_, by wtm_at "look"⟩, Rat0.up_lt bc (by decide), Rat0.up_lt bd (by decide), Rat0.up_lt ba (by decide), Rat0.up_lt bb (by decide), ?_⟩
    wtm_at "wp"
    refine ⟨q, p, c, d, a, b, rfl, by wtm_at "seq", by wtm_at "seq", Rat0.up_lt bc (by decide), Rat0.up_lt bd (by decide), Rat0.up_lt ba (by decide), Rat0.up_lt bb (by decide), ?_⟩
    wtm_at "wp"
    refine ⟨_, rfl, ?_⟩
    wtm_at "wp"
    refine ⟨m, m, a, b, a, b, rfl, ⟨_, by wtm_at "look"⟩, ⟨_, by wtm_at "look"⟩, Rat0.up_lt ba (by decide), Rat0.up_lt bb (by decide), Rat0.up_lt ba (by decide), Rat0.up_lt bb (by decide), ?_⟩
    wtm_at "wp"
    refine w_dec (fun z => absurd z (Int.lt_irrefl _)) (fun _ => ?_)
    wtm_at "wp"
    refine ⟨t1, t2, X1, Y1, X2, Y2, rfl, ⟨_, by wtm_at "look"⟩, ⟨_, by wtm_at "look"⟩, ny1, ny2, Rat0.up_lt x1 (by decide), Rat0.up_lt y1 (by decide), Rat0.up_lt x2 (by decide), Rat0.up_lt y2 (by decide), fun t3 H9 n9 s9 ⟨d9, e9⟩ => ?_⟩
    have nyy : Y1 * Y2 ≠ 0 := Int.mul_ne_zero ny1 ny2
    have m6 := wide_lt x1 x2
    have m7 := wide_lt y1 y2
    have x3 := Nat.lt_of_le_of_lt (Rat0.top_le (X1 * X2) (Y1 * Y2)) m6
    have y3 := Nat.lt_of_le_of_lt (Rat0.bot_le (X1 * X2) (Y1 * Y2)) m7
    have ny3 : Rat0.bot (X1 * X2) (Y1 * Y2) ≠ 0 := by have := Rat0.bot_pos (t := X1 * X2) nyy; omega
    generalize hX3 : Rat0.top (X1 * X2) (Y1 * Y2) = X3 at *
    generalize hY3 : Rat0.bot (X1 * X2) (Y1 * Y2) = Y3 at *
    wtm_at "wp"
    refine ⟨t3, m, X3, Y3, a, b, rfl, ⟨_, by wtm_at "look"⟩, ⟨_, by wtm_at "look"⟩, ny3, b0, Rat0.up_lt x3 (by decide), Rat0.up_lt y3 (by decide), Rat0.up_lt ba (by decide), Rat0.up_lt bb (by decide), fun t4 H10 n10 s10 ⟨d10, e10⟩ => ?_⟩
    have m8 := Rat0.up_lt (wide_lt x3 bb) (show 301 + 300 + 150 ≤ 800 by decide)
    have m9 := Rat0.up_lt (wide_lt ba y3) (show 150 + (300 + 300) ≤ 800 by decide)
    have m10 := Rat0.add_lt m8 m9
    have m11 := wide_lt y3 bb
    have x4 := Nat.lt_of_le_of_lt (Rat0.top_le (X3 * b + a * Y3) (Y3 * b)) m10
    have y4 := Nat.lt_of_le_of_lt (Rat0.bot_le (X3 * b + a * Y3) (Y3 * b)) m11
    generalize hX4 : Rat0.top (X3 * b + a * Y3) (Y3 * b) = X4 at *
    generalize hY4 : Rat0.bot (X3 * b + a * Y3) (Y3 * b) = Y4 at *
    wtm_at "wp"
    · exact mulW x1 x2 (by decide) (by decide) (by decide)
    wtm_at "wp"
    · exact mulW y1 y2 (by decide) (by decide) (by decide)
    wtm_at "wp"
    refine ⟨_, _, rfl, nyy, Rat0.up_lt m7 (by decide), fun o3 H11 n11 s11 e11 => ?_⟩
    rw [hX3, hY3] at e11
    wtm_at "wp"
    refine ⟨o3, p, X3, Y3, a, b, rfl, by wtm_at "seq", by wtm_at "seq", ny3, b0, Rat0.up_lt x3 (by decide), Rat0.up_lt y3 (by decide), Rat0.up_lt ba (by decide), Rat0.up_lt bb (by decide), fun o4 H12 n12 s12 e12 => ?_⟩
    rw [hX4, hY4] at e12
    wtm_at "wp"
    refine ⟨t4, o4, _, _, rfl, ⟨_, by wtm_at "look"⟩, by wtm_at "seq", fun H13 s13 => ?_⟩
    wtm_at "wp"
    refine ⟨t4, t1, X4, Y4, X1, Y1, rfl, ⟨_, by wtm_at "look"⟩, ⟨_, by wtm_at "look"⟩, Rat0.up_lt x4 (by decide), Rat0.up_lt y4 (by decide), Rat0.up_lt x1 (by decide), Rat0.up_lt y1 (by decide), ?_⟩
    wtm_at "wp"
    rename_i o5 n5' H14 s14 e14
    refine ⟨o5, o1, X4, Y4, X1, Y1, rfl, by wtm_at "seq", by wtm_at "seq", Rat0.up_lt x4 (by decide), Rat0.up_lt y4 (by decide), Rat0.up_lt x1 (by decide), Rat0.up_lt y1 (by decide), ?_⟩
    wtm_at "wp"
    refine ⟨_, rfl, ?_⟩
    wtm_at "wp"
    refine ⟨m, p, _, _, rfl, ⟨_, by wtm_at "look"⟩, by wtm_at "seq", fun H15 s15 => ?_⟩
    wtm_at "wp"
    refine ⟨y, q, _, _, rfl, ⟨_, by wtm_at "look"⟩, by wtm_at "seq", fun H16 s16 => ?_⟩
    refine k _ ?_
    exact sa.trans (sb.trans (s1.trans (s2.trans (s3.trans (s4.trans (s5.trans (s6.trans (s7.trans (s8.trans (s9.trans (s10.trans (s11.trans (s12.trans (s13.trans (s14.trans (s15.trans s16))))))))))))))))
end
end K32

namespace K32
section
variable {P : Program} {w : World} {K : PySem.W.Frag} {mg : Str → Option Value} {base : Heap} {C : Addr}
def spLaw (K : PySem.W.Frag) : Sp := fun vs H Q _ => ∃ (a : Addr) (ns : List Int), vs = [.ref a] ∧ SqL K H a (ns.map V.int) ∧ ns.length ≤ 63 ∧ ∀ H', Q (.bl true) H'
theorem Purse.at {H : Hp} {p : Addr} {n : Nat} (h : Purse H p n) : ∃ o, H p = some o := by
  obtain ⟨_, _, _, h, _⟩ := h
  exact ⟨_, h⟩
theorem ok_law {f : Addr} {fd : FuncData} (F : Fun K "law" "law" s_law f fd) (T : Txt K mg C) (f__law_purse : Fn P w K mg base "_law_purse" 1 ["_law_script", "_law_at"] (spPurse K)) (f__law_take : Fn P w K mg base "_law_take" 1 ["_law_purse_here", "_law_many"] spTake)
    (f__law_drawn_ratio : Fn P w K mg base "_law_drawn_ratio" 3 ["_law_purse_here"] spDrawn) (f__law_right : Fn P w K mg base "_law_right" 7 ["_law_one", "_law_other"] (spRight K)) : FnOk P w K mg base CX0 8 f fd ["_law_script"] (spLaw K) := by
  refine F.ok sc_law (fun vs H Q E h => ?_) (fun cdv A outer s H vs Q E hr h => ?_)
  · obtain ⟨a, ns, rfl, _⟩ := h
    rfl
  · obtain ⟨a, ns, rfl, hS, hlen, k⟩ := h
    refine ⟨_, (pss_cons (ps_for PassesOwn.never rfl (pi_range1 (by rfl) T.n_range (pa_cons (pe_callB (cl_max rfl) (by rfl) T.n_max PyProof.Rows.boot_max (pa_cons pe_int (pa_cons (pe_callB (cl_min rfl) (by rfl) T.n_min PyProof.Rows.boot_min (pa_cons (pe_callB cl_len (by rfl) T.n_len PySem.boot_len (pa_cons (pv 0) pa_nil)) (pa_cons pe_int pa_nil))) pa_nil))) pa_nil)) (pg_name (i := 1) sc_law.nd rfl (.inl rfl))
 (pss_cons (ps_set (i := 2) sc_law.nd rfl (.inl rfl) (pe_fn f__law_purse (hr.mono (by decide)) rfl (pa_cons (pv 0) (pa_cons (pv 1) pa_nil))))
 (pss_cons (ps_set (i := 3) sc_law.nd rfl (.inl rfl) (pe_fn f__law_take (hr.mono (by decide)) rfl (pa_cons (pv 2) (pa_cons pe_int pa_nil))))
 (pss_cons (ps_par (i := 4) (j := 5) (by rfl) sc_law.nd rfl rfl (by decide) rfl rfl (pa_cons (pe_fn f__law_drawn_ratio (hr.mono (by decide)) rfl (pa_cons (pv 2) pa_nil)) (pa_cons (pe_fn f__law_drawn_ratio (hr.mono (by decide)) rfl (pa_cons (pv 2) pa_nil)) pa_nil)) (by rfl))
 (pss_cons (ps_if (pt_cmpR op_eq (pv 3) pe_int (nomark _))
 (pss_one (ps_set (i := 5) sc_law.nd rfl (.inl rfl) (pv 4)))
 pss_nil)
 (pss_cons (ps_if (pt_cmpR op_eq (pv 3) pe_int (nomark _))
 (pss_one (ps_set (i := 5) sc_law.nd rfl (.inl rfl) (pe_tup (pa_cons (pe_op op_sub pe_int (pe_ix ix_tup (pv 4) pe_int (fun _ _ => rfl))) (pa_cons (pe_ix ix_tup (pv 4) pe_int (fun _ _ => rfl)) pa_nil)))))
 pss_nil)
 (pss_one (ps_if (PW.pt (pw_or (pt_not (pt_val (pe_fn f__law_right (hr.mono (by decide)) rfl (pa_cons (pv 4) (pa_cons (pv 5) pa_nil))))) (pw_or1 (pt_not (pt_val (pe_fn f__law_right (hr.mono (by decide)) rfl (pa_cons (pv 5) (pa_cons (pv 4) pa_nil))))))))
 (pss_one (ps_ret pe_bl))
 pss_nil))))))))
 (pss_one (ps_ret pe_bl))), ?_⟩
    wtm_at "w0"
    wtm_at "wp"
    rw [List.length_map]
    refine ⟨_, rfl, by omega, by omega, for_range (n := (max (2 : Int) (min (ns.length : Int) 12)).toNat) (fun i σ H' => ∃ v1 v2 v3 v4 v5 : Option V, σ = [some (.ref a), v1, v2, v3, v4, v5] ∧ Same H H') ?_ ?_ ?_⟩
    · exact ⟨_, _, _, _, _, rfl, Same.refl _⟩
    · rintro i σ H0 hi ⟨v1, v2, v3, v4, v5, rfl, s0⟩
      wtm_at "wp"
      rw [Int.zero_add]
      refine ⟨a, ns, i, rfl, s0.seq hS, by omega, fun p H1 np s1 p1 => ?_⟩
      wtm_at "wp"
      refine ⟨p, 8, _, rfl, p1, by omega, by decide, by decide, fun so H2 so0 so1 k2 p2 => ?_⟩
      wtm_at "wp"
      refine ⟨p, _, rfl, p2, by omega, fun o1 a1 b1 H3 l1 la1 lb1 n3 k3 p3 e3 => ?_⟩
      wtm_at "wp"
      refine ⟨p, _, rfl, p3, by omega, fun o2 a2 b2 H4 l2 la2 lb2 n4 k4 p4 e4 => ?_⟩
      obtain ⟨_, hp2⟩ := p2.at
      have ne1 : o1 ≠ p := (ne_of_none hp2 n3).symm
      have e3' : H4 o1 = some (.tup [.int a1, .int b1]) := k4 _ _ e3 ne1
      have s4 : Same H0 H4 := (k2.trans (k3.trans k4)).same s1 np
      have s5 : Same H H4 := s0.trans s4
      clear k2 k3 k4 s1 s4 s0 p1 p2 p3 hp2
      wtm_at "wp"
      refine w_dec (fun z0 => ?_) (fun z0 => ?_)
      · wtm_at "wp"
        refine w_dec (fun z1 => absurd (z0.symm.trans z1) (by simp)) (fun z1 => ?_)
        wtm_at "wp"
        refine ⟨o1, o1, a1, b1, a1, b1, rfl, SqT.of e3', SqT.of e3', l1, l1, la1, lb1, la1, lb1, fun H5 s6 => ?_⟩
        wtm_at "wp"
        refine ⟨o1, o1, a1, b1, a1, b1, rfl, by wtm_at "seq", by wtm_at "seq", l1, l1, la1, lb1, la1, lb1, fun H6 s7 => ?_⟩
        wtm_at "wp"
        exact ⟨_, _, _, _, _, rfl, s5.trans (s6.trans s7)⟩
      · wtm_at "wp"
        refine w_dec (fun z1 => ?_) (fun z1 => ?_)
        · wtm_at "wp"
          rename_i o3 n5 H5 s6 e5
          have ln : Rat0.Low (0 - a1) b1 := by
            rw [Int.zero_sub]
            exact l1.neg
          have lan : (0 - a1).natAbs < 10 ^ 45 := by
            rw [Int.zero_sub, Int.natAbs_neg]
            exact la1
          refine ⟨o1, o3, a1, b1, 0 - a1, b1, rfl, by wtm_at "seq", SqT.of e5, l1, ln, la1, lb1, lan, lb1, fun H6 s7 => ?_⟩
          wtm_at "wp"
          refine ⟨o3, o1, 0 - a1, b1, a1, b1, rfl, by wtm_at "seq", by wtm_at "seq", ln, l1, lan, lb1, la1, lb1, fun H7 s8 => ?_⟩
          wtm_at "wp"
          exact ⟨_, _, _, _, _, rfl, s5.trans (s6.trans (s7.trans s8))⟩
        · wtm_at "wp"
          refine ⟨o1, o2, a1, b1, a2, b2, rfl, SqT.of e3', SqT.of e4, l1, l2, la1, lb1, la2, lb2, fun H5 s6 => ?_⟩
          wtm_at "wp"
          refine ⟨o2, o1, a2, b2, a1, b1, rfl, by wtm_at "seq", by wtm_at "seq", l2, l1, la2, lb2, la1, lb1, fun H6 s7 => ?_⟩
          wtm_at "wp"
          exact ⟨_, _, _, _, _, rfl, s5.trans (s6.trans s7)⟩
    · rintro σ H1 ⟨v1, v2, v3, v4, v5, rfl, _⟩
      wtm_at "wp"
      exact k _
end
end K32

namespace K32
theorem all_mk {l : PySem.W.OpenLaw} {w : World} {K : PySem.W.Frag} {h : Heap} {mg : Str → Option Value} {fa : Addr} (X : K.In h) (G : h.Ns mainGlobals mg) (hfa : mg "law" = some (.ref fa))
    {C_Ratio : Addr}
    {f_Ratio_set_lowest : Addr} {od_Ratio_set_lowest an_Ratio_set_lowest : Option Addr} {sl_Ratio_set_lowest : Array (Option Value)} {oc_Ratio_set_lowest kV_Ratio_set_lowest dc_Ratio_set_lowest pm_Ratio_set_lowest cd_Ratio_set_lowest ct_Ratio_set_lowest : Value}
    {f_Ratio_plus : Addr} {od_Ratio_plus an_Ratio_plus : Option Addr} {sl_Ratio_plus : Array (Option Value)} {oc_Ratio_plus kV_Ratio_plus dc_Ratio_plus pm_Ratio_plus cd_Ratio_plus ct_Ratio_plus : Value}
    {f_Ratio_times : Addr} {od_Ratio_times an_Ratio_times : Option Addr} {sl_Ratio_times : Array (Option Value)} {oc_Ratio_times kV_Ratio_times dc_Ratio_times pm_Ratio_times cd_Ratio_times ct_Ratio_times : Value}
    {f_Ratio_is_less : Addr} {od_Ratio_is_less an_Ratio_is_less : Option Addr} {sl_Ratio_is_less : Array (Option Value)} {oc_Ratio_is_less kV_Ratio_is_less dc_Ratio_is_less pm_Ratio_is_less cd_Ratio_is_less ct_Ratio_is_less : Value}
    {T_Ratio : Addr} {ocT_Ratio : Value} {odT_Ratio : Option Addr} {nT_Ratio : Nat} {slT_Ratio : Array (Option Value)} {tk0_Ratio : Tok}
    {f_Ratio___init__ : Addr} {od_Ratio___init__ an_Ratio___init__ : Option Addr} {sl_Ratio___init__ : Array (Option Value)} {oc_Ratio___init__ kV_Ratio___init__ dc_Ratio___init__ pm_Ratio___init__ cd_Ratio___init__ ct_Ratio___init__ : Value}
    {f_common_part : Addr} {od_common_part an_common_part : Option Addr} {sl_common_part : Array (Option Value)} {oc_common_part kV_common_part dc_common_part pm_common_part cd_common_part ct_common_part : Value}
    {f_is_figured : Addr} {od_is_figured an_is_figured : Option Addr} {sl_is_figured : Array (Option Value)} {oc_is_figured kV_is_figured dc_is_figured pm_is_figured cd_is_figured ct_is_figured : Value}
    {f_made_of : Addr} {od_made_of an_made_of : Option Addr} {sl_made_of : Array (Option Value)} {oc_made_of kV_made_of dc_made_of pm_made_of cd_made_of ct_made_of : Value}
    {f_law_low : Addr} {od_law_low an_law_low : Option Addr} {sl_law_low : Array (Option Value)} {oc_law_low kV_law_low dc_law_low pm_law_low cd_law_low ct_law_low : Value}
    {f_law_plus : Addr} {od_law_plus an_law_plus : Option Addr} {sl_law_plus : Array (Option Value)} {oc_law_plus kV_law_plus dc_law_plus pm_law_plus cd_law_plus ct_law_plus : Value}
    {f_law_less : Addr} {od_law_less an_law_less : Option Addr} {sl_law_less : Array (Option Value)} {oc_law_less kV_law_less dc_law_less pm_law_less cd_law_less ct_law_less : Value}
    {f_law_is_truth : Addr} {od_law_is_truth an_law_is_truth : Option Addr} {sl_law_is_truth : Array (Option Value)} {oc_law_is_truth kV_law_is_truth dc_law_is_truth pm_law_is_truth cd_law_is_truth ct_law_is_truth : Value}
    {f_law_is_ratio : Addr} {od_law_is_ratio an_law_is_ratio : Option Addr} {sl_law_is_ratio : Array (Option Value)} {oc_law_is_ratio kV_law_is_ratio dc_law_is_ratio pm_law_is_ratio cd_law_is_ratio ct_law_is_ratio : Value}
    {f_law_take : Addr} {od_law_take an_law_take : Option Addr} {sl_law_take : Array (Option Value)} {oc_law_take kV_law_take dc_law_take pm_law_take cd_law_take ct_law_take : Value}
    {f_law_purse : Addr} {od_law_purse an_law_purse : Option Addr} {sl_law_purse : Array (Option Value)} {oc_law_purse kV_law_purse dc_law_purse pm_law_purse cd_law_purse ct_law_purse : Value}
    {f_law_far : Addr} {od_law_far an_law_far : Option Addr} {sl_law_far : Array (Option Value)} {oc_law_far kV_law_far dc_law_far pm_law_far cd_law_far ct_law_far : Value}
    {f_law_drawn_ratio : Addr} {od_law_drawn_ratio an_law_drawn_ratio : Option Addr} {sl_law_drawn_ratio : Array (Option Value)} {oc_law_drawn_ratio kV_law_drawn_ratio dc_law_drawn_ratio pm_law_drawn_ratio cd_law_drawn_ratio ct_law_drawn_ratio : Value}
    {f_law_right : Addr} {od_law_right an_law_right : Option Addr} {sl_law_right : Array (Option Value)} {oc_law_right kV_law_right dc_law_right pm_law_right cd_law_right ct_law_right : Value}
    {f_law : Addr} {od_law an_law : Option Addr} {sl_law : Array (Option Value)} {oc_law kV_law dc_law pm_law cd_law ct_law : Value}
    {tc_FARTHEST : Tok}
    (aC_Ratio : PySem.W.nsIn K mainGlobals "Ratio" = some (some (.ref C_Ratio)))
    (pg_Ratio : PySem.W.plainGet K C_Ratio Str.empty = true)
    (hd_Ratio : PySem.W.hasDictIn K C_Ratio = true)
    (po_Ratio : PySem.W.plainOver K C_Ratio = true)
    (sa_Ratio : PySem.W.findIn K (.ref C_Ratio) "__setattr__" = some (some (.builtin "object.__setattr__")))
    (na_Ratio_top : PySem.W.findIn K (.ref C_Ratio) "top" = some none)
    (na_Ratio_bottom : PySem.W.findIn K (.ref C_Ratio) "bottom" = some none)
    (a_Ratio_set_lowest : PySem.W.findIn K (.ref C_Ratio) "set_lowest" = some (some (.ref f_Ratio_set_lowest)))
    (i_Ratio_set_lowest : PySem.W.isFn K (.ref f_Ratio_set_lowest) = true)
    (l_Ratio_set_lowest : K.lookup f_Ratio_set_lowest = some ⟨oc_Ratio_set_lowest, od_Ratio_set_lowest, .func (PySem.W.fnOf "set_lowest" "Ratio.set_lowest" (defArgs s_Ratio_set_lowest) (defBody s_Ratio_set_lowest) (defScope s_Ratio_set_lowest) .none kV_Ratio_set_lowest dc_Ratio_set_lowest pm_Ratio_set_lowest an_Ratio_set_lowest cd_Ratio_set_lowest ct_Ratio_set_lowest), sl_Ratio_set_lowest⟩)
    (c_Ratio_set_lowest : PySem.W.codeIn K cd_Ratio_set_lowest "Ratio.set_lowest" = true)
    (k_Ratio_set_lowest : PySem.W.keepIn K (.ref f_Ratio_set_lowest) = true)
    (a_Ratio_plus : PySem.W.findIn K (.ref C_Ratio) "plus" = some (some (.ref f_Ratio_plus)))
    (i_Ratio_plus : PySem.W.isFn K (.ref f_Ratio_plus) = true)
    (l_Ratio_plus : K.lookup f_Ratio_plus = some ⟨oc_Ratio_plus, od_Ratio_plus, .func (PySem.W.fnOf "plus" "Ratio.plus" (defArgs s_Ratio_plus) (defBody s_Ratio_plus) (defScope s_Ratio_plus) .none kV_Ratio_plus dc_Ratio_plus pm_Ratio_plus an_Ratio_plus cd_Ratio_plus ct_Ratio_plus), sl_Ratio_plus⟩)
    (c_Ratio_plus : PySem.W.codeIn K cd_Ratio_plus "Ratio.plus" = true)
    (k_Ratio_plus : PySem.W.keepIn K (.ref f_Ratio_plus) = true)
    (a_Ratio_times : PySem.W.findIn K (.ref C_Ratio) "times" = some (some (.ref f_Ratio_times)))
    (i_Ratio_times : PySem.W.isFn K (.ref f_Ratio_times) = true)
    (l_Ratio_times : K.lookup f_Ratio_times = some ⟨oc_Ratio_times, od_Ratio_times, .func (PySem.W.fnOf "times" "Ratio.times" (defArgs s_Ratio_times) (defBody s_Ratio_times) (defScope s_Ratio_times) .none kV_Ratio_times dc_Ratio_times pm_Ratio_times an_Ratio_times cd_Ratio_times ct_Ratio_times), sl_Ratio_times⟩)
    (c_Ratio_times : PySem.W.codeIn K cd_Ratio_times "Ratio.times" = true)
    (k_Ratio_times : PySem.W.keepIn K (.ref f_Ratio_times) = true)
    (a_Ratio_is_less : PySem.W.findIn K (.ref C_Ratio) "is_less" = some (some (.ref f_Ratio_is_less)))
    (i_Ratio_is_less : PySem.W.isFn K (.ref f_Ratio_is_less) = true)
    (l_Ratio_is_less : K.lookup f_Ratio_is_less = some ⟨oc_Ratio_is_less, od_Ratio_is_less, .func (PySem.W.fnOf "is_less" "Ratio.is_less" (defArgs s_Ratio_is_less) (defBody s_Ratio_is_less) (defScope s_Ratio_is_less) .none kV_Ratio_is_less dc_Ratio_is_less pm_Ratio_is_less an_Ratio_is_less cd_Ratio_is_less ct_Ratio_is_less), sl_Ratio_is_less⟩)
    (c_Ratio_is_less : PySem.W.codeIn K cd_Ratio_is_less "Ratio.is_less" = true)
    (k_Ratio_is_less : PySem.W.keepIn K (.ref f_Ratio_is_less) = true)
    (a_Ratio___init__ : PySem.W.findIn K (.ref C_Ratio) "__init__" = some (some (.ref f_Ratio___init__)))
    (i_Ratio___init__ : PySem.W.isFn K (.ref f_Ratio___init__) = true)
    (l_Ratio___init__ : K.lookup f_Ratio___init__ = some ⟨oc_Ratio___init__, od_Ratio___init__, .func (PySem.W.fnOf "__init__" "Ratio.__init__" (defArgs s_Ratio___init__) (defBody s_Ratio___init__) (defScope s_Ratio___init__) (.ref T_Ratio) kV_Ratio___init__ dc_Ratio___init__ pm_Ratio___init__ an_Ratio___init__ cd_Ratio___init__ ct_Ratio___init__), sl_Ratio___init__⟩)
    (c_Ratio___init__ : PySem.W.codeIn K cd_Ratio___init__ "Ratio.__init__" = true)
    (k_Ratio___init__ : PySem.W.keepIn K (.ref f_Ratio___init__) = true)
    (lT_Ratio : K.lookup T_Ratio = some ⟨ocT_Ratio, odT_Ratio, .seq (List.toArray [.int 1 tk0_Ratio]) nT_Ratio, slT_Ratio⟩)
    (mk_Ratio : PySem.W.makesIn K C_Ratio = true)
    (kc_Ratio : PySem.W.keepIn K (.ref C_Ratio) = true)
    (a_common_part : PySem.W.nsIn K mainGlobals "common_part" = some (some (.ref f_common_part)))
    (l_common_part : K.lookup f_common_part = some ⟨oc_common_part, od_common_part, .func (PySem.W.fnOf "common_part" "common_part" (defArgs s_common_part) (defBody s_common_part) (defScope s_common_part) .none kV_common_part dc_common_part pm_common_part an_common_part cd_common_part ct_common_part), sl_common_part⟩)
    (c_common_part : PySem.W.codeIn K cd_common_part "common_part" = true)
    (k_common_part : PySem.W.keepIn K (.ref f_common_part) = true)
    (a_is_figured : PySem.W.nsIn K mainGlobals "is_figured" = some (some (.ref f_is_figured)))
    (l_is_figured : K.lookup f_is_figured = some ⟨oc_is_figured, od_is_figured, .func (PySem.W.fnOf "is_figured" "is_figured" (defArgs s_is_figured) (defBody s_is_figured) (defScope s_is_figured) .none kV_is_figured dc_is_figured pm_is_figured an_is_figured cd_is_figured ct_is_figured), sl_is_figured⟩)
    (c_is_figured : PySem.W.codeIn K cd_is_figured "is_figured" = true)
    (k_is_figured : PySem.W.keepIn K (.ref f_is_figured) = true)
    (a_made_of : PySem.W.nsIn K mainGlobals "made_of" = some (some (.ref f_made_of)))
    (l_made_of : K.lookup f_made_of = some ⟨oc_made_of, od_made_of, .func (PySem.W.fnOf "made_of" "made_of" (defArgs s_made_of) (defBody s_made_of) (defScope s_made_of) .none kV_made_of dc_made_of pm_made_of an_made_of cd_made_of ct_made_of), sl_made_of⟩)
    (c_made_of : PySem.W.codeIn K cd_made_of "made_of" = true)
    (k_made_of : PySem.W.keepIn K (.ref f_made_of) = true)
    (a_law_low : PySem.W.nsIn K mainGlobals "_law_low" = some (some (.ref f_law_low)))
    (l_law_low : K.lookup f_law_low = some ⟨oc_law_low, od_law_low, .func (PySem.W.fnOf "_law_low" "_law_low" (defArgs s_law_low) (defBody s_law_low) (defScope s_law_low) .none kV_law_low dc_law_low pm_law_low an_law_low cd_law_low ct_law_low), sl_law_low⟩)
    (c_law_low : PySem.W.codeIn K cd_law_low "_law_low" = true)
    (k_law_low : PySem.W.keepIn K (.ref f_law_low) = true)
    (a_law_plus : PySem.W.nsIn K mainGlobals "_law_plus" = some (some (.ref f_law_plus)))
    (l_law_plus : K.lookup f_law_plus = some ⟨oc_law_plus, od_law_plus, .func (PySem.W.fnOf "_law_plus" "_law_plus" (defArgs s_law_plus) (defBody s_law_plus) (defScope s_law_plus) .none kV_law_plus dc_law_plus pm_law_plus an_law_plus cd_law_plus ct_law_plus), sl_law_plus⟩)
    (c_law_plus : PySem.W.codeIn K cd_law_plus "_law_plus" = true)
    (k_law_plus : PySem.W.keepIn K (.ref f_law_plus) = true)
    (a_law_less : PySem.W.nsIn K mainGlobals "_law_less" = some (some (.ref f_law_less)))
    (l_law_less : K.lookup f_law_less = some ⟨oc_law_less, od_law_less, .func (PySem.W.fnOf "_law_less" "_law_less" (defArgs s_law_less) (defBody s_law_less) (defScope s_law_less) .none kV_law_less dc_law_less pm_law_less an_law_less cd_law_less ct_law_less), sl_law_less⟩)
    (c_law_less : PySem.W.codeIn K cd_law_less "_law_less" = true)
    (k_law_less : PySem.W.keepIn K (.ref f_law_less) = true)
    (a_law_is_truth : PySem.W.nsIn K mainGlobals "_law_is_truth" = some (some (.ref f_law_is_truth)))
    (l_law_is_truth : K.lookup f_law_is_truth = some ⟨oc_law_is_truth, od_law_is_truth, .func (PySem.W.fnOf "_law_is_truth" "_law_is_truth" (defArgs s_law_is_truth) (defBody s_law_is_truth) (defScope s_law_is_truth) .none kV_law_is_truth dc_law_is_truth pm_law_is_truth an_law_is_truth cd_law_is_truth ct_law_is_truth), sl_law_is_truth⟩)
    (c_law_is_truth : PySem.W.codeIn K cd_law_is_truth "_law_is_truth" = true)
    (k_law_is_truth : PySem.W.keepIn K (.ref f_law_is_truth) = true)
    (a_law_is_ratio : PySem.W.nsIn K mainGlobals "_law_is_ratio" = some (some (.ref f_law_is_ratio)))
    (l_law_is_ratio : K.lookup f_law_is_ratio = some ⟨oc_law_is_ratio, od_law_is_ratio, .func (PySem.W.fnOf "_law_is_ratio" "_law_is_ratio" (defArgs s_law_is_ratio) (defBody s_law_is_ratio) (defScope s_law_is_ratio) .none kV_law_is_ratio dc_law_is_ratio pm_law_is_ratio an_law_is_ratio cd_law_is_ratio ct_law_is_ratio), sl_law_is_ratio⟩)
    (c_law_is_ratio : PySem.W.codeIn K cd_law_is_ratio "_law_is_ratio" = true)
    (k_law_is_ratio : PySem.W.keepIn K (.ref f_law_is_ratio) = true)
    (a_law_take : PySem.W.nsIn K mainGlobals "_law_take" = some (some (.ref f_law_take)))
    (l_law_take : K.lookup f_law_take = some ⟨oc_law_take, od_law_take, .func (PySem.W.fnOf "_law_take" "_law_take" (defArgs s_law_take) (defBody s_law_take) (defScope s_law_take) .none kV_law_take dc_law_take pm_law_take an_law_take cd_law_take ct_law_take), sl_law_take⟩)
    (c_law_take : PySem.W.codeIn K cd_law_take "_law_take" = true)
    (k_law_take : PySem.W.keepIn K (.ref f_law_take) = true)
    (a_law_purse : PySem.W.nsIn K mainGlobals "_law_purse" = some (some (.ref f_law_purse)))
    (l_law_purse : K.lookup f_law_purse = some ⟨oc_law_purse, od_law_purse, .func (PySem.W.fnOf "_law_purse" "_law_purse" (defArgs s_law_purse) (defBody s_law_purse) (defScope s_law_purse) .none kV_law_purse dc_law_purse pm_law_purse an_law_purse cd_law_purse ct_law_purse), sl_law_purse⟩)
    (c_law_purse : PySem.W.codeIn K cd_law_purse "_law_purse" = true)
    (k_law_purse : PySem.W.keepIn K (.ref f_law_purse) = true)
    (a_law_far : PySem.W.nsIn K mainGlobals "_law_far" = some (some (.ref f_law_far)))
    (l_law_far : K.lookup f_law_far = some ⟨oc_law_far, od_law_far, .func (PySem.W.fnOf "_law_far" "_law_far" (defArgs s_law_far) (defBody s_law_far) (defScope s_law_far) .none kV_law_far dc_law_far pm_law_far an_law_far cd_law_far ct_law_far), sl_law_far⟩)
    (c_law_far : PySem.W.codeIn K cd_law_far "_law_far" = true)
    (k_law_far : PySem.W.keepIn K (.ref f_law_far) = true)
    (a_law_drawn_ratio : PySem.W.nsIn K mainGlobals "_law_drawn_ratio" = some (some (.ref f_law_drawn_ratio)))
    (l_law_drawn_ratio : K.lookup f_law_drawn_ratio = some ⟨oc_law_drawn_ratio, od_law_drawn_ratio, .func (PySem.W.fnOf "_law_drawn_ratio" "_law_drawn_ratio" (defArgs s_law_drawn_ratio) (defBody s_law_drawn_ratio) (defScope s_law_drawn_ratio) .none kV_law_drawn_ratio dc_law_drawn_ratio pm_law_drawn_ratio an_law_drawn_ratio cd_law_drawn_ratio ct_law_drawn_ratio), sl_law_drawn_ratio⟩)
    (c_law_drawn_ratio : PySem.W.codeIn K cd_law_drawn_ratio "_law_drawn_ratio" = true)
    (k_law_drawn_ratio : PySem.W.keepIn K (.ref f_law_drawn_ratio) = true)
    (a_law_right : PySem.W.nsIn K mainGlobals "_law_right" = some (some (.ref f_law_right)))
    (l_law_right : K.lookup f_law_right = some ⟨oc_law_right, od_law_right, .func (PySem.W.fnOf "_law_right" "_law_right" (defArgs s_law_right) (defBody s_law_right) (defScope s_law_right) .none kV_law_right dc_law_right pm_law_right an_law_right cd_law_right ct_law_right), sl_law_right⟩)
    (c_law_right : PySem.W.codeIn K cd_law_right "_law_right" = true)
    (k_law_right : PySem.W.keepIn K (.ref f_law_right) = true)
    (a_law : PySem.W.nsIn K mainGlobals "law" = some (some (.ref f_law)))
    (l_law : K.lookup f_law = some ⟨oc_law, od_law, .func (PySem.W.fnOf "law" "law" (defArgs s_law) (defBody s_law) (defScope s_law) .none kV_law dc_law pm_law an_law cd_law ct_law), sl_law⟩)
    (c_law : PySem.W.codeIn K cd_law "law" = true)
    (k_law : PySem.W.keepIn K (.ref f_law) = true)
    (z_abs : PySem.W.nsIn K mainGlobals "abs" = some none)
    (z_int : PySem.W.nsIn K mainGlobals "int" = some none)
    (z_bool : PySem.W.nsIn K mainGlobals "bool" = some none)
    (z_isinstance : PySem.W.nsIn K mainGlobals "isinstance" = some none)
    (z_len : PySem.W.nsIn K mainGlobals "len" = some none)
    (z_max : PySem.W.nsIn K mainGlobals "max" = some none)
    (z_min : PySem.W.nsIn K mainGlobals "min" = some none)
    (z_range : PySem.W.nsIn K mainGlobals "range" = some none)
    (g_FARTHEST : PySem.W.nsIn K mainGlobals "FARTHEST" = some (some (.int (10 ^ 300) tc_FARTHEST))) :
    ∃ fd : FuncData, (∀ (s : Shared) (v : Value), BindsTo s fd ⟨[v], []⟩ [("_law_script", v)]) ∧ ∀ base : Heap, K.In base → base.Ns mainGlobals mg → FnOk l.prog w K mg base CX0 8 fa fd ["_law_script"] (spLaw K) := by
  have e := hfa.symm.trans (PySem.W.mg_of X G a_law)
  cases e
  have T : Txt K mg C_Ratio := ⟨⟨pg_Ratio, hd_Ratio, po_Ratio, sa_Ratio⟩, na_Ratio_top, na_Ratio_bottom, ⟨_, PySem.W.mg_of X G g_FARTHEST⟩, PySem.W.mg_none_of X G z_abs, PySem.W.mg_none_of X G z_int, PySem.W.mg_none_of X G z_bool, PySem.W.mg_none_of X G z_isinstance, PySem.W.mg_none_of X G z_len, PySem.W.mg_none_of X G z_max, PySem.W.mg_none_of X G z_min, PySem.W.mg_none_of X G z_range⟩
  have F_Ratio_set_lowest := fun_mk (st := s_Ratio_set_lowest) l_Ratio_set_lowest c_Ratio_set_lowest k_Ratio_set_lowest
  have b_Ratio_set_lowest := F_Ratio_set_lowest.binds (ps := ["self", "top", "bottom"]) fun _ _ _ _ _ _ us hl => match us, hl with | [_, _, _], _ => rfl
  have F_Ratio_plus := fun_mk (st := s_Ratio_plus) l_Ratio_plus c_Ratio_plus k_Ratio_plus
  have b_Ratio_plus := F_Ratio_plus.binds (ps := ["self", "other"]) fun _ _ _ _ _ _ us hl => match us, hl with | [_, _], _ => rfl
  have F_Ratio_times := fun_mk (st := s_Ratio_times) l_Ratio_times c_Ratio_times k_Ratio_times
  have b_Ratio_times := F_Ratio_times.binds (ps := ["self", "other"]) fun _ _ _ _ _ _ us hl => match us, hl with | [_, _], _ => rfl
  have F_Ratio_is_less := fun_mk (st := s_Ratio_is_less) l_Ratio_is_less c_Ratio_is_less k_Ratio_is_less
  have b_Ratio_is_less := F_Ratio_is_less.binds (ps := ["self", "other"]) fun _ _ _ _ _ _ us hl => match us, hl with | [_, _], _ => rfl
  have F_common_part := fun_mk (st := s_common_part) l_common_part c_common_part k_common_part
  have b_common_part := F_common_part.binds (ps := ["one", "other"]) fun _ _ _ _ _ _ us hl => match us, hl with | [_, _], _ => rfl
  have F_is_figured := fun_mk (st := s_is_figured) l_is_figured c_is_figured k_is_figured
  have b_is_figured := F_is_figured.binds (ps := ["thing"]) fun _ _ _ _ _ _ us hl => match us, hl with | [_], _ => rfl
  have F_made_of := fun_mk (st := s_made_of) l_made_of c_made_of k_made_of
  have b_made_of := F_made_of.binds (ps := ["top", "bottom"]) fun _ _ _ _ _ _ us hl => match us, hl with | [_, _], _ => rfl
  have F_law_low := fun_mk (st := s_law_low) l_law_low c_law_low k_law_low
  have b_law_low := F_law_low.binds (ps := ["_law_upper", "_law_lower"]) fun _ _ _ _ _ _ us hl => match us, hl with | [_, _], _ => rfl
  have F_law_plus := fun_mk (st := s_law_plus) l_law_plus c_law_plus k_law_plus
  have b_law_plus := F_law_plus.binds (ps := ["_law_one", "_law_other"]) fun _ _ _ _ _ _ us hl => match us, hl with | [_, _], _ => rfl
  have F_law_less := fun_mk (st := s_law_less) l_law_less c_law_less k_law_less
  have b_law_less := F_law_less.binds (ps := ["_law_one", "_law_other"]) fun _ _ _ _ _ _ us hl => match us, hl with | [_, _], _ => rfl
  have F_law_is_truth := fun_mk (st := s_law_is_truth) l_law_is_truth c_law_is_truth k_law_is_truth
  have b_law_is_truth := F_law_is_truth.binds (ps := ["_law_told", "_law_due"]) fun _ _ _ _ _ _ us hl => match us, hl with | [_, _], _ => rfl
  have F_law_is_ratio := fun_mk (st := s_law_is_ratio) l_law_is_ratio c_law_is_ratio k_law_is_ratio
  have b_law_is_ratio := F_law_is_ratio.binds (ps := ["_law_told", "_law_due"]) fun _ _ _ _ _ _ us hl => match us, hl with | [_, _], _ => rfl
  have F_law_take := fun_mk (st := s_law_take) l_law_take c_law_take k_law_take
  have b_law_take := F_law_take.binds (ps := ["_law_purse_here", "_law_many"]) fun _ _ _ _ _ _ us hl => match us, hl with | [_, _], _ => rfl
  have F_law_purse := fun_mk (st := s_law_purse) l_law_purse c_law_purse k_law_purse
  have b_law_purse := F_law_purse.binds (ps := ["_law_script", "_law_at"]) fun _ _ _ _ _ _ us hl => match us, hl with | [_, _], _ => rfl
  have F_law_far := fun_mk (st := s_law_far) l_law_far c_law_far k_law_far
  have b_law_far := F_law_far.binds (ps := ["_law_purse_here"]) fun _ _ _ _ _ _ us hl => match us, hl with | [_], _ => rfl
  have F_law_drawn_ratio := fun_mk (st := s_law_drawn_ratio) l_law_drawn_ratio c_law_drawn_ratio k_law_drawn_ratio
  have b_law_drawn_ratio := F_law_drawn_ratio.binds (ps := ["_law_purse_here"]) fun _ _ _ _ _ _ us hl => match us, hl with | [_], _ => rfl
  have F_law_right := fun_mk (st := s_law_right) l_law_right c_law_right k_law_right
  have b_law_right := F_law_right.binds (ps := ["_law_one", "_law_other"]) fun _ _ _ _ _ _ us hl => match us, hl with | [_, _], _ => rfl
  have F_law := fun_mk (st := s_law) l_law c_law k_law
  have F_init : FunD K "__init__" "Ratio.__init__" (defArgs s_Ratio___init__) (defBody s_Ratio___init__) (defScope s_Ratio___init__) [.int 1] [] f_Ratio___init__ _ := ⟨⟨_, _, _, _, _, _, _, _, _, _, rfl, l_Ratio___init__, c_Ratio___init__, .inr ⟨by simp, _, _, _, _, rfl, lT_Ratio, rfl, .cons ⟨_, rfl⟩ .nil⟩, .inl rfl⟩, k_Ratio___init__⟩
  obtain ⟨d1, hd1, hb1⟩ := F_init.binds1 (ps := ["self", "top", "bottom"]) 2 0 (by simp) rfl (fun T kV doc pm an cdv ct us its h1 h2 => match us, its, h1, h2 with | [_, _], [_], _, _ => ⟨_, rfl, rfl⟩)
  obtain ⟨d2, hd2, hb2⟩ := F_init.binds1 (ps := ["self", "top", "bottom"]) 3 1 (by simp) rfl (fun T kV doc pm an cdv ct us its h1 h2 => match us, its, h1, h2 with | [_, _, _], [_], _, _ => ⟨_, rfl, rfl⟩)
  refine ⟨PySem.W.fnOf "law" "law" (defArgs s_law) (defBody s_law) (defScope s_law) .none kV_law dc_law pm_law an_law cd_law ct_law, fun s v => .of_eq rfl, fun base _ _ => ?_⟩
  have f_common_part : Fn l.prog w K mg base "common_part" _ _ _ := ⟨_, _, ok_common F_common_part T, PySem.W.mg_of X G a_common_part, k_common_part, b_common_part⟩
  have f_is_figured : Fn l.prog w K mg base "is_figured" _ _ _ := ⟨_, _, ok_fig F_is_figured T, PySem.W.mg_of X G a_is_figured, k_is_figured, b_is_figured⟩
  have me_Ratio_set_lowest : Me l.prog w K mg base C_Ratio "set_lowest" _ _ _ := ⟨_, _, ok_set F_Ratio_set_lowest T f_common_part, ⟨a_Ratio_set_lowest, i_Ratio_set_lowest, k_Ratio_set_lowest⟩, b_Ratio_set_lowest⟩
  have G_init := ok_init (P := l.prog) (w := w) (base := base) F_init T f_is_figured me_Ratio_set_lowest
  have mk_Ratio_1 : Mkr l.prog w K mg base "Ratio" C_Ratio _ _ [.int 1] _ := ⟨_, _, _, ⟨mk_Ratio, a_Ratio___init__, i_Ratio___init__, kc_Ratio⟩, G_init, PySem.W.mg_of X G aC_Ratio, hb1, hd1⟩
  have mk_Ratio_2 : Mkr l.prog w K mg base "Ratio" C_Ratio _ _ [] _ := ⟨_, _, _, ⟨mk_Ratio, a_Ratio___init__, i_Ratio___init__, kc_Ratio⟩, G_init, PySem.W.mg_of X G aC_Ratio, hb2, hd2⟩
  have f_made_of : Fn l.prog w K mg base "made_of" _ _ _ := ⟨_, _, ok_made F_made_of T mk_Ratio_1 me_Ratio_set_lowest, PySem.W.mg_of X G a_made_of, k_made_of, b_made_of⟩
  have me_Ratio_plus : Me l.prog w K mg base C_Ratio "plus" _ _ _ := ⟨_, _, ok_plus F_Ratio_plus T f_made_of, ⟨a_Ratio_plus, i_Ratio_plus, k_Ratio_plus⟩, b_Ratio_plus⟩
  have me_Ratio_times : Me l.prog w K mg base C_Ratio "times" _ _ _ := ⟨_, _, ok_times F_Ratio_times T f_made_of, ⟨a_Ratio_times, i_Ratio_times, k_Ratio_times⟩, b_Ratio_times⟩
  have me_Ratio_is_less : Me l.prog w K mg base C_Ratio "is_less" _ _ _ := ⟨_, _, ok_less F_Ratio_is_less T, ⟨a_Ratio_is_less, i_Ratio_is_less, k_Ratio_is_less⟩, b_Ratio_is_less⟩
  have f__law_low : Fn l.prog w K mg base "_law_low" _ _ _ := ⟨_, _, ok_low F_law_low T, PySem.W.mg_of X G a_law_low, k_law_low, b_law_low⟩
  have f__law_plus : Fn l.prog w K mg base "_law_plus" _ _ _ := ⟨_, _, ok_lplus F_law_plus f__law_low, PySem.W.mg_of X G a_law_plus, k_law_plus, b_law_plus⟩
  have f__law_less : Fn l.prog w K mg base "_law_less" _ _ _ := ⟨_, _, ok_lless F_law_less , PySem.W.mg_of X G a_law_less, k_law_less, b_law_less⟩
  have f__law_is_truth : Fn l.prog w K mg base "_law_is_truth" _ _ _ := ⟨_, _, ok_truth F_law_is_truth T, PySem.W.mg_of X G a_law_is_truth, k_law_is_truth, b_law_is_truth⟩
  have f__law_is_ratio : Fn l.prog w K mg base "_law_is_ratio" _ _ _ := ⟨_, _, ok_isr F_law_is_ratio T, PySem.W.mg_of X G a_law_is_ratio, k_law_is_ratio, b_law_is_ratio⟩
  have f__law_take : Fn l.prog w K mg base "_law_take" _ _ _ := ⟨_, _, ok_take F_law_take , PySem.W.mg_of X G a_law_take, k_law_take, b_law_take⟩
  have f__law_purse : Fn l.prog w K mg base "_law_purse" _ _ _ := ⟨_, _, ok_purse F_law_purse T, PySem.W.mg_of X G a_law_purse, k_law_purse, b_law_purse⟩
  have f__law_far : Fn l.prog w K mg base "_law_far" _ _ _ := ⟨_, _, ok_far F_law_far T f__law_take, PySem.W.mg_of X G a_law_far, k_law_far, b_law_far⟩
  have f__law_drawn_ratio : Fn l.prog w K mg base "_law_drawn_ratio" _ _ _ := ⟨_, _, ok_drawn F_law_drawn_ratio T f__law_far f__law_low, PySem.W.mg_of X G a_law_drawn_ratio, k_law_drawn_ratio, b_law_drawn_ratio⟩
  have f__law_right : Fn l.prog w K mg base "_law_right" _ _ _ := ⟨_, _, ok_right F_law_right T mk_Ratio_2 f__law_plus f__law_low f__law_less f__law_is_ratio f__law_is_truth me_Ratio_plus me_Ratio_times me_Ratio_is_less, PySem.W.mg_of X G a_law_right, k_law_right, b_law_right⟩
  exact ok_law F_law T f__law_purse f__law_take f__law_drawn_ratio f__law_right
end K32

open PySem PySem.W PyProof.Rows
set_option maxRecDepth 100000 in
set_option maxHeartbeats 0 in
theorem PySem.Challenge.cw_blocksearch_k32_ratios_reckoned_holds : PySem.Challenge.rw_blocksearch_k32_ratios_reckoned.Holds := by
  w_on; o_law; k_head; (case hw => w_witness2)
  k_fill
  refine L2.walk_of (l := PySem.Challenge.rw_blocksearch_k32_ratios_reckoned) (n := 63) (k := 8) (x := "_law_script") (CX := fun _ => L2.CX0) (sp := fun w => K32.spLaw _) rfl (by decide) rfl ⟨rfl, by decide, by decide⟩ (fun w h Y => PySem.W.kIn_of Y) ?F (fun _ _ a ns hl _ hS => ⟨a, ns, rfl, hS, hl, fun _ => rfl⟩) (fun _ _ _ _ _ h => h)
  case F =>
    intro w mg fa h KX G hmg
    refine' K32.all_mk KX G hmg ?aC_Ratio ?pg_Ratio ?hd_Ratio ?po_Ratio ?sa_Ratio ?na_Ratio_top ?na_Ratio_bottom ?a_Ratio_set_lowest ?i_Ratio_set_lowest ?l_Ratio_set_lowest ?c_Ratio_set_lowest ?k_Ratio_set_lowest ?a_Ratio_plus ?i_Ratio_plus ?l_Ratio_plus ?c_Ratio_plus ?k_Ratio_plus ?a_Ratio_times ?i_Ratio_times ?l_Ratio_times ?c_Ratio_times ?k_Ratio_times ?a_Ratio_is_less ?i_Ratio_is_less ?l_Ratio_is_less ?c_Ratio_is_less ?k_Ratio_is_less ?a_Ratio___init__ ?i_Ratio___init__ ?l_Ratio___init__ ?c_Ratio___init__ ?k_Ratio___init__ ?lT_Ratio ?mk_Ratio ?kc_Ratio ?a_common_part ?l_common_part ?c_common_part ?k_common_part ?a_is_figured ?l_is_figured ?c_is_figured ?k_is_figured ?a_made_of ?l_made_of ?c_made_of ?k_made_of ?a_law_low ?l_law_low ?c_law_low ?k_law_low ?a_law_plus ?l_law_plus ?c_law_plus ?k_law_plus ?a_law_less ?l_law_less ?c_law_less ?k_law_less ?a_law_is_truth ?l_law_is_truth ?c_law_is_truth ?k_law_is_truth ?a_law_is_ratio ?l_law_is_ratio ?c_law_is_ratio ?k_law_is_ratio ?a_law_take ?l_law_take ?c_law_take ?k_law_take ?a_law_purse ?l_law_purse ?c_law_purse ?k_law_purse ?a_law_far ?l_law_far ?c_law_far ?k_law_far ?a_law_drawn_ratio ?l_law_drawn_ratio ?c_law_drawn_ratio ?k_law_drawn_ratio ?a_law_right ?l_law_right ?c_law_right ?k_law_right ?a_law ?l_law ?c_law ?k_law ?z_abs ?z_int ?z_bool ?z_isinstance ?z_len ?z_max ?z_min ?z_range ?g_FARTHEST
    (case aC_Ratio => k_is); (case pg_Ratio => k_is); (case hd_Ratio => k_is); (case po_Ratio => k_is); (case sa_Ratio => k_is); (case na_Ratio_top => k_is); (case na_Ratio_bottom => k_is); (case a_Ratio_set_lowest => k_is); (case i_Ratio_set_lowest => k_is); (case l_Ratio_set_lowest => k_is); (case c_Ratio_set_lowest => k_is); (case k_Ratio_set_lowest => k_is); (case a_Ratio_plus => k_is); (case i_Ratio_plus => k_is); (case l_Ratio_plus => k_is); (case c_Ratio_plus => k_is); (case k_Ratio_plus => k_is); (case a_Ratio_times => k_is); (case i_Ratio_times => k_is); (case l_Ratio_times => k_is); (case c_Ratio_times => k_is); (case k_Ratio_times => k_is); (case a_Ratio_is_less => k_is); (case i_Ratio_is_less => k_is); (case l_Ratio_is_less => k_is); (case c_Ratio_is_less => k_is); (case k_Ratio_is_less => k_is); (case a_Ratio___init__ => k_is); (case i_Ratio___init__ => k_is); (case l_Ratio___init__ => k_is); (case c_Ratio___init__ => k_is); (case k_Ratio___init__ => k_is); (case lT_Ratio => k_is); (case mk_Ratio => k_is); (case kc_Ratio => k_is); (case a_common_part => k_is); (case l_common_part => k_is); (case c_common_part => k_is); (case k_common_part => k_is); (case a_is_figured => k_is); (case l_is_figured => k_is); (case c_is_figured => k_is); (case k_is_figured => k_is); (case a_made_of => k_is); (case l_made_of => k_is); (case c_made_of => k_is); (case k_made_of => k_is); (case a_law_low => k_is); (case l_law_low => k_is); (case c_law_low => k_is); (case k_law_low => k_is); (case a_law_plus => k_is); (case l_law_plus => k_is); (case c_law_plus => k_is); (case k_law_plus => k_is); (case a_law_less => k_is); (case l_law_less => k_is); (case c_law_less => k_is); (case k_law_less => k_is); (case a_law_is_truth => k_is); (case l_law_is_truth => k_is); (case c_law_is_truth => k_is); (case k_law_is_truth => k_is); (case a_law_is_ratio => k_is); (case l_law_is_ratio => k_is); (case c_law_is_ratio => k_is); (case k_law_is_ratio => k_is); (case a_law_take => k_is); (case l_law_take => k_is); (case c_law_take => k_is); (case k_law_take => k_is); (case a_law_purse => k_is); (case l_law_purse => k_is); (case c_law_purse => k_is); (case k_law_purse => k_is); (case a_law_far => k_is); (case l_law_far => k_is); (case c_law_far => k_is); (case k_law_far => k_is); (case a_law_drawn_ratio => k_is); (case l_law_drawn_ratio => k_is); (case c_law_drawn_ratio => k_is); (case k_law_drawn_ratio => k_is); (case a_law_right => k_is); (case l_law_right => k_is); (case c_law_right => k_is); (case k_law_right => k_is); (case a_law => k_is); (case l_law => k_is); (case c_law => k_is); (case k_law => k_is); (case z_abs => k_is); (case z_int => k_is); (case z_bool => k_is); (case z_isinstance => k_is); (case z_len => k_is); (case z_max => k_is); (case z_min => k_is); (case z_range => k_is); (case g_FARTHEST => k_is)

