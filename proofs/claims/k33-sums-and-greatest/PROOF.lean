import PyProof.Rows.All
import Wide.All
import OpenK.AllK
import Wide.FinOn
import HandS.ForMost
import HandS.Evl
import HandS.Wide
import HandS.IsInst
import HandS.Exc
import HandS.Defaults
import HandS.TryMany
import HandS.ExcOwn
import HandS.ExcIs
import HandS.HotCalls
import HandS.ExcField
import HandS.Lambda
import HandS.ExcInit
import HandS.WordsExc
import HandS.Deep
import KE.KExcIs
import KE.DataFind
import HandS.Small
import HandS.RaiseMore
import HandS.Steps
import PyProof.CollectIter
import PyProof.WalksMore
import HandS.More
import HandS.WideBits
import HandS.Replace
import HandS.Style
import HandS.SetKeys
import HandS.MakeKwOnly
import HandS.IntHex
import HandS.StrMore
import HandS.Rindex
import PyProof.Rows.StrNews2
import PyProof.StrLawsLast
import HandS.OwnEq
import HandS.HeadWalk
import PySem.Challenge.RW_blocksearch_k33_sums_and_greatest
set_option Elab.async false
set_option linter.all false
set_option maxRecDepth 100000
set_option maxHeartbeats 4000000
set_option autoImplicit false
/-! The layer of this work: bundles of defs, readings as steps. -/
namespace Bw
open PySem PySem.Spec L2

/-! ### a def that lets nothing out, as its callers want it -/
structure Fn (P : Program) (w : World) (K : PySem.W.Frag) (mg : Str → Option Value) (base : Heap) (x : Str) (k : Nat) (ps : List Str) (sp : Sp) : Prop where
  ex : ∃ (f : Addr) (fd : FuncData), FnOk P w K mg base CX0 k f fd ps sp ∧ mg x = some (.ref f) ∧ PySem.W.keepIn K (.ref f) = true ∧ Binds K fd ps []
section
variable {X : Cx}
theorem pe_fn {x : Str} {k : Nat} {ps : List Str} {sp : Sp} {e : Expr} {es : List Expr} {t : TA} {p pos : Pos} (F : Fn X.prog X.w X.K X.mg X.base x k ps sp) (hr : Room k X.A) (hg : Gl X x) (ha : PA X (e :: es) t)
    (hdb : (x == ("__debug__" : Str)) = false := by decide) (he : starEach (e :: es) X.env = (false, eval e X.env) :: starEach es X.env := by rfl) (hpl : (backTo pos (starEach es X.env)).any (·.1) = false := by rfl) :
    PE X (.Call (.Name x p) (e :: es) [] pos) (tCall sp [] E0 t) := by
  obtain ⟨f, fd, G, hm, hk, hb⟩ := F.ex
  exact pe_call G hr hg hm hk hb .nil pass0 ha hdb he hpl
theorem pe_fn0 {x : Str} {k : Nat} {ps : List Str} {sp : Sp} {p pos : Pos} (F : Fn X.prog X.w X.K X.mg X.base x k ps sp) (hr : Room k X.A) (hg : Gl X x)
    (hdb : (x == ("__debug__" : Str)) = false := by decide) : PE X (.Call (.Name x p) [] [] pos) (tCall sp [] E0 tNil) := by
  obtain ⟨f, fd, G, hm, hk, hb⟩ := F.ex
  exact pe_call0 G hr hg hm hk hb .nil pass0 hdb
end
/-! ### methods and makers as their callers want them -/
structure Me (P : Program) (w : World) (K : PySem.W.Frag) (mg : Str → Option Value) (base : Heap) (C : Addr) (m : Str) (k : Nat) (ps : List Str) (sp : Sp) : Prop where
  ex : ∃ (f : Addr) (fd : FuncData), FnOk P w K mg base CX0 k f fd ps sp ∧ Meth K C m f ∧ Binds K fd ps []
structure Mkr (P : Program) (w : World) (K : PySem.W.Frag) (mg : Str → Option Value) (base : Heap) (x : Str) (C : Addr) (k : Nat) (ps : List Str) (dvs : List V) (sp : Sp) : Prop where
  ex : ∃ (f : Addr) (fd : FuncData) (ds : List Value), Mk K C f ∧ FnOk P w K mg base CX0 k f fd ps sp ∧ mg x = some (.ref C) ∧ Binds K fd ps ds ∧ Vals dvs ds
section
variable {X : Cx}
theorem pe_me {pl : Sem Bool} {C : Addr} {m : Str} {k : Nat} {ps : List Str} {sp : Sp} {o e : Expr} {es : List Expr} {t : TA} {ta : TE} {apos pos : Pos} (he : PE X o ta) (c : Cls X.K C) (M : Me X.prog X.w X.K X.mg X.base C m k ps sp) (hr : Room k X.A) (ha : PA X (e :: es) t)
    (hst : starEach (e :: es) X.env = (false, eval e X.env) :: starEach es X.env := by rfl) (hpl : (backTo pos (starEach es X.env)).any (·.1) = false := by rfl)
    (ht : eval (.Call (.Attribute o m apos) (e :: es) [] pos) X.env = (do
      let ov ← eval o X.env
      standAt apos.atName
      let (f, first) ← holding [ov] (getMethod ov m pl)
      callWith pos f first (backTo pos (starEach (e :: es) X.env)) (backToKw pos (keywordEach [] X.env))) := by rfl) :
    PE X (.Call (.Attribute o m apos) (e :: es) [] pos) (tMeth C m sp [] E0 ta t) := by
  obtain ⟨f, fd, G, hm, hb⟩ := M.ex
  exact pe_meth he c hm G hr hb .nil pass0 ha hst hpl ht
theorem pe_me0 {pl : Sem Bool} {C : Addr} {m : Str} {k : Nat} {ps : List Str} {sp : Sp} {o : Expr} {ta : TE} {apos pos : Pos} (he : PE X o ta) (c : Cls X.K C) (M : Me X.prog X.w X.K X.mg X.base C m k ps sp) (hr : Room k X.A)
    (ht : eval (.Call (.Attribute o m apos) [] [] pos) X.env = (do
      let ov ← eval o X.env
      standAt apos.atName
      let (f, first) ← holding [ov] (getMethod ov m pl)
      callWith pos f first (backTo pos (starEach [] X.env)) (backToKw pos (keywordEach [] X.env))) := by rfl) :
    PE X (.Call (.Attribute o m apos) [] [] pos) (tMeth C m sp [] E0 ta tNil) := by
  obtain ⟨f, fd, G, hm, hb⟩ := M.ex
  exact pe_meth0 he c hm G hr hb .nil pass0 ht
theorem pe_mkr {x : Str} {C : Addr} {k : Nat} {ps : List Str} {dvs : List V} {sp : Sp} {e : Expr} {es : List Expr} {t : TA} {p pos : Pos} (M : Mkr X.prog X.w X.K X.mg X.base x C k ps dvs sp) (hr : Room (k + 1) X.A) (hg : Gl X x) (ha : PA X (e :: es) t)
    (hdb : (x == ("__debug__" : Str)) = false := by decide) (he : starEach (e :: es) X.env = (false, eval e X.env) :: starEach es X.env := by rfl) (hpl : (backTo pos (starEach es X.env)).any (·.1) = false := by rfl) :
    PE X (.Call (.Name x p) (e :: es) [] pos) (tMake C sp dvs E0 t) := by
  obtain ⟨f, fd, ds, M, G, hm, hb, hd⟩ := M.ex
  exact pe_make M G hr hg hm hb hd pass0 ha hdb he hpl
theorem pe_gint {x : Str} {n : Int} {p : Pos} (h : ∃ t, X.mg x = some (.int n t)) (hg : Gl X x) (hd : (x == ("__debug__" : Str)) = false := by decide) : PE X (.Name x p) (tC (.int n)) := by
  obtain ⟨t, h⟩ := h
  exact pe_glob hg h ⟨t, rfl⟩ hd
theorem pe_gstr {x : Str} {z : Str} {p : Pos} (h : ∃ t, X.mg x = some (.str z t)) (hg : Gl X x) (hd : (x == ("__debug__" : Str)) = false := by decide) : PE X (.Name x p) (tC (.str z)) := by
  obtain ⟨t, h⟩ := h
  exact pe_glob hg h ⟨t, rfl⟩ hd
end
section
variable {X : Cx}
/-! ### an attribute as a target -/
def gFld (K : PySem.W.Frag) (to : TE) (f : Str) : TG := fun v σ H Q => to σ H fun x H1 => ∃ a C dx fs, x = .ref a ∧ H1 a = some (.ins C dx fs) ∧ Cls K C ∧ NoAttr K C f ∧ fs.length < 1000 ∧ Q σ (upd H1 a (.ins C dx (putF f v fs)))
theorem pg_fld {o : Expr} {f : Str} {pos : Pos} {to : TE} (ho : PE X o to) : PG X (.Attribute o f pos) (gFld X.K to f) := by
  refine ⟨fun pins s σ H v u Q I r h => ?_⟩
  rw [assign_Attribute]
  refine wpAny_bind (wpAny_holding (thn (ho.run pins s σ H _ I h) fun ov s1 ⟨x, H1, I1, r1, a, C, dx, fs, ex, ea, c, n, l, q1⟩ => ?_))
  subst ex
  obtain rfl : ov = Value.ref a := r1
  refine wpAny_bind (wpAny_standAt (wpAny_bind (wpAny_holding (setattr_ok I1 ea c n l r fun s3 I3 => ?_))))
  exact wpAny_release ⟨σ, _, I3, q1⟩

/-! ### ints of any size -/
def CDivU (_ j : Int) : Prop := j ≠ 0 ∧ j.natAbs.log2 < 9000
theorem op_fdivU : OpR X (binaryOp .FloorDiv) (rI CDivU fun i j => .int (i.fdiv j)) := opI fun i j _ _ _ _ _ hc q =>
  PyProof.Rows.floordiv_int hc.1 q (.inl (PyProof.noPylong_of_log2 hc.2))
def CMulU (i j : Int) : Prop := IntMulOk i j
theorem op_mulU : OpR X (binaryOp .Mult) (rI CMulU fun i j => .int (i * j)) := opI fun _ _ _ _ _ _ _ hc q => PyProof.Rows.mul_int q hc
def CPowU (i j : Int) : Prop := 0 ≤ j ∧ (Builtin.Int.intBits i : Int) * j ≤ 2 ^ 27
theorem op_powU : OpR X (binaryOp .Pow) (rI CPowU fun i j => .int (i ^ j.toNat)) := opI fun _ _ _ _ _ _ _ hc q => PyProof.Rows.pow_int hc.1 hc.2 q
end
theorem bits_le {x : Int} {a : Nat} (h : x.natAbs < 2 ^ a) (h0 : 0 < a) : Builtin.Int.intBits x ≤ a := by
  unfold Builtin.Int.intBits
  split
  · omega
  · exact PySem.Flt.log2_lt_of h0 h
theorem powU {i j : Int} {a : Nat} (h : i.natAbs < 2 ^ a) (h0 : 0 < a) (hj : 0 ≤ j) (hs : (a : Int) * j ≤ 2 ^ 27) : CPowU i j := by
  refine ⟨hj, Int.le_trans (Int.mul_le_mul_of_nonneg_right (Int.ofNat_le.mpr (bits_le h h0)) hj) hs⟩
theorem divU {i j : Int} {b : Nat} (h : j ≠ 0) (hb : j.natAbs < 2 ^ b) (h0 : 0 < b) (h9 : b ≤ 9000) : CDivU i j := ⟨h, Nat.lt_of_lt_of_le (PySem.Flt.log2_lt_of h0 hb) h9⟩

/-! ### named readings of calls -/
section
variable {X : Cx}
theorem callR_imp {f : Value} {r r' : List V → Hp → VK → Prop} (h : CallR X f r) (i : ∀ xs H Q, r' xs H Q → r xs H Q) : CallR X f r' :=
  fun pins s σ H xs us Q I rv q => h pins s σ H xs us Q I rv (i _ _ _ q)
theorem opR_imp {f : Value → Value → Sem Value} {r r' : R2} (h : OpR X f r) (i : ∀ x y H Q, r' x y H Q → r x y H Q) : OpR X f r' :=
  fun pins s σ H x y v u Q I rx ry q => h pins s σ H x y v u Q I rx ry (i _ _ _ _ q)
def rAbs : List V → Hp → VK → Prop := fun xs H Q => ∃ i : Int, xs = [.int i] ∧ Q (.int i.natAbs) H
theorem cl_abs : CallR X (.builtin "abs") rAbs := callR_imp call_abs fun xs H Q ⟨i, e, q⟩ => ⟨i, e, by
  have : (if i < 0 then -i else i) = (i.natAbs : Int) := by split <;> omega
  rw [this]; exact q⟩
def rMaxI : List V → Hp → VK → Prop := fun xs H Q => ∃ i j : Int, xs = [.int i, .int j] ∧ Q (.int (max i j)) H
def rMinI : List V → Hp → VK → Prop := fun xs H Q => ∃ i j : Int, xs = [.int i, .int j] ∧ Q (.int (min i j)) H
theorem cl_max (hc : X.calm = true) : CallR X (.builtin "max") rMaxI := callR_imp (call_max2 hc) fun xs H Q ⟨i, j, e, q⟩ => ⟨i, j, e, by
  have : (if j > i then j else i) = max i j := by split <;> omega
  rw [this]; exact q⟩
theorem cl_min (hc : X.calm = true) : CallR X (.builtin "min") rMinI := callR_imp (call_min2 hc) fun xs H Q ⟨i, j, e, q⟩ => ⟨i, j, e, by
  have : (if j < i then j else i) = min i j := by split <;> omega
  rw [this]; exact q⟩
def rIntOf : List V → Hp → VK → Prop := fun xs H Q => (∃ i, xs = [.int i] ∧ Q (.int i) H) ∨ ∃ k : Bool, xs = [.bl k] ∧ Q (.int (if k then 1 else 0)) H
theorem cl_int : CallR X (.type "int") rIntOf := call_int1
def rLen (K : PySem.W.Frag) : List V → Hp → VK → Prop := fun xs H Q => ∃ x n, xs = [x] ∧ LenV K x H n ∧ Q (.int n) H
theorem cl_len : CallR X (.builtin "len") (rLen X.K) := call_len
def rStrI : List V → Hp → VK → Prop := fun xs H Q => ∃ i : Int, xs = [.int i] ∧ i.natAbs.log2 < 1920 ∧ Q (.str (toString i)) H
theorem cl_str : CallR X (.type "str") rStrI := call_str_int
def rOrd : List V → Hp → VK → Prop := fun xs H Q => ∃ x, xs = [.str x] ∧ x.length = 1 ∧ Q (.int (x.cps.getD 0 0 : Nat)) H
theorem cl_ord : CallR X (.builtin "ord") rOrd := call_ord
def rAddS : R2 := fun x y H Q => ∃ i j, x = .str i ∧ y = .str j ∧ i.length + j.length ≤ sizeLine ∧ Q (.str (i ++ j)) H
theorem op_addS : OpR X (binaryOp .Add) rAddS := op_add_str
def rIs0 : R2 := fun x y H Q => y = .non ∧ Q (.bl (decide (x = .non))) H
def rIsNot0 : R2 := fun x y H Q => y = .non ∧ Q (.bl (!decide (x = .non))) H
theorem op_is0 : OpR X (compareOp .Is) rIs0 := op_isN
theorem op_isnot0 : OpR X (compareOp .IsNot) rIsNot0 := op_notN
end

/-! ### readings, step by step -/
section
variable {σ : St} {H H' : Hp} {i : Nat} {v x y z : V} {ta tb te tv tc : TE} {b : Bool} {K : PySem.W.Frag} {Q : VK} {QB : Bool → Hp → Prop} {D : Ends} {t u : TS} {tt tu : TT} {a : Addr} {r r' : R2}
theorem w_seq (h : t { D with nx := u D } σ H) : tSeq t u D σ H := h
theorem w_next (h : D.nx σ H) : tNext D σ H := h
theorem w_set (h : te σ H fun x H1 => D.nx (σ.set i (some x)) H1) : tAsg te (gName i) D σ H := h
theorem w_asg {g : TG} (h : te σ H fun x H1 => g x σ H1 D.nx) : tAsg te g D σ H := h
theorem w_par {j : Nat} {tA : TA} (h : tA σ H fun vs H1 => ∃ v w, vs = [v, w] ∧ D.nx ((σ.set i (some v)).set j (some w)) H1) : tPar i j tA D σ H := h
theorem w_ret (h : te σ H D.rt) : tRet te D σ H := h
theorem w_retN (h : D.rt .non H) : tRetN D σ H := h
theorem w_drop (h : te σ H fun _ H1 => D.nx σ H1) : tDrop te D σ H := h
theorem w_if (h : tt σ H fun b H1 => if b = true then t D σ H1 else u D σ H1) : tIfS tt t u D σ H := h
theorem w_ifE (h : tt σ H fun b H1 => if b = true then ta σ H1 Q else tb σ H1 Q) : tIf tt ta tb σ H Q := h
theorem w_var (h : σ[i]? = some (some v)) (q : Q v H) : tVar i σ H Q := ⟨v, h, q⟩
theorem w_c (q : Q v H) : tC v σ H Q := q
theorem w_op (h : ta σ H fun x H1 => tb σ H1 fun y H2 => r x y H2 Q) : tOp r ta tb σ H Q := h
theorem w_un {r : V → Hp → VK → Prop} (h : ta σ H fun x H1 => r x H1 Q) : tUn r ta σ H Q := h
theorem w_I0 {g : Int → Int → V} {m n : Int} (q : Q (g m n) H) : rI0 g (.int m) (.int n) H Q := ⟨m, n, rfl, rfl, q⟩
theorem w_I {C : Int → Int → Prop} {g : Int → Int → V} {m n : Int} (hc : C m n) (q : Q (g m n) H) : rI C g (.int m) (.int n) H Q := ⟨m, n, rfl, rfl, hc, q⟩
theorem w_U {g : Int → V} {m : Int} (q : Q (g m) H) : rU g (.int m) H Q := ⟨m, rfl, q⟩
theorem w_eq (h : scal x y = true) (q : Q (.bl (decide (x = y))) H) : rEq x y H Q := ⟨h, q⟩
theorem w_ne (h : scal x y = true) (q : Q (.bl (!decide (x = y))) H) : rNe x y H Q := ⟨h, q⟩
theorem w_is0 (q : Q (.bl (decide (x = .non))) H) : rIs0 x .non H Q := ⟨rfl, q⟩
theorem w_isnot0 (q : Q (.bl (!decide (x = .non))) H) : rIsNot0 x .non H Q := ⟨rfl, q⟩
theorem w_test (h : te σ H fun x H' => ∃ k, x = .bl k ∧ QB k H') : tTest te σ H QB := h
theorem w_tB (h : te σ H fun x H' => ∃ k, x = .bl k ∧ QB k H') : tB te σ H QB := h
theorem w_bl {R : Bool → Prop} (q : R b) : ∃ k, V.bl b = .bl k ∧ R k := ⟨b, rfl, q⟩
theorem w_and (h : tt σ H fun c H1 => if c = true then tu σ H1 QB else QB false H1) : tAnd tt tu σ H QB := h
theorem w_or (h : tt σ H fun c H1 => if c = true then QB true H1 else tu σ H1 QB) : tOr tt tu σ H QB := h
theorem w_not (h : tt σ H fun c H1 => QB (!c) H1) : tNot tt σ H QB := h
theorem w_andV (h : ta σ H fun x H1 => ∃ c, x = .bl c ∧ if c = true then tb σ H1 Q else Q (.bl false) H1) : tAndV ta tb σ H Q := h
theorem w_orV (h : ta σ H fun x H1 => ∃ c, x = .bl c ∧ if c = true then Q (.bl true) H1 else tb σ H1 Q) : tOrV ta tb σ H Q := h
theorem w_notV (h : ta σ H fun x H1 => ∃ c, x = .bl c ∧ Q (.bl (!c)) H1) : tNotV ta σ H Q := h
theorem w_chain (h : ta σ H fun x H1 => tb σ H1 fun y H2 => r x y H2 fun z H3 => ∃ k, z = .bl k ∧ (if k = true then tc σ H3 fun w' H4 => r' y w' H4 Q else Q (.bl false) H3)) : tChain r r' ta tb tc σ H Q := h
theorem w_cons {tr : TA} {QA : List V → Hp → Prop} (h : ta σ H fun x H1 => tr σ H1 fun xs H2 => QA (x :: xs) H2) : tCons ta tr σ H QA := h
theorem w_nil {QA : List V → Hp → Prop} (q : QA [] H) : tNil σ H QA := q
theorem w_call {sp : Sp} {tA : TA} {E : XK} (h : tA σ H fun vs H1 => sp (vs ++ []) H1 Q E) : tCall sp [] E tA σ H Q := h
theorem w_cb {r : List V → Hp → VK → Prop} {tA : TA} (h : tA σ H fun vs H1 => r vs H1 Q) : tCB r tA σ H Q := h

/-! ### new objects: the heap as a letter -/
theorem same_new {p : Addr} {o : HO} (h : H p = none) : Same H (upd H p o) := fun c w e => by
  rw [upd_ne (ne_of_none e h)]
  exact e
theorem w_tup {tA : TA} (h : tA σ H fun xs H1 => xs.length ≤ sizeLine ∧ ∀ p H2, H1 p = none → Same H1 H2 → H2 p = some (.tup xs) → Q (.ref p) H2) (mono : ∀ σ H (Q Q' : List V → Hp → Prop), (∀ xs H, Q xs H → Q' xs H) → tA σ H Q → tA σ H Q') : tTup tA σ H Q :=
  mono _ _ _ _ (fun xs H1 ⟨l, k⟩ => ⟨l, fun p hp => k p _ hp (same_new hp) upd_same⟩) h
theorem w_newT {xs : List V} {H1 : Hp} (hl : xs.length ≤ sizeLine) (k : ∀ p H2, H1 p = none → Same H1 H2 → H2 p = some (.tup xs) → Q (.ref p) H2) : xs.length ≤ sizeLine ∧ ∀ p, H1 p = none → Q (.ref p) (upd H1 p (.tup xs)) :=
  ⟨hl, fun p hp => k p _ hp (same_new hp) upd_same⟩
theorem w_newL {xs : List V} {H1 : Hp} (hl : xs.length ≤ sizeLine) (k : ∀ p H2, H1 p = none → Same H1 H2 → H2 p = some (.lst xs) → Q (.ref p) H2) : xs.length ≤ sizeLine ∧ ∀ p, H1 p = none → Q (.ref p) (upd H1 p (.lst xs)) :=
  ⟨hl, fun p hp => k p _ hp (same_new hp) upd_same⟩
theorem w_tupE {tA : TA} (h : tA σ H fun xs H1 => xs.length ≤ sizeLine ∧ ∀ p, H1 p = none → Q (.ref p) (upd H1 p (.tup xs))) : tTup tA σ H Q := h
theorem w_lstE {tA : TA} (h : tA σ H fun xs H1 => xs.length ≤ sizeLine ∧ ∀ p, H1 p = none → Q (.ref p) (upd H1 p (.lst xs))) : tLst tA σ H Q := h
/-! ### calls of built-ins, subscripts -/
theorem w_abs {m : Int} (q : Q (.int m.natAbs) H) : rAbs [.int m] H Q := ⟨m, rfl, q⟩
theorem w_max {m n : Int} (q : Q (.int (max m n)) H) : rMaxI [.int m, .int n] H Q := ⟨m, n, rfl, q⟩
theorem w_min {m n : Int} (q : Q (.int (min m n)) H) : rMinI [.int m, .int n] H Q := ⟨m, n, rfl, q⟩
theorem w_intI {m : Int} (q : Q (.int m) H) : rIntOf [.int m] H Q := .inl ⟨m, rfl, q⟩
theorem w_intB {k : Bool} (q : Q (.int (if k then 1 else 0)) H) : rIntOf [.bl k] H Q := .inr ⟨k, rfl, q⟩
theorem w_lenL {p : Addr} {xs : List V} (h : SqL K H p xs) (q : Q (.int xs.length) H) : rLen K [.ref p] H Q := ⟨_, _, rfl, .inl ⟨xs, h, rfl⟩, q⟩
theorem w_lenT {p : Addr} {xs : List V} (h : SqT K H p xs) (q : Q (.int xs.length) H) : rLen K [.ref p] H Q := ⟨_, _, rfl, .inr ⟨xs, h, rfl⟩, q⟩
theorem w_lenS {w : Str} (h : w.length ≤ sizeLine) (q : Q (.int w.length) H) : rLen K [.str w] H Q := ⟨_, _, rfl, ⟨h, rfl⟩, q⟩
theorem w_ixL {p : Addr} {xs : List V} {m : Int} (h : SqL K H p xs) (ha : atI xs m = some v) (q : Q v H) : rIxL K (.ref p) (.int m) H Q := ⟨p, xs, m, v, rfl, rfl, h, ha, q⟩
theorem w_ixT {p : Addr} {xs : List V} {m : Int} (h : SqT K H p xs) (ha : atI xs m = some v) (q : Q v H) : rIxT K (.ref p) (.int m) H Q := ⟨p, xs, m, v, rfl, rfl, h, ha, q⟩
theorem w_ixS {w : Str} {m : Int} {c : Nat} (h : w.length ≤ sizeLine) (ha : atI w.cps.toList m = some c) (q : Q (.str ⟨#[c]⟩) H) : rIxS (.str w) (.int m) H Q := ⟨w, m, c, rfl, rfl, h, ha, q⟩
theorem w_isi {c : V} {tv cv : Value} {k : Bool} (hc : ClsV c cv) (ht : TyX K H x tv) (hk : PySem.W.kitOne K tv cv = some k) (q : Q (.bl k) H) : rIsi K [x, c] H Q := ⟨x, c, tv, cv, k, rfl, hc, ht, hk, q⟩
theorem w_gname {Q2 : L2.St → Hp → Prop} (q : Q2 (σ.set i (some v)) H) : gName i v σ H Q2 := q
theorem w_gsub {to ti : TE} {ts : TSet} {Q2 : L2.St → Hp → Prop} (h : to σ H fun o H1 => ti σ H1 fun i H2 => ts o i v H2 fun H3 => Q2 σ H3) : gSub to ti ts v σ H Q2 := h
theorem w_fld {C dx : Addr} {fs : List (Str × V)} {f : Str} {R : V → Prop} (ho : H a = some (.ins C dx fs)) (hc : Cls K C) (hn : NoAttr K C f) (hl : fs.lookup f = some v) (q : R v) : ∃ a' C dx fs v, V.ref a = .ref a' ∧ H a' = some (.ins C dx fs) ∧ Cls K C ∧ NoAttr K C f ∧ fs.lookup f = some v ∧ R v := ⟨a, C, dx, fs, v, rfl, ho, hc, hn, hl, q⟩
theorem w_fldE {f : Str} (h : ta σ H fun x H1 => ∃ a C dx fs v, x = .ref a ∧ H1 a = some (.ins C dx fs) ∧ Cls K C ∧ NoAttr K C f ∧ fs.lookup f = some v ∧ Q v H1) : tFld K ta f σ H Q := h
end

section
variable {σ : L2.St} {H H' : Hp} {i : Nat} {v x y z : V} {ta tb te tv tc : TE} {b : Bool} {K : PySem.W.Frag} {Q : VK} {QB : Bool → Hp → Prop} {D : Ends} {a C dx : Addr} {fs : List (Str × V)} {f m : Str}
theorem w_two {R : V → V → Prop} (q : R x y) : ∃ v w, [x, y] = [v, w] ∧ R v w := ⟨x, y, rfl, q⟩
theorem w_methE {sp : Sp} {dvs : List V} {E : XK} {t : TA} (h : ta σ H fun x H1 => ∃ a dx fs, x = .ref a ∧ H1 a = some (.ins C dx fs) ∧ fs.lookup m = none ∧ t σ H1 fun vs H2 => sp (x :: (vs ++ dvs)) H2 Q E) : tMeth C m sp dvs E ta t σ H Q := h
theorem w_meth {R : Prop} (ho : H a = some (.ins C dx fs)) (hl : fs.lookup m = none) (q : R) : ∃ a' dx fs, V.ref a = .ref a' ∧ H a' = some (.ins C dx fs) ∧ fs.lookup m = none ∧ R := ⟨a, dx, fs, rfl, ho, hl, q⟩
theorem w_makeE {sp : Sp} {dvs : List V} {E : XK} {t : TA} (h : t σ H fun vs H1 => ∀ x dx, H1 x = none → H1 dx = none → dx ≠ x →
  sp (.ref x :: (vs ++ dvs)) (upd (upd H1 dx (.own x)) x (.ins C dx [])) (fun v H2 => v = .non ∧ Q (.ref x) H2) E) : tMake C sp dvs E t σ H Q := h
theorem w_make {sp : Sp} {vs : List V} {E : XK} {H1 : Hp} (k : ∀ r dr H2, H1 r = none → H1 dr = none → Same H1 H2 → H2 r = some (.ins C dr []) → sp (.ref r :: vs) H2 (fun v H3 => v = .non ∧ Q (.ref r) H3) E) :
    ∀ x dx, H1 x = none → H1 dx = none → dx ≠ x → sp (.ref x :: vs) (upd (upd H1 dx (.own x)) x (.ins C dx [])) (fun v H2 => v = .non ∧ Q (.ref x) H2) E := by
  intro r dr nr nd ne
  refine k r dr _ nr nd (fun c o e => ?_) upd_same
  rw [upd_ne (ne_of_none e nr), upd_ne (ne_of_none e nd)]
  exact e
theorem w_isiB {tx tn : String} {k : Bool} (ht : TyX K H x (.type tx)) (hk : kitB tx tn = some k) (q : Q (.bl k) H) : rIsi K [x, .ty tn] H Q := ⟨x, .ty tn, _, _, k, rfl, .ty tn, ht, kit_ty hk, q⟩
theorem w_sfld {D : Ends} (h : tv σ H fun y H1 => ta σ H1 fun x H2 => ∃ a C dx fs, x = .ref a ∧ H2 a = some (.ins C dx fs) ∧ Cls K C ∧ NoAttr K C f ∧ fs.length < 1000 ∧ D.nx σ (upd H2 a (.ins C dx (putF f y fs)))) : sFld K ta tv f D σ H := h
theorem w_gfldE {to : TE} {Q2 : L2.St → Hp → Prop} (h : to σ H fun x H1 => ∃ a C dx fs, x = .ref a ∧ H1 a = some (.ins C dx fs) ∧ Cls K C ∧ NoAttr K C f ∧ fs.length < 1000 ∧ Q2 σ (upd H1 a (.ins C dx (putF f v fs)))) : gFld K to f v σ H Q2 := h
/-- a store to an attribute: the heap as a letter -/
def KB (p : Addr) (H H' : Hp) : Prop := ∀ c o, H c = some o → c ≠ p → H' c = some o
theorem KB.refl {p : Addr} : KB p H H := fun _ _ h _ => h
theorem KB.trans {p : Addr} {H1 H2 : Hp} (e : KB p H H1) (e' : KB p H1 H2) : KB p H H2 := fun c o h n => e' c o (e c o h n) n
theorem KB.of {p : Addr} (e : Same H H') : KB p H H' := fun c o h _ => e c o h
theorem KB.same {p : Addr} {H0 : Hp} (e : KB p H H') (e0 : Same H0 H) (n : H0 p = none) : Same H0 H' := fun c o h => e c o (e0 c o h) (ne_of_none h n)
theorem kb_upd {p : Addr} {o : HO} : KB p H (upd H p o) := fun c u h n => by rw [upd_ne n]; exact h
theorem w_st {R : Addr → Addr → Addr → List (Str × V) → Prop} (ho : H a = some (.ins C dx fs)) (hc : Cls K C) (hn : NoAttr K C f) (hl : fs.length < 1000) (q : R a C dx fs) :
    ∃ a' C dx fs, V.ref a = .ref a' ∧ H a' = some (.ins C dx fs) ∧ Cls K C ∧ NoAttr K C f ∧ fs.length < 1000 ∧ R a' C dx fs := ⟨a, C, dx, fs, rfl, ho, hc, hn, hl, q⟩
theorem w_setL {p : Addr} {xs : List V} {m : Int} {j : Nat} {QH : Hp → Prop} (h : H p = some (.lst xs)) (hj : ixN xs.length m = some j) (k : ∀ H2, KB p H H2 → H2 p = some (.lst (xs.set j v)) → QH H2) : rSetL (.ref p) (.int m) v H QH := ⟨p, xs, m, j, rfl, rfl, h, hj, k _ kb_upd upd_same⟩
theorem w_gtup {n : Nat} {t : TGs} {xs : List V} {Q2 : L2.St → Hp → Prop} (h : SqT K H a xs) (hn : xs.length = n) (q : t xs σ H Q2) : gTup K n t (.ref a) σ H Q2 := ⟨a, xs, rfl, h, hn, q⟩
theorem w_gcons {g : TG} {t : TGs} {r : List V} {Q2 : L2.St → Hp → Prop} (q : g v σ H fun σ' H' => t r σ' H' Q2) : gCons g t (v :: r) σ H Q2 := ⟨v, r, rfl, q⟩
theorem w_gnil {Q2 : L2.St → Hp → Prop} (q : Q2 σ H) : gNil [] σ H Q2 := ⟨rfl, q⟩
theorem lk_hit {r : List (Str × V)} : List.lookup f ((f, x) :: r) = some x := by simp [List.lookup]
theorem lk_miss {g : Str} {r : List (Str × V)} {o : Option V} (h : (f == g) = false) (e : List.lookup f r = o) : List.lookup f ((g, x) :: r) = o := by simp only [List.lookup, h]; exact e
theorem pf_hit {r : List (Str × V)} : putF f v ((f, x) :: r) = (f, v) :: r := by simp [putF]
theorem pf_miss {g : Str} {r : List (Str × V)} (h : (g == f) = false) : putF f v ((g, x) :: r) = (g, x) :: putF f v r := by
  have : ¬ g = f := beq_eq_false_iff_ne.mp h
  simp [putF, this]
theorem pf_nil : putF f v [] = [(f, v)] := rfl
/-- kept at another place -/
theorem kb_at {p q : Addr} {o : HO} (e : KB p H H') (h : H q = some o) (n : q ≠ p) : H' q = some o := e q o h n
end

/-- while, by a word that falls -/
theorem w_while {σ : L2.St} {H : Hp} {D : Ends} {c : TT} {tb : TS} (W : Nat → L2.St → Hp → Prop) (m0 : Nat) (h0 : W m0 σ H)
    (hs : ∀ m σ H, W m σ H → c σ H fun b H1 => if b = true then tb { D with nx := fun σ' H' => ∃ m', m' < m ∧ W m' σ' H', ct := fun σ' H' => ∃ m', m' < m ∧ W m' σ' H', bk := D.nx } σ H1 else D.nx σ H1)
    (mono : ∀ σ H (Q Q' : Bool → Hp → Prop), (∀ b H, Q b H → Q' b H) → c σ H Q → c σ H Q' ) : tWhile c tb D σ H :=
  ⟨W, ⟨m0, h0⟩, fun m σ H w => mono _ _ _ _ (fun b H1 q => by
    cases b with
    | true =>
      rw [if_pos rfl] at q ⊢
      exact ⟨_, fun _ _ h => h, q⟩
    | false =>
      rw [if_neg Bool.false_ne_true] at q ⊢
      exact q) (hs m σ H w)⟩
theorem w_loopT {D : Ends} {W : Nat → L2.St → Hp → Prop} {m : Nat} {tb : TS} {σ : L2.St} {H : Hp} (h : tb { D with nx := fun σ' H' => ∃ m', m' < m ∧ W m' σ' H', ct := fun σ' H' => ∃ m', m' < m ∧ W m' σ' H', bk := D.nx } σ H) :
    ∃ N : L2.St → Hp → Prop, (∀ σ' H', N σ' H' → ∃ m', m' < m ∧ W m' σ' H') ∧ tb { D with nx := N, ct := N, bk := D.nx } σ H := ⟨_, fun _ _ h => h, h⟩

theorem same_gen {H H2 : Hp} {p : Addr} {o : HO} (n : H p = none) (e : upd H p o = H2) : Same H H2 := e ▸ same_new n
theorem at_gen {H H2 : Hp} {p : Addr} {o : HO} (e : upd H p o = H2) : H2 p = some o := e ▸ upd_same
theorem kb_gen {H H2 : Hp} {p : Addr} {o : HO} (e : upd H p o = H2) : KB p H H2 := e ▸ kb_upd
theorem same_make {H H2 : Hp} {x dx : Addr} {o u : HO} (nx : H x = none) (nd : H dx = none) (e : upd (upd H dx u) x o = H2) : Same H H2 := fun c w h => by
  rw [← e, upd_ne (ne_of_none h nx), upd_ne (ne_of_none h nd)]
  exact h
theorem makeG {H1 : Hp} {R : Addr → Addr → Prop} (k : ∀ x dx, H1 x = none → H1 dx = none → dx ≠ x → R x dx) : ∀ x dx, H1 x = none → H1 dx = none → dx ≠ x → R x dx := k
theorem newL {n : Nat} {R : Addr → Prop} {H : Hp} (hl : n ≤ sizeLine) (k : ∀ p, H p = none → R p) : n ≤ sizeLine ∧ ∀ p, H p = none → R p := ⟨hl, k⟩
theorem kit_int_int : kitB "int" "int" = some true := by decide +kernel
theorem kit_int_bool : kitB "int" "bool" = some false := by decide +kernel
theorem kit_int_str : kitB "int" "str" = some false := by decide +kernel
theorem kit_int_list : kitB "int" "list" = some false := by decide +kernel
theorem kit_int_tuple : kitB "int" "tuple" = some false := by decide +kernel
theorem kit_int_dict : kitB "int" "dict" = some false := by decide +kernel
theorem kit_bool_int : kitB "bool" "int" = some true := by decide +kernel
theorem kit_bool_bool : kitB "bool" "bool" = some true := by decide +kernel
theorem kit_bool_str : kitB "bool" "str" = some false := by decide +kernel
theorem kit_bool_list : kitB "bool" "list" = some false := by decide +kernel
theorem kit_bool_tuple : kitB "bool" "tuple" = some false := by decide +kernel
theorem kit_bool_dict : kitB "bool" "dict" = some false := by decide +kernel
theorem kit_str_int : kitB "str" "int" = some false := by decide +kernel
theorem kit_str_bool : kitB "str" "bool" = some false := by decide +kernel
theorem kit_str_str : kitB "str" "str" = some true := by decide +kernel
theorem kit_str_list : kitB "str" "list" = some false := by decide +kernel
theorem kit_str_tuple : kitB "str" "tuple" = some false := by decide +kernel
theorem kit_str_dict : kitB "str" "dict" = some false := by decide +kernel
theorem kit_list_int : kitB "list" "int" = some false := by decide +kernel
theorem kit_list_bool : kitB "list" "bool" = some false := by decide +kernel
theorem kit_list_str : kitB "list" "str" = some false := by decide +kernel
theorem kit_list_list : kitB "list" "list" = some true := by decide +kernel
theorem kit_list_tuple : kitB "list" "tuple" = some false := by decide +kernel
theorem kit_list_dict : kitB "list" "dict" = some false := by decide +kernel
theorem kit_tuple_int : kitB "tuple" "int" = some false := by decide +kernel
theorem kit_tuple_bool : kitB "tuple" "bool" = some false := by decide +kernel
theorem kit_tuple_str : kitB "tuple" "str" = some false := by decide +kernel
theorem kit_tuple_list : kitB "tuple" "list" = some false := by decide +kernel
theorem kit_tuple_tuple : kitB "tuple" "tuple" = some true := by decide +kernel
theorem kit_tuple_dict : kitB "tuple" "dict" = some false := by decide +kernel
theorem kit_NoneType_int : kitB "NoneType" "int" = some false := by decide +kernel
theorem kit_NoneType_bool : kitB "NoneType" "bool" = some false := by decide +kernel
theorem kit_NoneType_str : kitB "NoneType" "str" = some false := by decide +kernel
theorem kit_NoneType_list : kitB "NoneType" "list" = some false := by decide +kernel
theorem kit_NoneType_tuple : kitB "NoneType" "tuple" = some false := by decide +kernel
theorem kit_NoneType_dict : kitB "NoneType" "dict" = some false := by decide +kernel
theorem kit_dict_int : kitB "dict" "int" = some false := by decide +kernel
theorem kit_dict_bool : kitB "dict" "bool" = some false := by decide +kernel
theorem kit_dict_str : kitB "dict" "str" = some false := by decide +kernel
theorem kit_dict_list : kitB "dict" "list" = some false := by decide +kernel
theorem kit_dict_tuple : kitB "dict" "tuple" = some false := by decide +kernel
theorem kit_dict_dict : kitB "dict" "dict" = some true := by decide +kernel

section
variable {σ : L2.St} {H : Hp} {K : PySem.W.Frag} {D : Ends} {a : Addr}
theorem w_forE {wi : TI} {g : TG} {tb : TS} (h : wi σ H fun J H1 => ∃ W : Nat → Nat → L2.St → Hp → Prop, (∃ m, W 0 m σ H1) ∧ ∀ i m σ H, W i m σ H →
  (J.stop i H ∧ D.nx σ H) ∨ (J.go i H ∧ ∃ N : L2.St → Hp → Prop, (∀ σ' H', N σ' H' → ∃ m', m' < m ∧ W (i + 1) m' σ' H') ∧ ∀ x H', J.yld i H x H' → g x σ H' fun σ2 H2 => tb { D with nx := N, ct := N, bk := D.nx } σ2 H2)) : tFor wi g tb D σ H := h
theorem w_iTup {tl : TE} {R : It → Hp → Prop} (h : tl σ H fun x H1 => ∃ a, x = .ref a ∧ (∃ xs, SqT K H1 a xs) ∧ R (Itt K a) H1) : iTup K tl σ H R := h
theorem w_iList {tl : TE} {R : It → Hp → Prop} (h : tl σ H fun x H1 => ∃ a, x = .ref a ∧ (∃ xs, SqL K H1 a xs) ∧ R (Itl K a) H1) : iList K tl σ H R := h
theorem w_iRng1 {ta : TA} {R : It → Hp → Prop} (h : ta σ H fun vs H1 => ∃ j : Int, vs = [.int j] ∧ -(2 ^ 62) ≤ j ∧ j < 2 ^ 62 ∧ R (Itr 0 j.toNat) H1) : iRng1 ta σ H R := h
theorem w_iRng2 {ta : TA} {R : It → Hp → Prop} (h : ta σ H fun vs H1 => ∃ i j : Int, vs = [.int i, .int j] ∧ (-(2 ^ 62) ≤ i ∧ i < 2 ^ 62 ∧ -(2 ^ 62) ≤ j ∧ j < 2 ^ 62) ∧ R (Itr i (j - i).toNat) H1) : iRng2 ta σ H R := h
theorem w_itT {R : Addr → Prop} {xs : List V} (h : SqT K H a xs) (q : R a) : ∃ a', V.ref a = .ref a' ∧ (∃ xs, SqT K H a' xs) ∧ R a' := ⟨a, rfl, ⟨xs, h⟩, q⟩
theorem w_itL {R : Addr → Prop} {xs : List V} (h : SqL K H a xs) (q : R a) : ∃ a', V.ref a = .ref a' ∧ (∃ xs, SqL K H a' xs) ∧ R a' := ⟨a, rfl, ⟨xs, h⟩, q⟩
/-- == of data -/
theorem w_eqD {x y : V} {Q : VK} {d e : PyData} {k : Bool} (hx : Dp K H x d) (hy : Dp K H y e) (sd : SeqAt.shaped d = true) (se : SeqAt.shaped e = true) (hk : PyData.eqv d e = k) (q : Q (.bl k) H) : rEqD K x y H Q := ⟨d, e, hx, hy, sd, se, hk ▸ q⟩
theorem w_neD {x y : V} {Q : VK} {d e : PyData} {k : Bool} (hx : Dp K H x d) (hy : Dp K H y e) (sd : SeqAt.shaped d = true) (se : SeqAt.shaped e = true) (hk : PyData.eqv d e = k) (q : Q (.bl (!k)) H) : rNeD K x y H Q := ⟨d, e, hx, hy, sd, se, hk ▸ q⟩
theorem dp_t2 {p : Addr} {m n : Int} (h : SqT K H p [.int m, .int n]) : Dp K H (.ref p) (.tuple [.int m, .int n]) := .tup h (.cons (.int m) (.cons (.int n) .nil))
end
theorem mulW {i j : Int} {a b : Nat} (ha : i.natAbs < 2 ^ a) (hb : j.natAbs < 2 ^ b) (h0 : 0 < a) (h1 : 0 < b) (h : a + b ≤ 1000000) : CMulU i j := (wide_mul ha hb h0 h1 h).ok
theorem mulL {i j : Int} (h : i.natAbs < 2 ^ 64) : CMulU i j := CMul.ok (.inl ⟨by omega, by omega⟩)
theorem mulR {i j : Int} (h : j.natAbs < 2 ^ 64) : CMulU i j := CMul.ok (.inr ⟨by omega, by omega⟩)
theorem w_pow10_5 {H : Hp} {Q : VK} (q : Q (.int 100000) H) : rI CPowU (fun i j => .int (i ^ j.toNat)) (.int 10) (.int 5) H Q := ⟨10, 5, rfl, rfl, powU (a := 4) (by decide) (by decide) (by decide) (by decide), q⟩
theorem w_pow10_8 {H : Hp} {Q : VK} (q : Q (.int 100000000) H) : rI CPowU (fun i j => .int (i ^ j.toNat)) (.int 10) (.int 8) H Q := ⟨10, 8, rfl, rfl, powU (a := 4) (by decide) (by decide) (by decide) (by decide), q⟩
theorem w_pow10_9 {H : Hp} {Q : VK} (q : Q (.int 1000000000) H) : rI CPowU (fun i j => .int (i ^ j.toNat)) (.int 10) (.int 9) H Q := ⟨10, 9, rfl, rfl, powU (a := 4) (by decide) (by decide) (by decide) (by decide), q⟩
theorem w_pow10_10 {H : Hp} {Q : VK} (q : Q (.int 10000000000) H) : rI CPowU (fun i j => .int (i ^ j.toNat)) (.int 10) (.int 10) H Q := ⟨10, 10, rfl, rfl, powU (a := 4) (by decide) (by decide) (by decide) (by decide), q⟩
theorem w_pow10_11 {H : Hp} {Q : VK} (q : Q (.int 100000000000) H) : rI CPowU (fun i j => .int (i ^ j.toNat)) (.int 10) (.int 11) H Q := ⟨10, 11, rfl, rfl, powU (a := 4) (by decide) (by decide) (by decide) (by decide), q⟩
theorem w_pow10_12 {H : Hp} {Q : VK} (q : Q (.int 1000000000000) H) : rI CPowU (fun i j => .int (i ^ j.toNat)) (.int 10) (.int 12) H Q := ⟨10, 12, rfl, rfl, powU (a := 4) (by decide) (by decide) (by decide) (by decide), q⟩
theorem w_pow10_18 {H : Hp} {Q : VK} (q : Q (.int 1000000000000000000) H) : rI CPowU (fun i j => .int (i ^ j.toNat)) (.int 10) (.int 18) H Q := ⟨10, 18, rfl, rfl, powU (a := 4) (by decide) (by decide) (by decide) (by decide), q⟩
/-! ### small facts -/
theorem sz {n : Nat} (h : n ≤ 100000) : n ≤ sizeLine := Nat.le_trans h (by decide)
theorem w_iteP {c : Bool} {A B : Prop} (h1 : c = true → A) (h2 : c = false → B) : if c = true then A else B := by
  cases c with
  | true => exact iteT (h1 rfl)
  | false => exact iteF (h2 rfl)
theorem w_dec {c A B : Prop} {dc : Decidable c} (h1 : c → A) (h2 : ¬ c → B) : if decide c = true then A else B := by
  by_cases h : c
  · rw [if_pos (decide_eq_true h)]
    exact h1 h
  · rw [if_neg (fun e => h (of_decide_eq_true e))]
    exact h2 h
theorem same_at {H H' : Hp} {a : Addr} {o : HO} (e : Same H H') (h : H a = some o) : H' a = some o := e a o h
theorem same_t {K : PySem.W.Frag} {H H' : Hp} {a : Addr} {xs : List V} (e : Same H H') (h : SqT K H a xs) : SqT K H' a xs := by
  rcases h with (h | ⟨o, h⟩) | h
  · exact .inl (.inl (e _ _ h))
  · exact .inl (.inr ⟨o, e _ _ h⟩)
  · exact .inr h
section
variable {K : PySem.W.Frag} {H : Hp}
theorem tyx_int {i : Int} : TyX K H (.int i) (.type "int") := .base (.int _)
theorem tyx_bl {b : Bool} : TyX K H (.bl b) (.type "bool") := .base (.bl _)
theorem tyx_str {x : Str} : TyX K H (.str x) (.type "str") := .base (.str _)
theorem tyx_non : TyX K H .non (.type "NoneType") := .base .non
theorem tyx_lst {a : Addr} {xs : List V} (h : H a = some (.lst xs)) : TyX K H (.ref a) (.type "list") := .base (.lst h)
theorem tyx_tup {a : Addr} {xs : List V} (h : H a = some (.tup xs)) : TyX K H (.ref a) (.type "tuple") := .base (.tup h)
end
end Bw

/-! Except clauses: tuples of classes of any length. -/
namespace PySem.W
open PySem PySem.Spec PySem.Calls
section
variable {M : Model} {K : Frag}
theorem forIn_stay {β : Type} {A : Around} {E : Value → Shared → Prop} {s : Shared} {b : β} {f : Value → β → Sem (ForInStep β)} {Q : β → Shared → Prop} : ∀ {cs : List Value}, (∀ c ∈ cs, ∀ (Q : ForInStep β → Shared → Prop), Q (.yield b) s → wpAny M A (f c b) Q E s) → Q b s → wpAny M A (forIn cs b f) Q E s
  | [], _, q => by
    rw [List.forIn_nil]
    exact wpAny_pure q
  | c :: r, hf, q => by
    rw [List.forIn_cons]
    refine wpAny_bind (hf c List.mem_cons_self _ ?_)
    exact forIn_stay (fun c hc => hf c (List.mem_cons_of_mem _ hc)) q
theorem exmAny_mem {cls : Value} : ∀ {cs : List Value} {b : Bool}, exmAny K cls cs = some b → ∀ c ∈ cs, ∃ b1, exmOne K cls c = some b1
  | c :: r, b, h, x, hx => by
    obtain ⟨b1, d1, h1, h2, _⟩ := exmAny_cons h
    rcases List.mem_cons.mp hx with rfl | hx
    · exact ⟨_, h1⟩
    · exact exmAny_mem h2 x hx
theorem exm_tupN {cs : List Value} {cls : Value} {tp e : Addr} {b : Bool} {h : Heap} {n : Nat} {dd : Option Addr} {sl : Array (Option Value)} (X : K.In h) (LT : Looks M h (typeOf (.ref e)) cls) (hp : h.get? tp = some { cls := .type "tuple", dict := dd, data := .seq cs.toArray n, slots := sl }) (hx : exmAny K cls cs = some b) :
    Looks M h (excMatches (.ref e) (.ref tp)) b := by
  intro A Q E s k₀ q
  obtain ⟨hh, g, d, tk, os⟩ := s
  have k : ∀ b o, h.get? b = some o → hh.get? b = some o := k₀
  have LT0 : Looks M h (isInstance (.ref tp) (.type "tuple")) true := ((Looks.ld hp).andThen .now).andThen (Looks.of_pure isSubtype_tuple_tuple)
  have LT := LT.keeps k
  have LT0 := LT0.keeps k
  have hp' := k _ _ hp
  have hk := X.keeps k
  unfold excMatches
  refine wpAny_bind (LT0.at ?_)
  dsimp only
  rw [if_pos rfl]
  first
    | refine wpAny_bind (wpAny_seqItems hp' rfl ?_)
    | refine wpAny_bind (wpAny_bind (wpAny_seqItems hp' rfl (wpAny_pure ?_)))
  dsimp only [Option.getD_some, Option.getD]
  refine wpAny_bind (wpAny_pure ?_)
  refine wpAny_bind (forIn_stay (fun c hc Q q => ?_) ?_)
  · obtain ⟨b1, h1⟩ := exmAny_mem hx c hc
    refine wpAny_bind ((exm_cls (M := M) hk h1).1.here ?_)
    exact wpAny_pure q
  · refine wpAny_bind (LT.here ?_)
    have loop : ∀ (cs : List Value) (b : Bool), exmAny K cls cs = some b → ∀ (Q : Option Bool × Unit → Shared → Prop), Q (if b then some true else none, ()) { heap := hh, gens := g, drawn := d, toks := tk, os := os } →
        wpAny M A (forIn cs ((none : Option Bool), ()) fun c __s => do
            let __do_lift ← isSubtype cls c
            if __do_lift = true then pure (ForInStep.done (some true, ())) else pure (ForInStep.yield (none, ()))) Q E { heap := hh, gens := g, drawn := d, toks := tk, os := os } := by
      intro cs
      induction cs with
      | nil =>
        intro b hb Q q
        have w2 : some false = some b := hb
        cases w2
        rw [List.forIn_nil]
        exact wpAny_pure q
      | cons c r ih =>
        intro b hb Q q
        obtain ⟨b1, d1, h1, h2, rfl⟩ := exmAny_cons hb
        rw [List.forIn_cons]
        refine wpAny_bind (wpAny_bind ((exm_cls (M := M) hk h1).2.here ?_))
        cases b1 with
        | true =>
          rw [if_pos rfl]
          exact wpAny_pure (wpAny_pure q)
        | false =>
          rw [if_neg Bool.false_ne_true]
          exact wpAny_pure (ih d1 h2 Q q)
    refine wpAny_bind (loop cs b hx _ ?_)
    cases b with
    | true => exact wpAny_pure q
    | false => exact wpAny_pure q
end
end PySem.W

namespace Bw
open PySem PySem.Spec L2
/-! ### try with several clauses, classes or tuples of classes, each with a name -/
/-- a clause's class expression, read where the exception is handled -/
def wMas (K : PySem.W.Frag) (Wout : WX) (D : Ends) : List (List Value × Nat × (Addr → Value → Option Addr → TS)) → WX
  | [] => Wout
  | (cs, i, ts) :: r => fun cls d σ H => ∃ b, PySem.W.exmAny K cls cs = some b ∧ (b = true → ∀ a, H a = none → ts a cls d { nx := fun σ' H' => D.nx (σ'.set i none) H', rt := D.rt, bk := fun σ' H' => D.bk (σ'.set i none) H', ct := fun σ' H' => D.ct (σ'.set i none) H' } (σ.set i (some (.ref a))) H) ∧
      (b = false → wMas K Wout D r cls d σ H)
/-- names of classes -/
inductive NamesL (X : Cx) : List Expr → List Value → Prop
  | nil : NamesL X [] []
  | cons {x : Str} {c : Value} {p : Pos} {es : List Expr} {cs : List Value} (h : Names X x c) (r : NamesL X es cs) : NamesL X (.Name x p :: es) (c :: cs)
inductive ClsE (X : Cx) : Expr → List Value → Prop
  | one {x : Str} {c : Value} {p : Pos} (h : Names X x c) : ClsE X (.Name x p) [c]
  | tup {es : List Expr} {cs : List Value} {k : Nat} {p : Pos} (h : NamesL X es cs) : ClsE X (.Tuple es k p) cs
inductive HdsA (X : Cx) : List ExceptHandler → List (List Value × Nat × (Addr → Value → Option Addr → TS)) → Prop
  | nil : HdsA X [] []
  | cons {te : Expr} {cs : List Value} {n : Str} {i : Nat} {ts : Addr → Value → Option Addr → TS} {b₀ : Stmt} {suite : List Stmt} {pos' : Pos} {hds : List ExceptHandler} {l : List (List Value × Nat × (Addr → Value → Option Addr → TS))} (hc : ClsE X te cs)
      (hi : X.N[i]? = some n) (hln : X.env.kindOf n = some .local)
      (hsu : ∀ (a : Addr) (oe : Obj) (cls : Value) (d : Option Addr) (pn : List (Addr × Obj)), Zc cls d oe → (∃ vs, oe.data = .fields vs) → PSs (X.suite a ((a, oe) :: pn)) (b₀ :: suite) (ts a cls d)) (r : HdsA X hds l) :
      HdsA X (.ExceptHandler (some te) (some n) (b₀ :: suite) pos' :: hds) ((cs, i, ts) :: l)
theorem flying_kept {B h h' : Heap} {l : List Env} {e : Addr} {Z : Obj → Prop} (f : HandSPX.FlyingZ B l e Z h) (k : ∀ b o, h.get? b = some o → h'.get? b = some o) : HandSPX.FlyingZ B l e Z h' := by
  obtain ⟨f1, f2, f3, oe, vs, T, oT, ts, a1, a2, a3, a4, a5, a6, a7, a8, a9⟩ := f
  exact ⟨fun b o q => k b o (f1 b o q), f2, f3.of_keeps fun b o q _ => ⟨o, k b o q, rfl⟩, oe, vs, T, oT, ts, k _ _ a1, a2, a3, a4, a5, a6, k _ _ a7, a8, a9⟩
section
variable {X : Cx} {body : List Stmt} {h₀ : ExceptHandler} {hds : List ExceptHandler} {l : List (List Value × Nat × (Addr → Value → Option Addr → TS))} {pos : Pos} {tb : WX → TS} {Wout : WX}
theorem eval_names {Y : Cx} {pins : List (Addr × Obj)} {σ : L2.St} {H : Hp} {s : Shared} {E : Value → Shared → Prop} (I : Inv Y pins σ H s) (pos : Pos) : ∀ {es : List Expr} {cs : List Value}, NamesL Y es cs → ∀ {Q : List Value → Shared → Prop}, Q cs s → wpAny (model Y.prog Y.w) Y.A (spliced (backTo pos (starEach es Y.env))) Q E s
  | _, _, .nil, Q, q => Calls.spliced_nil q
  | _, _, @NamesL.cons _ x c p es cs h r, Q, q => by
    show wpAny _ _ (spliced ((false, eval (.Name x p) Y.env) :: backTo pos (starEach es Y.env))) _ _ s
    refine Calls.spliced_cons ?_
    have go : wpAny (model Y.prog Y.w) Y.A (spliced (backTo pos (starEach es Y.env))) (fun vs s₂ => Q (c :: vs) s₂) E s := eval_names I pos r q
    obtain ⟨hg, hdbg, hm | ⟨hm, hv, hnn⟩⟩ := h
    · exact ld_glob I hg hm go hdbg
    · exact ld_blt I hg hm hv go hnn hdbg
theorem NamesL.suite {a : Addr} {pn : List (Addr × Obj)} : ∀ {es : List Expr} {cs : List Value}, NamesL X es cs → NamesL (X.suite a pn) es cs
  | _, _, .nil => .nil
  | _, _, .cons h r => .cons h (NamesL.suite r)
theorem NamesL.length : ∀ {es : List Expr} {cs : List Value}, NamesL X es cs → cs.length = es.length
  | _, _, .nil => rfl
  | _, _, .cons _ r => congrArg Nat.succ (NamesL.length r)
theorem ps_try_mas (hs : X.stack = X.env :: X.outer) (hf : X.env.frame = some X.env.locals) (hN : X.N.Nodup) (tk : Takes X Wout) (hsz : ∀ x ∈ l, x.1.length ≤ 1000)
    (hb : ∀ (W : WX) (pn : List (Addr × Obj)) (xe : Value → Shared → Prop), Takes (X.tr pn xe) W → PassesOwn (model X.prog X.w) X.A X.env xe → PSs (X.tr pn xe) body (tb W))
    (hh : HdsA X (h₀ :: hds) l) : PS X (.Try body (h₀ :: hds) [] [] pos) (fun D σ H => tb (wMas X.K Wout D l) D σ H) := by
  refine ⟨fun pins s σ H D I h => ?_⟩
  have ok := I.ok
  have hfr : X.A.frames = some (X.env :: X.outer) := by rw [ok.frames, hs]
  refine wpAny_Try_except ?_
  refine wpAny_mono ((hb (wMas X.K Wout D l) (X.pn ++ pins) (fun e s₁ => wpAny (model X.prog X.w) X.A (noteFrame e X.env) (fun _ s₂ => wpAny (model X.prog X.w) X.A (setFlight e none) (fun _ s₃ =>
    wpAny (model X.prog X.w) X.A (handleBy e X.env (h₀ :: hds)) (SP X pins D) X.xe s₃) X.xe s₂) X.xe s₁) (fun u s' xx => ?_) PassesOwn.looking).run [] s σ H D (I.toTry _) h) (fun f s1 hsp => ?_) (fun e s1 he => he)
  · -- the catch
    obtain ⟨a, B, sI, pins', σ', H', cls, d, rfl, J', nb, up, sky, na, os, ag, w⟩ := xx
    have J : Inv X pins σ' H' sI := J'.ofTry ok
    have sky' : Sky B (X.env :: X.outer) a (Zc cls d) X.env.locals s'.heap := by rw [← hs]; exact sky
    show wpAny (model X.prog X.w) X.A (noteFrame (.ref a) X.env) _ _ _
    refine Sky.land Zc.steady hfr hf sky' fun h3 fl3 up3 => ?_
    have notFr : ∀ {h : Heap} {o : Obj} {vs : Array Value}, h.FunFrames B (X.env :: X.outer) → h.get? a = some o → o.data = .fields vs → a ∉ frs (X.env :: X.outer) := fun {h o vs} ff e dd hm => by
      obtain ⟨_, o', e', hnf⟩ := ff.mem hm
      rw [e] at e'; cases e'
      exact hnf _ dd
    have nfr : a ∉ frs (X.env :: X.outer) := by
      obtain ⟨oe3, vs3, he3, hz3, hd3⟩ := fl3.there
      exact notFr fl3.2.2.1 he3 hd3
    have nL : a ≠ X.env.locals := fun z => nfr (List.mem_filterMap.mpr ⟨X.env, List.mem_cons_self, by rw [hf, z]⟩)
    have nF : a ∉ X.fs := fun hm => by
      obtain ⟨e, he, q⟩ := List.mem_filterMap.mp hm
      exact nfr (List.mem_filterMap.mpr ⟨e, List.mem_cons_of_mem _ he, q⟩)
    have go : ∀ {hds' : List ExceptHandler} {l' : List (List Value × Nat × (Addr → Value → Option Addr → TS))}, HdsA X hds' l' → (∀ x ∈ l', x.1.length ≤ 1000) → wMas X.K Wout D l' cls d σ' H' → ∀ h3, HandSPX.FlyingZ B (X.env :: X.outer) a (Zc cls d) h3 → sI.heap.UpToSlots h3 →
        wpAny (model X.prog X.w) X.A (handleBy (.ref a) X.env hds') (SP X pins D) X.xe { s' with heap := h3 } := by
      intro hds' l' hk
      induction hk with
      | nil =>
        intro _ w h3 fl3 up3
        refine wpAny_handleBy_nil ?_
        obtain ⟨k1, k2, k3, oe, vs, T, oT, ts', he, hz, hd, h1, hr⟩ := id fl3
        unfold PySem.passOn
        refine wpAny_bind (wpAny_field he hd h1 ?_)
        rw [if_neg (show ¬ ((Value.ref T == Value.none) = true) from by simp)]
        have fin : wpAny (model X.prog X.w) X.A (setFlight (.ref a) X.env.frame) (fun _ s4 => wpAny (model X.prog X.w) X.A (throw (.ref a) : Sem Flow) (SP X pins D) X.xe s4) X.xe { s' with heap := h3 } := by
          rw [hf]
          refine HandSPX.setFlight_upZ fl3 fun h4 hh4 up4 => wpAny_throw (tk _ _ ?_)
          exact ⟨a, B, sI, pins, σ', H', cls, d, rfl, J, nb, up3.trans up4, .inr (.inr (by rw [hs]; exact hh4)), na, os, ag, w⟩
        first
          | exact wpAny_bind (wpAny_pure (wpAny_bind fin))
          | exact wpAny_bind fin
      | @cons te cs n i ts b₀ suite pos' hds2 l2 hc hi hln hsu r ih =>
        intro hz0 w h3 fl3 up3
        obtain ⟨b, hb1, hyes, hno⟩ := w
        have J3 : Inv X pins σ' H' { s' with heap := h3 } := J.landed nb fl3.1 up3 os ag
        obtain ⟨oe3, vs3, he3, hz3, hd3⟩ := fl3.there
        have S3 := J3.suite he3 hd3 na nL nF
        refine wpAny_handleBy_cons (codeAny_handlers_test ?_) (by intro q; cases q)
        -- the classes, then the match, in a heap that is kept
        have test : ∀ {R : Bool → Shared → Prop} {E : Value → Shared → Prop}, (∀ h4, (∀ b o, h3.get? b = some o → h4.get? b = some o) → R b { s' with heap := h4 }) →
            wpAny (model X.prog X.w) (X.A.mark (some (.ref a))) (eval te X.env) (fun c s₁ => wpAny (model X.prog X.w) (X.A.mark (some (.ref a))) (excMatches (.ref a) c) R E s₁) E { s' with heap := h3 } := fun {R E} q => by
          cases hc with
          | one hn =>
            rename_i x c np
            have LT : PySem.W.Looks (model X.prog X.w) h3 (typeOf (.ref a)) cls := fun A Q E s k q => wpAny_typeOf_ref (k _ _ he3) (by rw [hz3.1]; exact q)
            obtain ⟨b1, d1, h1, h2, eb⟩ := PySem.W.exmAny_cons hb1
            have w2 : some false = some d1 := h2
            cases w2
            rw [Bool.or_false] at eb
            subst eb
            have LM := PySem.W.exm_one (M := model X.prog X.w) (J3.kIn) LT h1
            obtain ⟨hg, hdbg, hm | ⟨hm, hv, hnn⟩⟩ := hn
            · exact ld_glob (X := X.suite a ((a, oe3) :: (X.pn ++ pins))) S3 hg hm (LM.here (q h3 fun _ _ z => z)) hdbg
            · exact ld_blt (X := X.suite a ((a, oe3) :: (X.pn ++ pins))) S3 hg hm hv (LM.here (q h3 fun _ _ z => z)) hnn hdbg
          | tup hn =>
            rename_i es kk np
            refine wpAny_Tuple_spliced (eval_names (Y := X.suite a ((a, oe3) :: (X.pn ++ pins))) S3 _ hn.suite ⟨?_, ?_⟩)
            · exact Nat.le_trans (hz0 _ List.mem_cons_self) (by decide)
            · have kp : ∀ b o, h3.get? b = some o → (h3.push { cls := .type "tuple", data := .seq cs.toArray }).get? b = some o := fun b o e => Heap.get?_push_of_some _ e
              have LT : PySem.W.Looks (model X.prog X.w) (h3.push { cls := .type "tuple", data := .seq cs.toArray }) (typeOf (.ref a)) cls := fun A Q E s k q => wpAny_typeOf_ref (k _ _ (kp _ _ he3)) (by rw [hz3.1]; exact q)
              have LM := PySem.W.exm_tupN (M := model X.prog X.w) (J3.kIn.keeps kp) LT (Heap.get?_push_size _ rfl) hb1
              exact LM.here (q _ kp)
        refine test fun h4 kp => ?_
        have fl4 := flying_kept fl3 kp
        have up4 : sI.heap.UpToSlots h4 := up3.trans (.of_keeps kp)
        cases b with
        | true =>
          refine codeAny_handlers_suite_as ?_
          refine HandSPX.lands_againZ fl4 fun h5 fl5 up5 => ?_
          have J5 : Inv X pins σ' H' { s' with heap := h5 } := J.landed nb fl5.1 (up4.trans up5) os ag
          obtain ⟨oe5, vs5, he5, hz5, hd5⟩ := fl5.there
          have S5 := J5.suite he5 hd5 na nL nF
          refine store_ok (X := X.suite a ((a, oe5) :: (X.pn ++ pins))) (v := .ref a) S5 hN hi (.inl hln) rfl (fun s6 S6 => ?_) (.inr hln)
          refine wpAny_mono ((hsu a oe5 cls d (X.pn ++ pins) hz5 ⟨_, hd5⟩).run [] s6 _ H' _ S6 (hyes rfl a na)) (fun f s6 hsp => ?_) (fun _ _ z => False.elim z)
          have end_ : ∀ {σ6 : L2.St} {H6 : Hp} {Q : Shared → Prop}, Inv (X.suite a ((a, oe5) :: (X.pn ++ pins))) [] σ6 H6 s6 → (∀ s7, Inv X pins (σ6.set i none) H6 s7 → Q s7) →
              wpAny (model X.prog X.w) X.A (do bindName X.env n .none; unbindBehindTheSuite X.env n pos') (fun _ s7 => Q s7) X.xe s6 := fun {σ6 H6 Q} S6 hq => gone_ok (S6.unsuite ok) hN hi hln hq
          cases f with
          | next =>
            obtain ⟨σ6, H6, S6, q6⟩ := hsp
            exact end_ S6 fun s7 J7 => ⟨_, _, J7, q6⟩
          | brk =>
            obtain ⟨σ6, H6, S6, q6⟩ := hsp
            exact end_ S6 fun s7 J7 => ⟨_, _, J7, q6⟩
          | cont =>
            obtain ⟨σ6, H6, S6, q6⟩ := hsp
            exact end_ S6 fun s7 J7 => ⟨_, _, J7, q6⟩
          | ret u =>
            obtain ⟨v6, σ6, H6, S6, r6, q6⟩ := hsp
            exact end_ S6 fun s7 J7 => ⟨_, _, _, J7, r6, q6⟩
        | false =>
          show wpAny _ X.A (handleBy (.ref a) X.env hds2) _ _ _
          exact ih (fun x hx => hz0 x (List.mem_cons_of_mem _ hx)) (hno rfl) h4 fl4 up4
    exact go hh hsz w h3 fl3 (up.trans up3)
  · cases f with
    | next =>
      obtain ⟨σ', H', J', q⟩ := hsp
      exact wpAny_execs_nil ⟨σ', H', J'.ofTry ok, q⟩
    | brk =>
      obtain ⟨σ', H', J', q⟩ := hsp
      exact ⟨σ', H', J'.ofTry ok, q⟩
    | cont =>
      obtain ⟨σ', H', J', q⟩ := hsp
      exact ⟨σ', H', J'.ofTry ok, q⟩
    | ret u =>
      obtain ⟨v, σ', H', J', r, q⟩ := hsp
      exact ⟨v, σ', H', J'.ofTry ok, r, q⟩
end
end Bw

namespace Bw
open PySem PySem.Spec PyProof.Rows L2
/-! ### raise of own classes -/
section
variable {X : Cx}
/-- X(), X an own exception class without own __init__ -/
theorem pmk_own0 {C : Addr} {bmB : List Value} {B newId initId : String} {x : Str} {p pos : Pos} (F : ExcBaseFacts B newId initId bmB) (q : PySem.W.excIn X.K C bmB newId = true) (gC : X.mg x = some (.ref C))
    (kC : PySem.W.keepIn X.K (.ref C) = true) (r : Raises X (.ref C)) (hg : Gl X x) (hdb : (x == ("__debug__" : Str)) = false := by decide) : PMk X (.Call (.Name x p) [] [] pos) (fun _ H Q => Q (.ref C) none H) := by
  intro pins s σ H Q I h
  refine wpAny_Call_Name_kw (ld_glob I hg gC ?_ hdb)
  refine PySem.W.callWith_K0 I.kIn kC ?_
  show wpAny _ _ (call (.ref C) []) _ _ _
  obtain ⟨bm, N, nm, qn, bs, hdct, sn, sub, ab, col, dd, k0, k1, k2, k3, k5, mN, hC, hN, hni, T⟩ := exc_obj I.kIn q
  refine wpAny_call_exc_subT F T hC hN hni (fun h' e hm => ?_) (by show 0 ≤ sizeLine; exact Nat.zero_le _)
  exact mk_of I hm r h (I.hok.gone hm.new)
/-- D.__init__(self, ..), D an own class above which stands ValueError -/
theorem pe_wrinit {pl : Sem Bool} {D : Addr} {x : Str} {e : Expr} {es : List Expr} {ta : TA} {p1 p2 pos : Pos} (hg : Gl X x) (hm : X.mg x = some (.ref D)) (hga : PySem.W.specialIn X.K (.ref D) "__getattribute__" = some (some (.builtin "type.__getattribute__")))
    (hrd : PySem.W.readsIn X.K D (.type "type") = true) (vV : PySem.W.findCls X.K (.ref D) (.type "type") "__init__" = some (.val (.builtin "ValueError.__init__"))) (ha : PA X (e :: es) ta)
    (hdb : (x == ("__debug__" : Str)) = false := by decide)
    (hc : eval (.Call (.Attribute (.Name x p1) "__init__" p2) (e :: es) [] pos) X.env = (do
      let ov ← eval (.Name x p1) X.env
      standAt p2.atName
      let (f, first) ← holding [ov] (getMethod ov "__init__" pl)
      callWith pos f first (backTo pos (starEach (e :: es) X.env)) (backToKw pos (keywordEach [] X.env))) := by rfl)
    (he : starEach (e :: es) X.env = (false, eval e X.env) :: starEach es X.env := by rfl) (hpl : (backTo pos (starEach es X.env)).any (·.1) = false := by rfl) :
    PE X (.Call (.Attribute (.Name x p1) "__init__" p2) (e :: es) [] pos) (tVeI X.K ta) := by
  refine ⟨fun pins s σ H Q I h => ?_⟩
  refine PySem.W.methodCall_KW (ld_glob I hg hm ?_ hdb) hc
  refine PySem.W.method_cls I.kIn hga (PySem.W.cls_value I.kIn hrd vV rfl ?_)
  show wpAny _ _ (callWith pos (Value.builtin "ValueError.__init__") [] (backTo pos (starEach (e :: es) X.env)) []) _ _ _
  refine PyProof.Rows.callWith_method1 (thn (ha.run pos pins _ σ H _ (I.tok _) h) fun us s1 ⟨vs, H1, I1, r1, a, C, ws, ev, hl, T, ea, q⟩ => ?_) he hpl
  subst ev
  cases r1 with
  | @cons _ u0 _ ur ra rw' =>
    obtain rfl : u0 = Value.ref a := ra
    have hlen : ur.length ≤ sizeLine := by
      rw [← Paired.length rw', sizeLine_eq]
      omega
    exact oinit_ok T I1 ea hlen fun s' J => ⟨.non, H1, J, rfl, q⟩
/-- C(), C's own __init__ -/
theorem pmk_oex0 {CX : CXT} {x : Str} {C fI : Addr} {k : Nat} {fd : FuncData} {ps : List Str} {sp : Sp} {ds : List Value} {dvs : List V} {p pos : Pos} (T : OexC X.K C) (iC : PySem.W.findIn X.K (.ref C) "__init__" = some (some (.ref fI))) (tI : PySem.W.typeIn X.K (.ref fI) = some (.type "function"))
    (F1 : FnOk X.prog X.w X.K X.mg X.base CX k fI fd ps sp) (hr : Room (k + 1) X.A) (hb : Binds X.K fd ps ds) (hd : Vals dvs ds) (hx : Passes CX X (fun _ _ _ => False)) (hg : Gl X x) (hm : X.mg x = some (.ref C))
    (hdb : (x == ("__debug__" : Str)) = false := by decide) :
    PMk X (.Call (.Name x p) [] [] pos) (tMkO C sp dvs tNil) := by
  intro pins s σ H Q I h
  obtain ⟨nm, q, N, bs, bm, sn, sub, ab, col, dd, k0, k1, k2, k3, k5, hC, hbm⟩ := T.cls
  refine wpAny_Call_Name_kw (ld_glob I hg hm ?_ hdb)
  obtain ⟨hz, q1⟩ := h
  refine PySem.W.callWith_K0 I.kIn T.kC ?_
  show wpAny _ _ (call (.ref C) []) _ _ _
  obtain ⟨hp, g, dr, tk, os⟩ := s
  have hsz : hp.objs.size ≤ hp.objs.size + 1 := Nat.le_succ _
  have hn : H (hp.objs.size + 1) = none := I.hok.fresh hsz
  have hq := q1 (hp.objs.size + 1) hn
  have kk : ∀ b o, hp.get? b = some o → ((hp.push (PySem.W.kdv_tup [])).push (PySem.HandSPX.excO C hp.objs.size)).get? b = some o := fun b o e => Heap.get?_push_of_some _ (Heap.get?_push_of_some _ e)
  have hget : ((hp.push (PySem.W.kdv_tup [])).push (PySem.HandSPX.excO C hp.objs.size)).get? (hp.objs.size + 1) = some (PySem.HandSPX.excO C hp.objs.size) := by heap_get
  have I2 : Inv X pins σ (upd H (hp.objs.size + 1) (exo (hp.objs.size + 1) C none)) ⟨(hp.push (PySem.W.kdv_tup [])).push (PySem.HandSPX.excO C hp.objs.size), g, dr, tk, os⟩ :=
    I.laid (t' := tk) (a := hp.objs.size + 1) (o := exo (hp.objs.size + 1) C none) (h' := (hp.push (PySem.W.kdv_tup [])).push (PySem.HandSPX.excO C hp.objs.size)) kk hsz (exo_ok hget)
  have r2 : Vals (V.ref (hp.objs.size + 1) :: ([] ++ dvs)) (Value.ref (hp.objs.size + 1) :: ([] ++ ds)) := .cons rfl (Vals.append .nil hd)
  have hl : (Value.ref (hp.objs.size + 1) :: [] ++ ds).length = ps.length := by
    have e := r2.length
    rw [F1.len _ _ _ _ hq] at e
    exact e.symm
  refine wpAny_call (PySem.HandSPX.call_own F.excBase_ValueError (fun Y => PySem.HandSPX.refsVE_contains Y bm hbm) (I.kIn _ _ hC) (PySem.W.looks_findIn I.kIn iC) (fun self => PySem.W.bind_fn I.kIn self tI) (Nat.zero_le _)
    (codeAny_mono (F1.run _ X.stack _ _ ⟨Value.ref (hp.objs.size + 1) :: [], []⟩ (Value.ref (hp.objs.size + 1) :: ([] ++ ds)) _ _ (fun _ _ _ => False) (hr.make C [] []) (I2.env0.make C [] []) (show BindsTo _ _ _ (ps.zip (Value.ref (hp.objs.size + 1) :: ([] ++ ds))) from hb _ (Value.ref (hp.objs.size + 1) :: []) I2.kIn hl) r2 hq) fun r s' hq' => ?_))
  cases r with
  | error er => exact hx pins σ _ _ er s' I2 hq'
  | ok fl =>
    cases fl with
    | ret u =>
      obtain ⟨v, H2, os2, bare2, un2, hok2, rv, ev, d, fs, ea, ed, hd1, q2⟩ := hq'
      subst ev
      obtain ⟨h2, g2, d2, t2, os'⟩ := s'
      exact ⟨rv, mk_end (raises_own T.exC T.tyC) I hsz kk un2 hok2 os2 bare2 ea ed hd1 q2⟩
    | next => exact False.elim hq'
    | brk => exact False.elim hq'
    | cont => exact False.elim hq'
end
/-! ### own exceptions with one field -/
/-- what such an __init__(self, v) does -/
def spXi (K : PySem.W.Frag) (f : Str) : Sp := fun vs H Q _ => ∃ (a C : Addr) (v : V), vs = [.ref a, v] ∧ OexC K C ∧ PySem.W.findIn K (.ref C) f = some none ∧ H a = some (exo a C none) ∧ ∀ dx, H dx = none → dx ≠ a → Q .non (upd (upd H dx (exd dx [(f, v)])) a (exo a C (some dx)))
/-- an own exception class x, its __init__ puts one field f; dvs: what is told by default -/
structure Xcl (P : Program) (w : World) (K : PySem.W.Frag) (mg : Str → Option Value) (base : Heap) (x : Str) (C : Addr) (k : Nat) (f : Str) (dvs : List V) : Prop where
  T : OexC K C
  no : PySem.W.findIn K (.ref C) f = some none
  hm : mg x = some (.ref C)
  ex : ∃ (fI : Addr) (fd : FuncData) (ds : List Value) (ps : List Str), PySem.W.findIn K (.ref C) "__init__" = some (some (.ref fI)) ∧ PySem.W.typeIn K (.ref fI) = some (.type "function") ∧ FnOk P w K mg base CX0 k fI fd ps (spXi K f) ∧ Binds K fd ps ds ∧ Vals dvs ds
def tXmk (C : Addr) (f : Str) (dvs : List V) (ta : TA) : L2.St → Hp → XK → Prop := fun σ H Q => ta σ H fun vs H1 => ∃ v, vs ++ dvs = [v] ∧ ∀ d H2, H1 d = none → Same H1 H2 → H2 d = some (.xd [(f, v)]) → Q (.ref C) (some d) H2
theorem xi_end {K : PySem.W.Frag} {H1 : Hp} {C : Addr} {f : Str} {v : V} {Q : XK} (T : OexC K C) (no : PySem.W.findIn K (.ref C) f = some none) (h : ∀ d H2, H1 d = none → Same H1 H2 → H2 d = some (.xd [(f, v)]) → Q (.ref C) (some d) H2) (a : Addr) (na : H1 a = none) :
    spXi K f [.ref a, v] (upd H1 a (exo a C none)) (fun v H2 => v = .non ∧ ∃ (d : Addr) (fs : List (Str × V)), H2 a = some (exo a C (some d)) ∧ H2 d = some (exd d fs) ∧ H1 d = none ∧ Q (.ref C) (some d) (upd (del H2 a) d (.xd fs))) (fun _ _ _ => False) := by
  refine ⟨a, C, v, rfl, T, no, upd_same, fun dx n ne => ⟨rfl, dx, [(f, v)], upd_same, by rw [upd_ne ne, upd_same], by rw [upd_ne ne] at n; exact n, ?_⟩⟩
  rw [upd_ne ne] at n
  refine h dx _ n (fun c o e => ?_) upd_same
  have c1 := ne_of_none e n
  have c2 := ne_of_none e na
  rw [upd_ne c1, del_ne c2, upd_ne c2, upd_ne c1, upd_ne c2]
  exact e
section
variable {X : Cx}
theorem pmk_x {x f : Str} {C : Addr} {k : Nat} {dvs : List V} {e : Expr} {es : List Expr} {ta : TA} {p pos : Pos} (Z : Xcl X.prog X.w X.K X.mg X.base x C k f dvs) (hr : Room (k + 1) X.A) (hg : Gl X x) (ha : PA X (e :: es) ta) (mono : ∀ σ H (Q Q' : List V → Hp → Prop), (∀ vs H, Q vs H → Q' vs H) → ta σ H Q → ta σ H Q')
    (hdb : (x == ("__debug__" : Str)) = false := by decide) (he : starEach (e :: es) X.env = (false, eval e X.env) :: starEach es X.env := by rfl) (hpl : (backTo pos (starEach es X.env)).any (·.1) = false := by rfl) :
    PMk X (.Call (.Name x p) (e :: es) [] pos) (tXmk C f dvs ta) := by
  obtain ⟨fI, fd, ds, ps, iC, tI, F, hb, hd⟩ := Z.ex
  have M := pmk_oex (p := p) (pos := pos) Z.T iC tI F hr hb hd pass0 hg Z.hm ha hdb he hpl
  intro pins s σ H Q I h
  refine M pins s σ H Q I (mono _ _ _ _ (fun vs H1 ⟨v, ev, q⟩ => ⟨?_, fun a na => ?_⟩) h)
  · have := congrArg List.length ev
    simp only [List.length_append, List.length_cons, List.length_nil] at this
    omega
  · rw [ev]
    exact xi_end Z.T Z.no q a na
theorem pmk_x0 {x f : Str} {C : Addr} {k : Nat} {dvs : List V} {p pos : Pos} (Z : Xcl X.prog X.w X.K X.mg X.base x C k f dvs) (hr : Room (k + 1) X.A) (hg : Gl X x) (hdb : (x == ("__debug__" : Str)) = false := by decide) :
    PMk X (.Call (.Name x p) [] [] pos) (tXmk C f dvs tNil) := by
  obtain ⟨fI, fd, ds, ps, iC, tI, F, hb, hd⟩ := Z.ex
  have M := pmk_oex0 (p := p) (pos := pos) Z.T iC tI F hr hb hd pass0 hg Z.hm hdb
  intro pins s σ H Q I h
  obtain ⟨v, ev, q⟩ := h
  refine M pins s σ H Q I ⟨Nat.zero_le _, fun a na => ?_⟩
  rw [ev]
  exact xi_end Z.T Z.no q a na
/-- such an __init__ -/
theorem ok_xinit {P : Program} {w : World} {K : PySem.W.Frag} {mg : Str → Option Value} {base : Heap} {fI D : Addr} {fd : FuncData} {k : Nat} {qual x f par m : Str} {pa : Arguments} {sc : Scope} {dfl : List V} {kws : List (Str × V)} {j : Nat} {p1 p2 p3 p4 p5 p6 p7 p8 p9 p10 : Pos}
    (F : FunD K "__init__" qual pa [.Expr (.Call (.Attribute (.Name x p1) "__init__" p2) [.Name "self" p3, .Constant (.str m) j p4] [] p5) p6, .Assign [.Attribute (.Name "self" p7) f p8] (.Name par p9) p10] sc dfl kws fI fd) (S : FnScope ["self", par] ["self", par] sc)
    (hm : mg x = some (.ref D)) (hga : PySem.W.specialIn K (.ref D) "__getattribute__" = some (some (.builtin "type.__getattribute__"))) (hrd : PySem.W.readsIn K D (.type "type") = true) (vV : PySem.W.findCls K (.ref D) (.type "type") "__init__" = some (.val (.builtin "ValueError.__init__")))
    (hgl : sc.names.lookup x = some .globalImplicit) (v0 : Vis sc "self") (v1 : Vis sc par)
    (hc : ∀ (L g : Addr) (cd : Value), ∃ pl : Sem Bool, eval (.Call (.Attribute (.Name x p1) "__init__" p2) [.Name "self" p3, .Constant (.str m) j p4] [] p5) (envOfC qual sc L g cd) = (do
      let ov ← eval (.Name x p1) (envOfC qual sc L g cd)
      standAt p2.atName
      let (f, first) ← holding [ov] (getMethod ov "__init__" pl)
      callWith p5 f first (backTo p5 (starEach [.Name "self" p3, .Constant (.str m) j p4] (envOfC qual sc L g cd))) (backToKw p5 (keywordEach [] (envOfC qual sc L g cd)))))
    (hs : ∀ (L g : Addr) (cd : Value), swapsWith (.Name par p9) (some (.Attribute (.Name "self" p7) f p8)) p10.line (envOfC qual sc L g cd) = pure false)
    (hdb : (x == ("__debug__" : Str)) = false) (hd1 : (par == ("__debug__" : Str)) = false) (hcd1 : (par == ("__classdict__" : Str)) = false) : FnOk P w K mg base CX0 (k + 1) fI fd ["self", par] (spXi K f) := by
  refine F.ok S (fun vs H Q E ⟨a, C, v, e, _⟩ => by rw [e]; rfl) (fun cdv A outer s H vs Q E hr h => ?_)
  obtain ⟨pl, hc⟩ := hc s.heap.objs.size fI cdv
  refine ⟨_, pss_cons (ps_expr (pe_wrinit (D := D) (pl := pl) hgl hm hga hrd vV (pa_cons (pe_var (i := 0) rfl v0 (by decide) (by decide)) (pa_cons pe_str pa_nil)) hdb hc)) (pss_one (ps_ost (pe_var (i := 0) rfl v0 (by decide) (by decide)) (pe_var (i := 1) rfl v1 hd1 hcd1) (hs _ _ _))), ?_⟩
  obtain ⟨a, C, v, rfl, T, no, ha, q⟩ := h
  exact ⟨.ref a, rfl, a, C, [.str m], rfl, (by simp), T, ha, v, rfl, .ref a, rfl, a, C, rfl, T, no, .inl ⟨ha, q⟩⟩
end
end Bw

namespace Bw
open PySem PySem.Spec PyProof.Rows L2
/-! ### defs that may raise, as their callers want them -/
structure FnX (P : Program) (w : World) (K : PySem.W.Frag) (mg : Str → Option Value) (base : Heap) (x : Str) (k : Nat) (ps : List Str) (sp : Sp) : Prop where
  ex : ∃ (f : Addr) (fd : FuncData), FnOk P w K mg base (L2.CX P w) k f fd ps sp ∧ mg x = some (.ref f) ∧ PySem.W.keepIn K (.ref f) = true ∧ Binds K fd ps []
structure MeX (P : Program) (w : World) (K : PySem.W.Frag) (mg : Str → Option Value) (base : Heap) (C : Addr) (m : Str) (k : Nat) (ps : List Str) (sp : Sp) : Prop where
  ex : ∃ (f : Addr) (fd : FuncData), FnOk P w K mg base (L2.CX P w) k f fd ps sp ∧ Meth K C m f ∧ Binds K fd ps []
structure MkrX (P : Program) (w : World) (K : PySem.W.Frag) (mg : Str → Option Value) (base : Heap) (x : Str) (C : Addr) (k : Nat) (ps : List Str) (dvs : List V) (sp : Sp) : Prop where
  ex : ∃ (f : Addr) (fd : FuncData) (ds : List Value), Mk K C f ∧ FnOk P w K mg base (L2.CX P w) k f fd ps sp ∧ mg x = some (.ref C) ∧ Binds K fd ps ds ∧ Vals dvs ds
section
variable {X : Cx}
/-- what a callee lets out is let out -/
abbrev Lets (X : Cx) (E : XK) : Prop := Passes (L2.CX X.prog X.w) X E
theorem pe_fx {E : XK} {x : Str} {k : Nat} {ps : List Str} {sp : Sp} {e : Expr} {es : List Expr} {t : TA} {p pos : Pos} (F : FnX X.prog X.w X.K X.mg X.base x k ps sp) (hx : Lets X E) (hr : Room k X.A) (hg : Gl X x) (ha : PA X (e :: es) t)
    (hdb : (x == ("__debug__" : Str)) = false := by decide) (he : starEach (e :: es) X.env = (false, eval e X.env) :: starEach es X.env := by rfl) (hpl : (backTo pos (starEach es X.env)).any (·.1) = false := by rfl) :
    PE X (.Call (.Name x p) (e :: es) [] pos) (tCall sp [] E t) := by
  obtain ⟨f, fd, G, hm, hk, hb⟩ := F.ex
  exact pe_call G hr hg hm hk hb .nil hx ha hdb he hpl
theorem pe_mex {E : XK} {pl : Sem Bool} {C : Addr} {m : Str} {k : Nat} {ps : List Str} {sp : Sp} {o e : Expr} {es : List Expr} {t : TA} {ta : TE} {apos pos : Pos} (he : PE X o ta) (c : Cls X.K C) (M : MeX X.prog X.w X.K X.mg X.base C m k ps sp) (hx : Lets X E) (hr : Room k X.A) (ha : PA X (e :: es) t)
    (hst : starEach (e :: es) X.env = (false, eval e X.env) :: starEach es X.env := by rfl) (hpl : (backTo pos (starEach es X.env)).any (·.1) = false := by rfl)
    (ht : eval (.Call (.Attribute o m apos) (e :: es) [] pos) X.env = (do
      let ov ← eval o X.env
      standAt apos.atName
      let (f, first) ← holding [ov] (getMethod ov m pl)
      callWith pos f first (backTo pos (starEach (e :: es) X.env)) (backToKw pos (keywordEach [] X.env))) := by rfl) :
    PE X (.Call (.Attribute o m apos) (e :: es) [] pos) (tMeth C m sp [] E ta t) := by
  obtain ⟨f, fd, G, hm, hb⟩ := M.ex
  exact pe_meth he c hm G hr hb .nil hx ha hst hpl ht
theorem pe_mex0 {E : XK} {pl : Sem Bool} {C : Addr} {m : Str} {k : Nat} {ps : List Str} {sp : Sp} {o : Expr} {ta : TE} {apos pos : Pos} (he : PE X o ta) (c : Cls X.K C) (M : MeX X.prog X.w X.K X.mg X.base C m k ps sp) (hx : Lets X E) (hr : Room k X.A)
    (ht : eval (.Call (.Attribute o m apos) [] [] pos) X.env = (do
      let ov ← eval o X.env
      standAt apos.atName
      let (f, first) ← holding [ov] (getMethod ov m pl)
      callWith pos f first (backTo pos (starEach [] X.env)) (backToKw pos (keywordEach [] X.env))) := by rfl) :
    PE X (.Call (.Attribute o m apos) [] [] pos) (tMeth C m sp [] E ta tNil) := by
  obtain ⟨f, fd, G, hm, hb⟩ := M.ex
  exact pe_meth0 he c hm G hr hb .nil hx ht
theorem pe_mkx {E : XK} {x : Str} {C : Addr} {k : Nat} {ps : List Str} {dvs : List V} {sp : Sp} {e : Expr} {es : List Expr} {t : TA} {p pos : Pos} (M : MkrX X.prog X.w X.K X.mg X.base x C k ps dvs sp) (hx : Lets X E) (hr : Room (k + 1) X.A) (hg : Gl X x) (ha : PA X (e :: es) t)
    (hdb : (x == ("__debug__" : Str)) = false := by decide) (he : starEach (e :: es) X.env = (false, eval e X.env) :: starEach es X.env := by rfl) (hpl : (backTo pos (starEach es X.env)).any (·.1) = false := by rfl) :
    PE X (.Call (.Name x p) (e :: es) [] pos) (tMake C sp dvs E t) := by
  obtain ⟨f, fd, ds, M, G, hm, hb, hd⟩ := M.ex
  exact pe_make M G hr hg hm hb hd hx ha hdb he hpl
theorem pe_gcls {x : Str} {C : Addr} {p : Pos} (h : X.mg x = some (.ref C)) (hg : Gl X x) (hd : (x == ("__debug__" : Str)) = false := by decide) : PE X (.Name x p) (tC (.ref C)) := pe_glob (v := .ref C) hg h rfl hd
/-- X(), X an own exception class without own __init__ that stands above ValueError -/
structure XpV (K : PySem.W.Frag) (C : Addr) : Prop where
  q : PySem.W.excIn K C PySem.HandSPX.veTail "ValueError.__new__" = true
  kp : PySem.W.keepIn K (.ref C) = true
  h1 : PySem.W.subIn K (.ref C) (.type "BaseException") = some true
  h2 : PySem.W.typeIn K (.ref C) = some (.type "type")
theorem pmk_ownV {C : Addr} {x : Str} {p pos : Pos} (h : XpV X.K C) (gC : X.mg x = some (.ref C)) (hg : Gl X x) (hdb : (x == ("__debug__" : Str)) = false := by decide) : PMk X (.Call (.Name x p) [] [] pos) (fun _ H Q => Q (.ref C) none H) :=
  pmk_own0 F.excBase_ValueError h.q gC h.kp (raises_own h.h1 h.h2) hg hdb
theorem huH {k : Nat} {A : Around} (r : L2H.RoomH k A) : A.units + 65 < cLine := by have := r.un; omega
theorem lets0 : Lets X E0 := passL
theorem lets_of {E : XK} (tk : Takes X (fun cls d _ H => E cls d H)) : Lets X E := passes_call tk fun _ _ _ _ h => h
end
/-- a def's own wish -/
theorem takesX {P : Program} {w : World} {K : PySem.W.Frag} {mg : Str → Option Value} {base : Heap} {N : List Str} {qual : Str} {scope : Scope} {f : Addr} {cdv : Value} {A : Around} {outer : List Env} {s : Shared} {H : Hp} {E : XK} :
    Takes (cxOf (L2.CX P w) P w K mg base N qual scope f cdv A outer s H E) (fun cls d _ H => E cls d H) := takes_of rfl rfl rfl rfl
theorem takesLam {X : Cx} {A : Around} {outer : List Env} {s : Shared} {H : Hp} {E : XK} {scope : Scope} {f c' : Addr} : Takes (LamX.lamCx X A outer s H E scope f c') (fun cls d _ H => E cls d H) := takes_of rfl rfl rfl rfl
/-- what is never reached -/
theorem pss_no {X : Cx} {b : List Stmt} : PSs X b (fun _ _ _ => False) := ⟨fun _ _ _ _ _ _ h => h.elim⟩
/-! ### l.count(x) -/
section
variable {X : Cx}
def rCountD (K : PySem.W.Frag) : V → List V → Hp → VK → Prop := fun x xs H Q => ∃ (a : Addr) (y : V) (d : PyData) (ds : List PyData), x = V.ref a ∧ xs = [y] ∧ Dp K H (V.ref a) (.list ds) ∧ Dp K H y d ∧
  SeqAt.shaped (.list ds) = true ∧ SeqAt.shaped d = true ∧ Q (.int ((ds.countP fun z => PyData.eqv z d : Nat) : Int)) H
theorem mt_countD (hu : X.A.units + 65 < cLine) : MtR X "list.count" (rCountD X.K) := by
  intro pins s σ H x xs v us Q I rx rxs h
  obtain ⟨a, y, d, ds, rfl, rfl, hl, hy, sl, sd, q⟩ := h
  cases rx
  cases rxs with
  | cons ry rt =>
    rename_i uy ut
    cases rt
    obtain ⟨bs, r1⟩ := Dp.reads I d y uy hy ry
    have hroom : X.A.units + 1 + min (PyData.depthAll ds) d.depth < cLine := room_in_shaped sd hu
    have cl : PyData.canLayAll0 ds = true := SeqAt.canLay_of_shaped sl
    cases hl with
    | lst hs ha =>
      obtain ⟨its, rv, ⟨⟨cls, dd, data, sls⟩, n, ho, hc, hdn, hdt⟩, hlen⟩ := I.list hs
      simp only at hc hdt
      subst hc hdt
      obtain ⟨as, h4⟩ := Dp.readsAll I ds _ its ha rv
      have hmap : its.map (SeqAt.readOf s.heap) = ds := SeqAt.readsAll_map ds its as cl h4
      have ec : (ds.countP fun z => PyData.eqv z d) = its.toArray.toList.countP (fun u => PyData.eqv (SeqAt.readOf s.heap u) d) := by
        rw [← hmap, List.countP_map]
        rfl
      rw [ec] at q
      exact call_meets PySem.F.slot_list_count ⟨_, ho, rfl⟩ PySem.F.entry_list_count (PySem.F.args_list_count_2 _ _) (SeqAt.list_countAt a its.toArray n dd sls uy (fun u => PyData.eqv (SeqAt.readOf s.heap u) d))
        ⟨ho, SeqAt.items_eqAt (vs := its.toArray) (show ReadsAll s.heap its.toArray.toList ds as from h4) r1 cl (SeqAt.canLay_of_shaped sd) hroom, ⟨.int _, H, I.tok _, ⟨_, rfl⟩, q⟩⟩
end
/-! ### the caught exception within an except suite and the defs that are called there -/
/-- its dict, where it has one, is known -/
def XdOk (d : Option Addr) (H : Hp) : Prop := ∀ dd, d = some dd → ∃ fs, H dd = some (.xd fs)
section
variable {X : Cx}
theorem inst_pin {pins : List (Addr × Obj)} {σ : L2.St} {H : Hp} {s : Shared} {a D : Addr} {d : Option Addr} {oe : Obj} (I : Inv X pins σ H s) (hp : (a, oe) ∈ X.pn) (hz : Zc (.ref D) d oe) (hf : ∃ vs, oe.data = .fields vs) (hd : XdOk d H) : ∃ od, PySem.W.InstAt s.heap a oe D od := by
  obtain ⟨hget, _⟩ := I.pin (a, oe) (List.mem_append.mpr (.inl hp))
  obtain ⟨vs, hv⟩ := hf
  obtain ⟨z1, z2⟩ := hz
  have nc : PySem.W.notCls oe = true := by unfold PySem.W.notCls; rw [hv] <;> rfl
  cases d with
  | none => exact ⟨none, hget, z1, nc, by rw [z2]; trivial⟩
  | some dd =>
    obtain ⟨fs, e⟩ := hd dd rfl
    have hx : ObjOk X.prog X.w H s.heap dd (.xd fs) := I.hok dd _ e
    obtain ⟨mA, hns, hr⟩ := hx
    obtain ⟨od, ho, hl⟩ := lookIn_ns hns
    exact ⟨some od, hget, z1, nc, by rw [z2]; exact ho⟩
/-- isinstance(e, C) -/
def rIsP (K : PySem.W.Frag) (a : Addr) (cls : Value) (d : Option Addr) : List V → Hp → VK → Prop := fun xs H Q => ∃ (D : Addr) (c : V) (cv : Value) (b : Bool), cls = .ref D ∧ ExcC K D ∧ xs = [.ref a, c] ∧ ClsV c cv ∧ PySem.W.kitOne K (.ref D) cv = some b ∧ XdOk d H ∧ Q (.bl b) H
theorem kit_pin {a D : Addr} {oe : Obj} {od : Option Obj} (C : ExcC X.K D) : PySem.W.KitX X.K (.ref a) (.ref D) (fun h => PySem.W.InstAt h a oe D od) :=
  PySem.W.kitx_exc (by obtain ⟨cd, hc, _⟩ := PySem.W.any_some C.hd; rw [hc]; rfl) C.hg C.hk C.hs C.ha C.hn C.ht C.hm
theorem call_isP {a : Addr} {cls : Value} {d : Option Addr} {oe : Obj} (hp : (a, oe) ∈ X.pn) (hz : Zc cls d oe) (hf : ∃ vs, oe.data = .fields vs) : CallR X (.builtin "isinstance") (rIsP X.K a cls d) := by
  intro pins s σ H xs us Q I r h
  obtain ⟨D, c, cv, b, rfl, C, rfl, hcv, e, hx, q⟩ := h
  obtain ⟨od, J⟩ := inst_pin I hp hz hf hx
  obtain ⟨u1, u2, rfl, r1, r2⟩ := vals2 r
  cases (show u1 = Value.ref a from r1)
  have ec := hcv.eq r2
  subst ec
  exact PySem.W.kia_one (kit_pin C) I.kIn J e (fun z => nomatch z) fun tk => ⟨.bl b, H, I.tok tk, rfl, q⟩
/-- isinstance(e, (C1, C2, ..)) -/
def rIsPT (K : PySem.W.Frag) (a : Addr) (cls : Value) (d : Option Addr) : List V → Hp → VK → Prop := fun xs H Q => ∃ (D tp : Addr) (cs : List V) (us : List Value) (b : Bool), cls = .ref D ∧ ExcC K D ∧ xs = [.ref a, .ref tp] ∧ H tp = some (.tup cs) ∧ Paired ClsV cs us ∧ PySem.W.kitAny K (.ref D) us = some b ∧ XdOk d H ∧ Q (.bl b) H
theorem call_isPT {a : Addr} {cls : Value} {d : Option Addr} {oe : Obj} (hp : (a, oe) ∈ X.pn) (hz : Zc cls d oe) (hf : ∃ vs, oe.data = .fields vs) : CallR X (.builtin "isinstance") (rIsPT X.K a cls d) := by
  intro pins s σ H xs us Q I r h
  obtain ⟨D, tp, cs, ws, b, rfl, C, rfl, hT, k, e, hx, q⟩ := h
  obtain ⟨od, J⟩ := inst_pin I hp hz hf hx
  obtain ⟨u1, u2, rfl, r1, r2⟩ := vals2 r
  cases (show u1 = Value.ref a from r1)
  cases (show u2 = Value.ref tp from r2)
  obtain ⟨_, its, rv, o, h1, h2, n, h3⟩ := (show ObjOk X.prog X.w H s.heap tp (.tup cs) from I.hok tp _ hT)
  have e3 := ClsV.all k rv
  subst e3
  obtain ⟨oc, od', dt, sl⟩ := o
  simp only at h2 h3
  subst h2 h3
  exact PySem.W.kia_tup (kit_pin C) I.kIn J h1 e (fun z => nomatch z) fun tk => ⟨.bl b, H, I.tok tk, rfl, q⟩
/-- e.f -/
def tXfc (K : PySem.W.Frag) (a : Addr) (cls : Value) (d : Option Addr) (f : Str) (te : TE) : TE := fun σ H Q => te σ H fun x H1 => ∃ (D dd : Addr) (fs : List (Str × V)) (v : V), x = .ref a ∧ cls = .ref D ∧ ExcC K D ∧ PySem.W.findIn K (.ref D) f = some none ∧ d = some dd ∧ H1 dd = some (.xd fs) ∧ fs.lookup f = some v ∧ Q v H1
theorem pe_xfc {a : Addr} {oe : Obj} {cls : Value} {d : Option Addr} {e : Expr} {te : TE} {pos : Pos} {n : Str} (hp : (a, oe) ∈ X.pn) (hz : Zc cls d oe) (hf : ∃ vs, oe.data = .fields vs) (he : PE X e te) (hb : attributeBase e n X.env (eval e X.env) = eval e X.env := by rfl) :
    PE X (.Attribute e n pos) (tXfc X.K a cls d n te) := by
  refine ⟨fun pins s σ H Q I h => ?_⟩
  refine attr_of hb (thn (he.run pins s σ H _ I h) fun u s1 hh => ?_)
  obtain ⟨x, H1, I1, rx, D, dd, fs, v, ex, ec, C, no, ed, ea, l, q⟩ := hh
  subst ex ec ed
  cases (show u = Value.ref a from rx)
  obtain ⟨ha, _⟩ := I1.pin (a, oe) (List.mem_append_left _ hp)
  obtain ⟨vs, hd⟩ := hf
  obtain ⟨mA, hns, hr⟩ := (show ObjOk X.prog X.w H1 s1.heap dd (.xd fs) from I1.hok dd _ ea)
  obtain ⟨od, ho, hl⟩ := lookIn_ns hns
  obtain ⟨u, hu, ru⟩ := RelO.some_of (v := v) (o := mA n) (by rw [← l]; exact hr n)
  have J : PySem.W.InstAt s1.heap a oe D (some od) := ⟨ha, hz.1, by unfold PySem.W.notCls; rw [hd] <;> rfl, by rw [hz.2]; exact ho⟩
  exact HandSPX.exc_get I1.kIn J C.hg C.hk C.hs (PySem.W.findObj_own C.hd no rfl (by rw [hl, hu])) (handed_of ru) ⟨v, H1, I1.tok _, ru, q⟩
end
/-! ### a def that is called with the caught exception -/
abbrev SpP := Addr × Obj → List V → Hp → VK → Prop
structure FnP0 (P : Program) (w : World) (K : PySem.W.Frag) (mg : Str → Option Value) (base : Heap) (k : Nat) (f : Addr) (fd : FuncData) (ps : List Str) (sp : SpP) : Prop where
  len : ∀ p vs H Q, sp p vs H Q → vs.length = ps.length
  run : ∀ (A : Around) (outer : List Env) (s : Shared) (H : Hp) (args : Args) (us : List Value) (vs : List V) (Q : VK) (p : Addr × Obj), L2H.RoomH k A → L2H.PinOk outer H s p → Env0 P w K mg base A outer s H → BindsTo s fd args (ps.zip us) → Vals vs us → sp p vs H Q →
    codeAny (model P w) A (.call (.ref f) args) (CR CX0 outer P w H s Q E0) s
theorem Fun.okP {P : Program} {w : World} {K : PySem.W.Frag} {mg : Str → Option Value} {base : Heap} {x qual : Str} {st : Stmt} {f : Addr} {fd : FuncData} {N ps : List Str} {k : Nat} {sp : SpP} (F : Fun K x qual st f fd) (S : FnScope N ps (defScope st)) (len : ∀ p vs H Q, sp p vs H Q → vs.length = ps.length)
    (hbody : ∀ (cdv : Value) (A : Around) (outer : List Env) (s : Shared) (H : Hp) (vs : List V) (Q : VK) (p : Addr × Obj), L2H.RoomH k (A.deeper (envOfC qual (defScope st) s.heap.objs.size f cdv)) → sp p vs H Q →
      ∃ t, PSs (L2H.cxH CX0 P w K mg base N qual (defScope st) f cdv A outer s H E0 p).nox (defBody st) t ∧ t { nx := fun _ H' => Q .non H', rt := Q } (L2.start N vs) H) : FnP0 P w K mg base (k + 1) f fd ps sp := by
  obtain ⟨oc, od, kV, doc, pm, an, cdv, ct, osl, rfl, lk, hcd⟩ := F.ex
  refine ⟨len, fun A outer s H args us vs Q p hr hpin e0 hb r hsp => ?_⟩
  have hl := len _ _ _ _ hsp
  have KX : K.In s.heap := e0.mod.kin.keeps fun b o e => (e0.bs b o e).1
  refine codeAny_call_function hr.depth (KX _ _ lk) rfl S.co S.gen rfl (PySem.W.codeRec_of KX hcd) (hb _ _ _ _ ?_)
  have hkind : ∀ y ∈ ps.zip us, (defScope st).names.lookup y.1 = some .local ∨ ((defScope st).names.lookup y.1 = some .cell ∧ ((cellsFrom (s.heap.objs.size + 1) (defScope st).names []).lookup y.1).isSome = true) := by
    intro y hy
    obtain ⟨n, v⟩ := y
    exact (S.par n (List.of_mem_zip hy).1).imp id fun q => ⟨q, PySem.W.cellsFrom_some _ _ _ (.inl q)⟩
  refine wpAny_newFunctionEnv_cells S.kind hkind fun env he s1 x => ?_
  subst he
  refine ⟨(e0.mod.nolimit.keeps fun b o e => (e0.bs b o e).1).keeps x.toInCall.keep, codeAny_func ?_⟩
  obtain ⟨t, ht, hq⟩ := hbody cdv A outer s H vs Q p (hr.deeper _) hsp
  refine wpAny_mono (ht.nox.run [] s1 (L2.start N vs) H _ (L2H.inv_startH S hpin e0 hl r x) hq) (fun fl s' hs => ?_) fun e s' hs => hs
  have fin : ∀ {σ' : L2.St} {H' : Hp} {v : V} {u : Value}, Inv (L2H.cxH CX0 P w K mg base N qual (defScope st) f cdv A outer s H E0 p) [] σ' H' s' → RelV v u → Q v H' → CE outer P w H s Q u s' :=
    fun {σ' H' v u} J rv q => ⟨v, H', J.os, J.bare, J.base, J.hok, rv, q⟩
  match fl, hs with
  | .ret u, ⟨v, σ', H', J, rv, q⟩ => exact fin J rv q
  | .next, ⟨σ', H', J, q⟩ => exact fin (v := V.non) (u := Value.none) J rfl q
  | .brk, ⟨_, _, _, q⟩ => exact q.elim
  | .cont, ⟨_, _, _, q⟩ => exact q.elim
structure FnP (P : Program) (w : World) (K : PySem.W.Frag) (mg : Str → Option Value) (base : Heap) (x : Str) (k : Nat) (ps : List Str) (sp : SpP) : Prop where
  ex : ∃ (f : Addr) (fd : FuncData), FnP0 P w K mg base k f fd ps sp ∧ mg x = some (.ref f) ∧ PySem.W.keepIn K (.ref f) = true ∧ Binds K fd ps []
def tCallP (sp : SpP) (a : Addr) (cls : Value) (d : Option Addr) (t : TA) : TE := fun σ H Q => t σ H fun vs H1 => ∀ oe : Obj, Zc cls d oe → (∃ vs, oe.data = .fields vs) → sp (a, oe) vs H1 Q
theorem pe_fp {X : Cx} {x : Str} {k : Nat} {ps : List Str} {sp : SpP} {e : Expr} {es : List Expr} {t : TA} {q pos : Pos} {a : Addr} {oe : Obj} {cls : Value} {d : Option Addr} (F : FnP X.prog X.w X.K X.mg X.base x k ps sp) (hp : (a, oe) ∈ X.pn) (hz : Zc cls d oe) (hf : ∃ vs, oe.data = .fields vs) (hr : L2H.RoomH k X.A) (hg : Gl X x) (ha : PA X (e :: es) t)
    (hdb : (x == ("__debug__" : Str)) = false := by decide) (he : starEach (e :: es) X.env = (false, eval e X.env) :: starEach es X.env := by rfl) (hpl : (backTo pos (starEach es X.env)).any (·.1) = false := by rfl) :
    PE X (.Call (.Name x q) (e :: es) [] pos) (tCallP sp a cls d t) := by
  obtain ⟨f, fd, G, hm, hk, hb⟩ := F.ex
  refine ⟨fun pins s σ H Q I h => ?_⟩
  refine wpAny_Call_Name_kw (ld_glob I hg hm ?_ hdb)
  refine PySem.W.callWith_K (h₀ := X.base) I.ok.mod.kin hk (thn (ha.run pos pins s σ H _ I h) fun us s1 ⟨vs, H1, I1, r, q⟩ => ⟨I1.kIn, ?_⟩) he hpl
  have q := q oe hz hf
  have hl : us.length = ps.length := by rw [← r.length]; exact G.len _ _ _ _ q
  have b := hb s1 us I1.kIn (by rw [List.append_nil]; exact hl)
  rw [List.append_nil] at b
  have P1 := I1.pin (a, oe) (List.mem_append_left _ hp)
  have hpin : L2H.PinOk X.stack H1 s1 (a, oe) := ⟨P1.1, P1.2.1, fun hm => (List.mem_cons.mp (I1.stkSub a hm)).elim P1.2.2.1 P1.2.2.2.1, P1.2.2.2.2⟩
  show wpAny _ _ (call (.ref f) us) _ _ _
  refine wpAny_call (codeAny_mono (G.run X.A X.stack s1 H1 ⟨us, []⟩ us vs Q (a, oe) hr hpin I1.env0 b r q) fun r s' hq => ?_)
  match r, hq with
  | .error e, hq => exact False.elim hq
  | .ok (.ret u), hq => exact I1.after hq
  | .ok .next, hq => exact False.elim hq
  | .ok .brk, hq => exact False.elim hq
  | .ok .cont, hq => exact False.elim hq
theorem roomH_mark {k : Nat} {A : Around} {v : Option Value} (r : L2.Room k A) : L2H.RoomH k (A.mark v) := ⟨r.dp, r.un⟩
end Bw

namespace Bw
open PySem PySem.Spec PyProof.Rows L2
/-! ### the classes of the errors; what is told of one -/
structure Zs where
  (Wrong NoWord NoText NoNumber NoSize NoLengths NoQuery NoCode NoRow NoEntries NoQueryText NoPages NoName NoQueries NoShelf NoDeed Taken NoPlace NoSlot : Addr)
def Zs.sixteen (Z : Zs) : List Addr := [Z.NoCode, Z.NoDeed, Z.NoEntries, Z.NoLengths, Z.NoName, Z.NoNumber, Z.NoPages, Z.NoQueries, Z.NoQuery, Z.NoQueryText, Z.NoRow, Z.NoShelf, Z.NoSize, Z.NoText, Z.NoWord, Z.Taken]
def kindNames : List Str := ["code", "deed", "entries", "lengths", "name", "number", "pages", "queries", "query", "text of query", "row", "shelf", "size", "text", "word", "taken"]
def Zs.five (Z : Zs) : List Value := [.ref Z.NoCode, .ref Z.NoEntries, .ref Z.NoPages, .ref Z.NoQueryText, .ref Z.NoRow]
def excB (K : PySem.W.Frag) (D : Addr) : Bool :=
  decide (PySem.W.findIn K (.ref D) "__getattribute__" = some (some (.builtin "BaseException.__getattribute__"))) && (decide (PySem.W.findIn K (.ref D) "__getattr__" = some none) && (decide (PySem.W.subIn K (.ref D) (.type "BaseException") = some true) && (PySem.W.hasDictIn K D && (
  decide (PySem.W.findIn K (.ref D) "__class__" = some (some (.builtin "object.__class__"))) && (decide (PySem.W.specialIn K (.builtin "object.__class__") "__get__" = some (some (.builtin "getset_descriptor.__get__"))) && (decide (PySem.W.takesIn K (.builtin "object.__class__") = some true) && decide (PySem.W.mroIn K D (.type "object") = some true)))))))
theorem excB_ok {K : PySem.W.Frag} {D : Addr} (h : excB K D = true) : ExcC K D := by
  unfold excB at h
  simp only [Bool.and_eq_true, decide_eq_true_eq] at h
  obtain ⟨h1, h2, h3, h4, h5, h6, h7, h8⟩ := h
  exact ⟨h1, h2, h3, h4, h5, h6, h7, h8⟩
/-- one of the sixteen, and which -/
def kindB (K : PySem.W.Frag) (Z : Zs) (D : Addr) (i : Nat) : Bool :=
  excB K D && ((Z.sixteen.zipIdx.all fun x => decide (PySem.W.kitOne K (.ref D) (.ref x.1) = some (decide (x.2 = i)))) && (decide (PySem.W.kitOne K (.ref D) (.type "ValueError") = some true) && decide (PySem.W.kitAny K (.ref D) [.ref Z.NoPlace, .ref Z.NoSlot] = some false)))
structure KindOk (K : PySem.W.Frag) (Z : Zs) (D : Addr) (i : Nat) : Prop where
  ex : ExcC K D
  is : ∀ (j : Nat) (C : Addr), Z.sixteen[j]? = some C → PySem.W.kitOne K (.ref D) (.ref C) = some (decide (j = i))
  ve : PySem.W.kitOne K (.ref D) (.type "ValueError") = some true
  ix : PySem.W.kitAny K (.ref D) [.ref Z.NoPlace, .ref Z.NoSlot] = some false
theorem kindB_ok {K : PySem.W.Frag} {Z : Zs} {D : Addr} {i : Nat} (h : kindB K Z D i = true) : KindOk K Z D i := by
  unfold kindB at h
  simp only [Bool.and_eq_true, decide_eq_true_eq, List.all_eq_true] at h
  obtain ⟨h1, h2, h3, h4⟩ := h
  refine ⟨excB_ok h1, fun j C e => ?_, h3, h4⟩
  exact h2 (C, j) (by
    rw [List.mem_iff_getElem?]
    exact ⟨j, by simp [List.getElem?_zipIdx, e]⟩)
/-- by the first clause: with its place -/
def howAtB (K : PySem.W.Frag) (Z : Zs) (D : Addr) (i : Nat) : Bool := kindB K Z D i && (decide (PySem.W.findIn K (.ref D) "at" = some none) && decide (PySem.W.exmAny K (.ref D) Z.five = some true))
structure HowAt (K : PySem.W.Frag) (Z : Zs) (D : Addr) (i : Nat) : Prop where
  k : KindOk K Z D i
  no : PySem.W.findIn K (.ref D) "at" = some none
  c1 : PySem.W.exmAny K (.ref D) Z.five = some true
theorem howAtB_ok {K : PySem.W.Frag} {Z : Zs} {D : Addr} {i : Nat} (h : howAtB K Z D i = true) : HowAt K Z D i := by
  unfold howAtB at h
  simp only [Bool.and_eq_true, decide_eq_true_eq] at h
  exact ⟨kindB_ok h.1, h.2.1, h.2.2⟩
/-- by the second clause -/
def howPlB (K : PySem.W.Frag) (Z : Zs) (D : Addr) (i : Nat) : Bool := kindB K Z D i && (decide (PySem.W.exmAny K (.ref D) Z.five = some false) && decide (PySem.W.exmAny K (.ref D) [.ref Z.Wrong] = some true))
structure HowPl (K : PySem.W.Frag) (Z : Zs) (D : Addr) (i : Nat) : Prop where
  k : KindOk K Z D i
  c1 : PySem.W.exmAny K (.ref D) Z.five = some false
  c2 : PySem.W.exmAny K (.ref D) [.ref Z.Wrong] = some true
theorem howPlB_ok {K : PySem.W.Frag} {Z : Zs} {D : Addr} {i : Nat} (h : howPlB K Z D i = true) : HowPl K Z D i := by
  unfold howPlB at h
  simp only [Bool.and_eq_true, decide_eq_true_eq] at h
  exact ⟨kindB_ok h.1, h.2.1, h.2.2⟩
/-- by the third clause: no place (b), no slot (not b) -/
def howIxB (K : PySem.W.Frag) (Z : Zs) (D : Addr) (b : Bool) : Bool := excB K D && (decide (PySem.W.exmAny K (.ref D) Z.five = some false) && (decide (PySem.W.exmAny K (.ref D) [.ref Z.Wrong] = some false) && (decide (PySem.W.exmAny K (.ref D) [.ref Z.NoPlace, .ref Z.NoSlot] = some true) &&
  (decide (PySem.W.kitOne K (.ref D) (.type "IndexError") = some true) && (decide (PySem.W.kitOne K (.ref D) (.ref Z.NoPlace) = some b) && decide (PySem.W.kitOne K (.ref D) (.ref Z.NoSlot) = some (!b)))))))
structure HowIx (K : PySem.W.Frag) (Z : Zs) (D : Addr) (b : Bool) : Prop where
  ex : ExcC K D
  c1 : PySem.W.exmAny K (.ref D) Z.five = some false
  c2 : PySem.W.exmAny K (.ref D) [.ref Z.Wrong] = some false
  c3 : PySem.W.exmAny K (.ref D) [.ref Z.NoPlace, .ref Z.NoSlot] = some true
  ie : PySem.W.kitOne K (.ref D) (.type "IndexError") = some true
  np : PySem.W.kitOne K (.ref D) (.ref Z.NoPlace) = some b
  ns : PySem.W.kitOne K (.ref D) (.ref Z.NoSlot) = some (!b)
theorem howIxB_ok {K : PySem.W.Frag} {Z : Zs} {D : Addr} {b : Bool} (h : howIxB K Z D b = true) : HowIx K Z D b := by
  unfold howIxB at h
  simp only [Bool.and_eq_true, decide_eq_true_eq] at h
  obtain ⟨h1, h2, h3, h4, h5, h6, h7⟩ := h
  exact ⟨excB_ok h1, h2, h3, h4, h5, h6, h7⟩
/-! ### what the teller of the kind promises -/
def spKind (K : PySem.W.Frag) (Z : Zs) : SpP := fun p vs H Q => ∃ (D : Addr) (d : Option Addr) (i : Nat) (nm : Str), vs = [.ref p.1] ∧ Zc (.ref D) d p.2 ∧ (∃ vs, p.2.data = .fields vs) ∧ KindOk K Z D i ∧ XdOk d H ∧ kindNames[i]? = some nm ∧ ∀ H', Same H H' → Q (.str nm) H'
/-- what the asker makes of a raised one -/
def howE (K : PySem.W.Frag) (Z : Zs) (Q : VK) : XK := fun cls d H => ∃ D : Addr, cls = .ref D ∧
  ((∃ (i : Nat) (nm : Str), HowPl K Z D i ∧ kindNames[i]? = some nm ∧ XdOk d H ∧ ∀ H', Same H H' → Q (.str nm) H') ∨
   (∃ (i : Nat) (nm : Str) (dd : Addr) (v : V) (tv : String), HowAt K Z D i ∧ kindNames[i]? = some nm ∧ d = some dd ∧ H dd = some (.xd [("at", v)]) ∧ TyX K H v (.type tv) ∧ kitB tv "bool" = some false ∧ ∀ p H', H p = none → Same H H' → H' p = some (.tup [.str nm, v]) → Q (.ref p) H') ∨
   (∃ b : Bool, HowIx K Z D b ∧ XdOk d H ∧ ∀ H', Same H H' → Q (.str (if b then "no place" else "no slot")) H'))
def TTHow (K : PySem.W.Frag) (Z : Zs) : (XK → Hp → VK → Prop) → Hp → VK → Prop := fun tl H Q => tl (howE K Z Q) H (fun _ H' => Q (.str "told") H')
theorem cnt16 {i : Nat} (h : i < 16) : ((([decide (0 = i), decide (1 = i), decide (2 = i), decide (3 = i), decide (4 = i), decide (5 = i), decide (6 = i), decide (7 = i), decide (8 = i), decide (9 = i), decide (10 = i), decide (11 = i), decide (12 = i), decide (13 = i), decide (14 = i), decide (15 = i)] : List Bool).count true : Nat) : Int) = 1 := by
  have : ∀ i, i < 16 → ((([decide (0 = i), decide (1 = i), decide (2 = i), decide (3 = i), decide (4 = i), decide (5 = i), decide (6 = i), decide (7 = i), decide (8 = i), decide (9 = i), decide (10 = i), decide (11 = i), decide (12 = i), decide (13 = i), decide (14 = i), decide (15 = i)] : List Bool).count true : Nat) : Int) = 1 := by decide
  exact this i h
theorem idx16 {i : Nat} (h : i < 16) : ([decide (0 = i), decide (1 = i), decide (2 = i), decide (3 = i), decide (4 = i), decide (5 = i), decide (6 = i), decide (7 = i), decide (8 = i), decide (9 = i), decide (10 = i), decide (11 = i), decide (12 = i), decide (13 = i), decide (14 = i), decide (15 = i)] : List Bool)[i]? = some true := by
  have : ∀ i, i < 16 → ([decide (0 = i), decide (1 = i), decide (2 = i), decide (3 = i), decide (4 = i), decide (5 = i), decide (6 = i), decide (7 = i), decide (8 = i), decide (9 = i), decide (10 = i), decide (11 = i), decide (12 = i), decide (13 = i), decide (14 = i), decide (15 = i)] : List Bool)[i]? = some true := by decide
  exact this i h
theorem bef16 {i : Nat} (h : i < 16) (m : Nat) (hm : m < i) : ([decide (0 = i), decide (1 = i), decide (2 = i), decide (3 = i), decide (4 = i), decide (5 = i), decide (6 = i), decide (7 = i), decide (8 = i), decide (9 = i), decide (10 = i), decide (11 = i), decide (12 = i), decide (13 = i), decide (14 = i), decide (15 = i)] : List Bool)[m]? ≠ some true := by
  have : ∀ i, i < 16 → ∀ m, m < i → ([decide (0 = i), decide (1 = i), decide (2 = i), decide (3 = i), decide (4 = i), decide (5 = i), decide (6 = i), decide (7 = i), decide (8 = i), decide (9 = i), decide (10 = i), decide (11 = i), decide (12 = i), decide (13 = i), decide (14 = i), decide (15 = i)] : List Bool)[m]? ≠ some true := by decide
  exact this i h m hm
theorem nam16 {i : Nat} {nm : Str} (h : kindNames[i]? = some nm) : atI (kindNames.map V.str) (i : Int) = some (.str nm) := atI_nat (by rw [List.getElem?_map, h]; rfl)
theorem takes_len {X : Cx} {W : WX} (tk : Takes X W) : Takes X (fun cls d σ H => σ.length = X.N.length → W cls d σ H) := fun u s' x => by
  obtain ⟨a, B, sI, pins, σ, H, cls, d, e, I, nb, up, sky, na, os, ag, w⟩ := x
  exact tk u s' ⟨a, B, sI, pins, σ, H, cls, d, e, I, nb, up, sky, na, os, ag, w I.len⟩
theorem two_of {σ : L2.St} (h : σ.length = 2) : ∃ x y, σ = [x, y] := by
  match σ, h with
  | [x, y], _ => exact ⟨x, y, rfl⟩
/-- a suite, by any reading of it -/
def tAny (X : Cx) (b : List Stmt) (a : Addr) (cls : Value) (d : Option Addr) : TS := fun D σ H => ∀ (oe : Obj) (pn : List (Addr × Obj)), Zc cls d oe → (∃ vs, oe.data = .fields vs) → ∃ t : TS, PSs (X.suite a ((a, oe) :: pn)) b t ∧ t D σ H
theorem pss_any {X : Cx} {b : List Stmt} (a : Addr) (oe : Obj) (cls : Value) (d : Option Addr) (pn : List (Addr × Obj)) (hz : Zc cls d oe) (hf : ∃ vs, oe.data = .fields vs) : PSs (X.suite a ((a, oe) :: pn)) b (tAny X b a cls d) :=
  ⟨fun pins s σ H D I h => by
    obtain ⟨t, ht, hq⟩ := h oe pn hz hf
    exact ht.run pins s σ H D I hq⟩
theorem same_free {H H' : Hp} {p : Addr} (e : Same H H') (n : H' p = none) : H p = none := by
  cases h : H p with
  | none => rfl
  | some o => rw [e p o h] at n; cases n
theorem iteT' {A B : Prop} {b : Bool} (hb : b = true) (h : A) : if b = true then A else B := by rw [if_pos hb]; exact h
theorem iteF' {A B : Prop} {b : Bool} (hb : b = false) (h : B) : if b = true then A else B := by rw [if_neg (by rw [hb]; exact Bool.false_ne_true)]; exact h
/-! ### steps -/
section
variable {K : PySem.W.Frag} {H H' : Hp} {Q : VK} {σ : L2.St} {a : Addr} {cls : Value} {d : Option Addr}
theorem XdOk.same (h : XdOk d H) (e : Same H H') : XdOk d H' := fun dd q => by
  obtain ⟨fs, w⟩ := h dd q
  exact ⟨fs, e dd _ w⟩
theorem xdOk_at {dd : Addr} {fs : List (Str × V)} (h : H dd = some (.xd fs)) : XdOk (some dd) H := fun d' q => by
  cases q
  exact ⟨fs, h⟩
theorem xdOk_none : XdOk none H := fun d' q => by cases q
theorem w_isP {D C : Addr} {b : Bool} (hE : ExcC K D) (hk : PySem.W.kitOne K (.ref D) (.ref C) = some b) (hx : XdOk d H) (q : Q (.bl b) H) : rIsP K a (.ref D) d [.ref a, .ref C] H Q := ⟨D, .ref C, .ref C, b, rfl, hE, rfl, .own C, hk, hx, q⟩
theorem w_isPt {D : Addr} {n : String} {b : Bool} (hE : ExcC K D) (hk : PySem.W.kitOne K (.ref D) (.type n) = some b) (hx : XdOk d H) (q : Q (.bl b) H) : rIsP K a (.ref D) d [.ref a, .ty n] H Q := ⟨D, .ty n, .type n, b, rfl, hE, rfl, .ty n, hk, hx, q⟩
theorem w_isPT {D tp C1 C2 : Addr} {b : Bool} (hE : ExcC K D) (hT : H tp = some (.tup [.ref C1, .ref C2])) (hk : PySem.W.kitAny K (.ref D) [.ref C1, .ref C2] = some b) (hx : XdOk d H) (q : Q (.bl b) H) : rIsPT K a (.ref D) d [.ref a, .ref tp] H Q :=
  ⟨D, tp, _, _, b, rfl, hE, rfl, hT, .cons (.own C1) (.cons (.own C2) .nil), hk, hx, q⟩
theorem w_bmL {T : String} {r : V → List V → Hp → VK → Prop} {to : TE} {t : TA} (h : to σ H fun x H1 => tyV K T x H1 ∧ t σ H1 fun xs H2 => r x xs H2 Q) : tBM K T r to t σ H Q := h
theorem w_bm0 {T : String} {r : V → List V → Hp → VK → Prop} {to : TE} (h : to σ H fun x H1 => tyV K T x H1 ∧ r x [] H1 Q) : tBM0 K T r to σ H Q := h
theorem w_tyL {R : Prop} {xs : List V} (h : SqL K H a xs) (q : R) : tyV K "list" (.ref a) H ∧ R := ⟨.inl ⟨rfl, xs, h⟩, q⟩
theorem dpAll_bl : ∀ bs : List Bool, DpAll K H (bs.map V.bl) (bs.map PyData.bool)
  | [] => .nil
  | b :: r => .cons (.bl b) (dpAll_bl r)
theorem depth_bl : ∀ bs : List Bool, PyData.depthAll (bs.map PyData.bool) = 0
  | [] => rfl
  | b :: r => by simp [PyData.depthAll, PyData.depth, depth_bl r]
theorem lay_bl : ∀ bs : List Bool, PyData.canLayAll0 (bs.map PyData.bool) = true
  | [] => by simp [PyData.canLayAll0]
  | b :: r => by simp [PyData.canLayAll0, PyData.canLay0, lay_bl r]
theorem shaped_bl (bs : List Bool) : SeqAt.shaped (.list (bs.map PyData.bool)) = true := by
  simp [SeqAt.shaped, PyData.canLay0, lay_bl, PyData.depth, depth_bl]
theorem count_bl : ∀ bs : List Bool, (bs.map PyData.bool).countP (fun z => PyData.eqv z (.bool true)) = bs.count true
  | [] => rfl
  | b :: r => by
    rw [List.map_cons, List.countP_cons, List.count_cons, count_bl r]
    cases b <;> simp [PyData.eqv]
theorem w_countT {xs : List V} {n : Int} (bs : List Bool) (e : xs = bs.map V.bl) (h : SqL K H a xs) (hn : ((bs.count true : Nat) : Int) = n) (q : Q (.int n) H) : rCountD K (.ref a) [.bl true] H Q := by
  subst e
  refine ⟨a, .bl true, .bool true, bs.map PyData.bool, rfl, rfl, .lst h (dpAll_bl bs), .bl true, shaped_bl bs, by simp [SeqAt.shaped, PyData.canLay0, PyData.depth], ?_⟩
  rw [count_bl, hn]
  exact q
theorem w_indexT {xs : List V} {j : Nat} (bs : List Bool) (e : xs = bs.map V.bl) (h : SqL K H a xs) (hj : bs[j]? = some true) (hm : ∀ m, m < j → bs[m]? ≠ some true) (q : Q (.int j) H) : rIndexD K (.ref a) [.bl true] H Q := by
  subst e
  refine ⟨a, .bl true, .bool true, bs.map PyData.bool, j, .bool true, rfl, rfl, .lst h (dpAll_bl bs), .bl true, shaped_bl bs, by simp [SeqAt.shaped, PyData.canLay0, PyData.depth], by simp [hj], by simp [PyData.eqv], fun m z hlt hz => ?_, q⟩
  rw [List.getElem?_map] at hz
  cases eb : bs[m]? with
  | none => rw [eb] at hz; cases hz
  | some b =>
    rw [eb] at hz
    cases hz
    have := hm m hlt
    rw [eb] at this
    cases b <;> simp_all [PyData.eqv]
theorem w_cat {p1 p2 : Addr} {xs zs : List V} (h1 : H p1 = some (.lst xs)) (h2 : H p2 = some (.lst zs)) (hl : xs.length + zs.length ≤ sizeLine) (k : ∀ p H2, H p = none → Same H H2 → H2 p = some (.lst (xs ++ zs)) → Q (.ref p) H2) : rCat (.ref p1) (.ref p2) H Q :=
  ⟨p1, p2, xs, zs, rfl, rfl, h1, h2, hl, fun p n => k p _ n (same_new n) upd_same⟩
theorem w_callP {sp : SpP} {t : TA} (h : t σ H fun vs H1 => ∀ oe : Obj, Zc cls d oe → (∃ vs, oe.data = .fields vs) → sp (a, oe) vs H1 Q) : tCallP sp a cls d t σ H Q := h
theorem w_xfE {f : Str} {te : TE} (h : te σ H fun x H1 => ∃ (D dd : Addr) (fs : List (Str × V)) (v : V), x = .ref a ∧ cls = .ref D ∧ ExcC K D ∧ PySem.W.findIn K (.ref D) f = some none ∧ d = some dd ∧ H1 dd = some (.xd fs) ∧ fs.lookup f = some v ∧ Q v H1) : tXfc K a cls d f te σ H Q := h
theorem w_xf {D dd : Addr} {f : Str} {fs : List (Str × V)} {v : V} {R : V → Prop} (hE : ExcC K D) (no : PySem.W.findIn K (.ref D) f = some none) (hd : H dd = some (.xd fs)) (hl : fs.lookup f = some v) (q : R v) :
    ∃ (D' dd' : Addr) (fs : List (Str × V)) (v : V), V.ref a = .ref a ∧ Value.ref D = .ref D' ∧ ExcC K D' ∧ PySem.W.findIn K (.ref D') f = some none ∧ some dd = some dd' ∧ H dd' = some (.xd fs) ∧ fs.lookup f = some v ∧ R v := ⟨D, dd, fs, v, rfl, rfl, hE, no, rfl, hd, hl, q⟩
end
end Bw

namespace Bw
open PySem PySem.Spec PyProof.Rows L2
/-! ### loops and comprehensions over a known number of things -/
structure Fini (J : It) (n : Nat) (ok : Hp → Prop) (it : Nat → V → Hp → Hp → Prop) : Prop where
  go : ∀ i H, i < n → ok H → J.go i H
  yl : ∀ i H x H', i < n → ok H → J.yld i H x H' → it i x H H'
  st : ∀ H, ok H → J.stop n H
section
variable {K : PySem.W.Frag}
theorem fin_rng {lo : Int} {n : Nat} : Fini (Itr lo n) n (fun _ => True) (fun i x H H' => H' = H ∧ x = .int (lo + i)) := ⟨fun _ _ h _ => h, fun _ _ _ _ _ _ h => h, fun _ _ => Nat.le_refl _⟩
theorem fin_list {a : Addr} {xs : List V} : Fini (Itl K a) xs.length (fun H => SqL K H a xs) (fun i x H H' => H' = H ∧ xs[i]? = some x) :=
  ⟨fun i H h o => ⟨xs, xs[i], o, by simp [h]⟩, fun i H x H' h o y => ⟨y.1, y.2 xs o⟩, fun H o => ⟨xs, o, Nat.le_refl _⟩⟩
theorem fin_tup {a : Addr} {xs : List V} : Fini (Itt K a) xs.length (fun H => SqT K H a xs) (fun i x H H' => H' = H ∧ xs[i]? = some x) :=
  ⟨fun i H h o => ⟨xs, xs[i], o, by simp [h]⟩, fun i H x H' h o y => ⟨y.1, y.2 xs o⟩, fun H o => ⟨xs, o, Nat.le_refl _⟩⟩
theorem fin_str {x : Str} : Fini (Its x) x.cps.size (fun _ => True) (fun i v H H' => H' = H ∧ ∃ c, x.cps[i]? = some c ∧ v = .str ⟨#[c]⟩) := ⟨fun _ _ h _ => h, fun _ _ _ _ _ _ h => h, fun _ _ => Nat.le_refl _⟩
theorem fin_enum {a : Addr} {xs : List V} : Fini (Ite K a) xs.length (fun H => SqL K H a xs) (fun i v H H' => ∃ T x, v = .ref T ∧ H T = none ∧ Same H H' ∧ H' T = some (.tup [.int (i : Nat), x]) ∧ xs[i]? = some x) :=
  ⟨fun i H h o => ⟨xs, xs[i], o, by simp [h]⟩, fun i H v H' h o y => by
    obtain ⟨T, x, e, n, e', q⟩ := y
    subst e'
    exact ⟨T, x, e, n, same_new n, upd_same, q xs o⟩, fun H o => ⟨xs, o, Nat.le_refl _⟩⟩
/-- a for loop -/
theorem for_fin {J : It} {n : Nat} {ok : Hp → Prop} {it : Nat → V → Hp → Hp → Prop} {g : TG} {tb : TS} {D : Ends} {σ : L2.St} {H : Hp} (F : Fini J n ok it) (Pv : Nat → L2.St → Hp → Prop) (h0 : Pv 0 σ H) (hl : ∀ i σ H, i ≤ n → Pv i σ H → ok H)
    (hs : ∀ i x σ H H1, i < n → Pv i σ H → it i x H H1 → g x σ H1 fun σ2 H2 => tb { D with nx := Pv (i + 1), ct := Pv (i + 1), bk := D.nx } σ2 H2) (hd : ∀ σ H, Pv n σ H → D.nx σ H) :
    ∃ W : Nat → Nat → L2.St → Hp → Prop, (∃ m, W 0 m σ H) ∧ ∀ i m σ H, W i m σ H →
      (J.stop i H ∧ D.nx σ H) ∨ (J.go i H ∧ ∃ N : L2.St → Hp → Prop, (∀ σ' H', N σ' H' → ∃ m', m' < m ∧ W (i + 1) m' σ' H') ∧ ∀ x H', J.yld i H x H' → g x σ H' fun σ2 H2 => tb { D with nx := N, ct := N, bk := D.nx } σ2 H2) := by
  refine ⟨fun i m σ H => m = n - i ∧ i ≤ n ∧ Pv i σ H, ⟨n, by simp, Nat.zero_le _, h0⟩, ?_⟩
  rintro i m σ H ⟨rfl, hi, p⟩
  have o := hl i σ H hi p
  rcases Nat.lt_or_ge i n with hlt | hge
  · exact .inr ⟨F.go i H hlt o, Pv (i + 1), fun σ' H' p' => ⟨n - (i + 1), by omega, rfl, hlt, p'⟩, fun x H' y => hs i x σ H H' hlt p (F.yl i H x H' hlt o y)⟩
  · obtain rfl : i = n := Nat.le_antisymm hi hge
    exact .inl ⟨F.st H o, hd σ H p⟩
/-- the next turn of a comprehension -/
def NxI (D : Addr) (i : Nat) (Iv : Nat → List V → Hp → Prop) : Hp → Prop := fun H' => ∃ acc', acc'.length ≤ i + 1 ∧ H' D = some (.lst acc') ∧ Iv (i + 1) acc' H'
theorem take_succ {α : Type} {xs : Array α} {i : Nat} {c : α} (h : xs[i]? = some c) : xs.toList.take (i + 1) = xs.toList.take i ++ [c] := by
  rw [List.take_add_one]
  congr 1
  rw [Array.getElem?_toList, h]
  rfl
theorem take_succL {α : Type} {xs : List α} {i : Nat} {c : α} (h : xs[i]? = some c) : xs.take (i + 1) = xs.take i ++ [c] := by
  rw [List.take_add_one, h]
  rfl
theorem take_size {α : Type} {xs : Array α} : xs.toList.take xs.size = xs.toList := by
  rw [← Array.length_toList, List.take_length]
theorem w_acc {D : Addr} {i n : Nat} {Iv : Nat → List V → Hp → Prop} {acc : List V} {y : V} {H4 : Hp} (hD : H4 D = some (.lst acc)) (ha : acc.length ≤ i) (hi : i < n) (hn : n ≤ sizeLine) (k : ∀ H5, KB D H4 H5 → H5 D = some (.lst (acc ++ [y])) → Iv (i + 1) (acc ++ [y]) H5) :
    ∃ acc, H4 D = some (.lst acc) ∧ acc.length < sizeLine ∧ NxI D i Iv (upd H4 D (.lst (acc ++ [y]))) :=
  ⟨acc, hD, by omega, acc ++ [y], by rw [List.length_append]; simp; omega, upd_same, k _ kb_upd upd_same⟩
theorem w_skip {D : Addr} {i : Nat} {Iv : Nat → List V → Hp → Prop} {acc : List V} {H3 : Hp} (hD : H3 D = some (.lst acc)) (ha : acc.length ≤ i) (k : Iv (i + 1) acc H3) : NxI D i Iv H3 := ⟨acc, by omega, hD, k⟩
/-- a comprehension: Iv by the turn, what is gathered and the heap -/
theorem lc_fin {J : It} {n : Nat} {ok : Hp → Prop} {it : Nat → V → Hp → Hp → Prop} {g : TG} {tt : TT} {te : TE} {vs : List Nat} {σ : L2.St} {H1 : Hp} {Qd : Addr → Hp → Prop} (F : Fini J n ok it) (Iv : Nat → List V → Hp → Prop)
    (h0 : ∀ D H2, H1 D = none → Same H1 H2 → H2 D = some (.lst []) → Iv 0 [] H2) (hl : ∀ i acc H, i ≤ n → Iv i acc H → ok H)
    (hs : ∀ D i x acc H H', H1 D = none → i < n → acc.length ≤ i → Iv i acc H → H D = some (.lst acc) → it i x H H' → g x (wipe σ vs) H' fun σ2 H2 => wipe σ2 vs = wipe σ vs ∧ tt σ2 H2 fun b H3 =>
      if b = true then te σ2 H3 fun y H4 => ∃ acc, H4 D = some (.lst acc) ∧ acc.length < sizeLine ∧ NxI D i Iv (upd H4 D (.lst (acc ++ [y]))) else NxI D i Iv H3)
    (hd : ∀ D acc H, H1 D = none → Iv n acc H → acc.length ≤ n → H D = some (.lst acc) → Qd D H) :
    ∀ D, H1 D = none → ∃ W : Nat → Nat → Hp → Prop, (∃ m, W 0 m (upd H1 D (.lst []))) ∧ ∀ i m H, W i m H →
      (J.stop i H ∧ Qd D H) ∨ (J.go i H ∧ ∃ Nx : Hp → Prop, (∀ H', Nx H' → ∃ m', m' < m ∧ W (i + 1) m' H') ∧ ∀ x H', J.yld i H x H' → g x (wipe σ vs) H' fun σ2 H2 => wipe σ2 vs = wipe σ vs ∧ tt σ2 H2 fun b H3 =>
        if b = true then te σ2 H3 fun y H4 => ∃ acc, H4 D = some (.lst acc) ∧ acc.length < sizeLine ∧ Nx (upd H4 D (.lst (acc ++ [y]))) else Nx H3) := by
  intro D nD
  refine ⟨fun i m H => m = n - i ∧ i ≤ n ∧ ∃ acc, acc.length ≤ i ∧ H D = some (.lst acc) ∧ Iv i acc H, ⟨n, by simp, Nat.zero_le _, [], Nat.le_refl _, upd_same, h0 D _ nD (same_new nD) upd_same⟩, ?_⟩
  rintro i m H ⟨rfl, hi, acc, hacc, hD, p⟩
  have o := hl i acc H hi p
  rcases Nat.lt_or_ge i n with hlt | hge
  · exact .inr ⟨F.go i H hlt o, NxI D i Iv, fun H' p' => ⟨n - (i + 1), by omega, rfl, hlt, p'⟩, fun x H' y => hs D i x acc H H' nD hlt hacc p hD (F.yl i H x H' hlt o y)⟩
  · obtain rfl : i = n := Nat.le_antisymm hi hge
    exact .inl ⟨F.st H o, hd D acc H nD p hacc hD⟩
theorem w_lcE {wi : TI} {g : TG} {tt : TT} {te : TE} {vs : List Nat} {σ : L2.St} {H : Hp} {Q : VK} (h : wi σ H fun J H1 => ∀ D, H1 D = none → ∃ W : Nat → Nat → Hp → Prop, (∃ m, W 0 m (upd H1 D (.lst []))) ∧ ∀ i m H, W i m H →
  (J.stop i H ∧ Q (.ref D) H) ∨ (J.go i H ∧ ∃ Nx : Hp → Prop, (∀ H', Nx H' → ∃ m', m' < m ∧ W (i + 1) m' H') ∧ ∀ x H', J.yld i H x H' → g x (wipe σ vs) H' fun σ2 H2 => wipe σ2 vs = wipe σ vs ∧ tt σ2 H2 fun b H3 =>
    if b = true then te σ2 H3 fun y H4 => ∃ acc, H4 D = some (.lst acc) ∧ acc.length < sizeLine ∧ Nx (upd H4 D (.lst (acc ++ [y]))) else Nx H3)) : tLc wi g tt te vs σ H Q := h
theorem w_iStr {te : TE} {σ : L2.St} {H : Hp} {R : It → Hp → Prop} (h : te σ H fun v H1 => ∃ x, v = .str x ∧ R (Its x) H1) : iStr te σ H R := h
theorem w_strE {x : Str} {R : Str → Prop} (q : R x) : ∃ y, V.str x = .str y ∧ R y := ⟨x, rfl, q⟩
theorem w_iEnum {ta : TA} {σ : L2.St} {H : Hp} {R : It → Hp → Prop} (h : ta σ H fun vs H1 => ∃ a xs, vs = [.ref a] ∧ SqL K H1 a xs ∧ R (Ite K a) H1) : iEnum K ta σ H R := h
theorem w_enum {a : Addr} {xs : List V} {H : Hp} {R : Addr → Prop} (h : SqL K H a xs) (q : R a) : ∃ (a' : Addr) (xs : List V), [V.ref a] = [.ref a'] ∧ SqL K H a' xs ∧ R a' := ⟨a, xs, rfl, h, q⟩
theorem w_yes {σ : L2.St} {H : Hp} {QB : Bool → Hp → Prop} (q : QB true H) : tYes σ H QB := q
theorem w_inS {c : Nat} {z : Str} {H : Hp} {Q : VK} (q : Q (.bl (decide (c ∈ z.cps.toList))) H) : rInS (.str ⟨#[c]⟩) (.str z) H Q := ⟨c, z, rfl, rfl, q⟩
theorem w_all {bs : List Bool} {a : Addr} {xs : List V} {H : Hp} {Q : VK} (e : xs = bs.map V.bl) (h : SqL K H a xs) (q : Q (.bl (bs.all id)) H) : rAll K [.ref a] H Q := ⟨a, bs, rfl, e ▸ h, q⟩
theorem w_m1 {r : V → List V → Hp → VK → Prop} {to te : TE} {σ : L2.St} {H : Hp} {Q : VK} (h : to σ H fun x H1 => (∃ a, x = .str a) ∧ te σ H1 fun y H2 => r x [y] H2 Q) : tM1 r to te σ H Q := h
theorem w_m0 {r : V → List V → Hp → VK → Prop} {to : TE} {σ : L2.St} {H : Hp} {Q : VK} (h : to σ H fun x H1 => (∃ a, x = .str a) ∧ r x [] H1 Q) : tM0 r to σ H Q := h
theorem w_append {l : Addr} {xs : List V} {y : V} {H : Hp} {Q : VK} (h : H l = some (.lst xs)) (hl : xs.length < sizeLine) (k : ∀ H2, KB l H H2 → H2 l = some (.lst (xs ++ [y])) → Q .non H2) : rAppend (.ref l) [y] H Q := ⟨l, xs, y, rfl, rfl, h, hl, k _ kb_upd upd_same⟩
theorem txt_join (y : Str) (ps : List Str) : Txt.join y ps = Str.join y ps := beq_iff_eq.mp (PyProof.Rows.join_plain_closes y ps)
theorem w_sl {r : V → Option Int → Option Int → Hp → VK → Prop} {te : TE} {tl th : TO} {σ : L2.St} {H : Hp} {Q : VK} (h : te σ H fun x H1 => tl σ H1 fun l H2 => th σ H2 fun u H3 => r x l u H3 Q) : L2.tSl r te tl th σ H Q := h
theorem w_noPart {σ : L2.St} {H : Hp} {Q : Option Int → Hp → Prop} (q : Q none H) : tNoPart σ H Q := q
theorem w_part {te : TE} {σ : L2.St} {H : Hp} {Q : Option Int → Hp → Prop} (h : te σ H fun v H1 => ∃ i, v = .int i ∧ Q (some i) H1) : tPart te σ H Q := h
theorem w_intE {i : Int} {R : Int → Prop} (q : R i) : ∃ j, V.int i = .int j ∧ R j := ⟨i, rfl, q⟩
theorem w_slS {z : Str} {lo hi : Option Int} {H : Hp} {Q : VK} (hl : z.length ≤ sizeLine) (q : Q (.str (cutS z lo hi)) H) : rSlS (.str z) lo hi H Q := ⟨z, rfl, hl, q⟩
theorem w_slL {a : Addr} {xs : List V} {lo hi : Option Int} {H : Hp} {Q : VK} (h : SqL K H a xs) (k : ∀ p H2, H p = none → Same H H2 → H2 p = some (.lst (cutV xs lo hi)) → Q (.ref p) H2) : rSlL K (.ref a) lo hi H Q := ⟨a, xs, rfl, h, fun p n => k p _ n (same_new n) upd_same⟩
theorem w_addS {x y : Str} {H : Hp} {Q : VK} (hl : x.length + y.length ≤ sizeLine) (q : Q (.str (x ++ y)) H) : rAddS (.str x) (.str y) H Q := ⟨x, y, rfl, rfl, hl, q⟩
theorem w_isS {x : Str} {R : Prop} (q : R) : (∃ a, V.str x = .str a) ∧ R := ⟨⟨x, rfl⟩, q⟩
theorem w_split {x y : Str} {H : Hp} {Q : VK} (hy : (y.length == 0) = false) (hl : x.length + 2 ≤ sizeLine) (k : ∀ p H2, H p = none → Same H H2 → H2 p = some (.lst ((Txt.split x y).map V.str)) → Q (.ref p) H2) :
    ∃ a b, V.str x = .str a ∧ [V.str y] = [.str b] ∧ (b.length == 0) = false ∧ a.length + 2 ≤ sizeLine ∧ rNewStrs (Txt.split a b) H Q := ⟨x, y, rfl, rfl, hy, hl, fun p n => k p _ n (same_new n) upd_same⟩
theorem w_join {x : Str} {p : Addr} {ys : List Str} {zs : List V} {H : Hp} {Q : VK} (e : zs = ys.map V.str) (h : SqL K H p zs) (hl : (ys.map (·.length)).sum + ys.length * x.length ≤ 16777216) (q : Q (.str (Txt.join x ys)) H) :
    ∃ a p', ∃ ys : List Str, V.str x = .str a ∧ [V.ref p] = [.ref p'] ∧ (SqL K H p' (ys.map V.str) ∨ SqT K H p' (ys.map V.str)) ∧ (ys.map (·.length)).sum + ys.length * a.length ≤ 16777216 ∧ Q (.str (Txt.join a ys)) H := ⟨x, p, ys, rfl, rfl, .inl (e ▸ h), hl, q⟩
/-! ### pieces of a text -/
theorem le_sum {x : Nat} : ∀ {l : List Nat}, x ∈ l → x ≤ l.sum
  | y :: r, h => by
    rcases List.mem_cons.mp h with rfl | h
    · simp
    · have := le_sum h
      simp
      omega
end
end Bw

namespace Bw
open PySem PySem.Spec PyProof.Rows L2 LamX
/-- a def whose code object is known -/
structure FunC (K : PySem.W.Frag) (x qual : Str) (st : Stmt) (f : Addr) (fd : FuncData) (c : Addr) : Prop where
  ex : ∃ (oc : Value) (od : Option Addr) (kV doc pm : Value) (an : Option Addr) (ct : Value) (osl : Array (Option Value)),
    fd = PySem.W.fnOf x qual (defArgs st) (defBody st) (defScope st) .none kV doc pm an (.ref c) ct ∧ K.lookup f = some ⟨oc, od, .func fd, osl⟩ ∧ PySem.W.codeIn K (.ref c) qual = true
  kp : PySem.W.keepIn K (.ref f) = true
section
variable {P : Program} {w : World} {K : PySem.W.Frag} {mg : Str → Option Value} {base : Heap}
theorem FunC.ok {x qual : Str} {st : Stmt} {f c : Addr} {fd : FuncData} {N ps : List Str} {k : Nat} {sp : Sp} (F : FunC K x qual st f fd c) (S : FnScope N ps (defScope st)) (len : ∀ vs H Q E, sp vs H Q E → vs.length = ps.length)
    (hbody : ∀ (A : Around) (outer : List Env) (s : Shared) (H : Hp) (vs : List V) (Q : VK) (E : XK), Room k (A.deeper (envOfC qual (defScope st) s.heap.objs.size f (.ref c))) → sp vs H Q E →
      ∃ t, PSs (cxOf CX0 P w K mg base N qual (defScope st) f (.ref c) A outer s H E).nox (defBody st) t ∧ t { nx := fun _ H' => Q .non H', rt := Q } (L2.start N vs) H) : FnOk P w K mg base CX0 (k + 1) f fd ps sp := by
  obtain ⟨oc, od, kV, doc, pm, an, ct, osl, rfl, lk, hcd⟩ := F.ex
  refine fn_of lk hcd S len fun A outer s H vs Q E hr hsp => ?_
  obtain ⟨t, h, q⟩ := hbody A outer s H vs Q E hr hsp
  exact ⟨t, h.nox, q⟩
theorem FunC.fun_ {x qual : Str} {st : Stmt} {f c : Addr} {fd : FuncData} (F : FunC K x qual st f fd c) : Fun K x qual st f fd := by
  obtain ⟨oc, od, kV, doc, pm, an, ct, osl, e, lk, hcd⟩ := F.ex
  exact ⟨⟨oc, od, kV, doc, pm, an, .ref c, ct, osl, e, lk, hcd⟩, F.kp⟩
theorem funC_mk {x qual : Str} {st : Stmt} {f c : Addr} {oc : Value} {od an : Option Addr} {osl : Array (Option Value)} {kV doc pm ct : Value} (l : K.lookup f = some ⟨oc, od, .func (PySem.W.fnOf x qual (defArgs st) (defBody st) (defScope st) .none kV doc pm an (.ref c) ct), osl⟩)
    (hc : PySem.W.codeIn K (.ref c) qual = true) (k : PySem.W.keepIn K (.ref f) = true) : FunC K x qual st f (PySem.W.fnOf x qual (defArgs st) (defBody st) (defScope st) .none kV doc pm an (.ref c) ct) c := ⟨⟨oc, od, kV, doc, pm, an, ct, osl, rfl, l, hc⟩, k⟩
/-- the def x is handed a lambda without parameters, and calls it -/
structure Asks (P : Program) (w : World) (K : PySem.W.Frag) (mg : Str → Option Value) (base : Heap) (x a : Str) (N : List Str) (st : Stmt) (k : Nat) (TT : (XK → Hp → VK → Prop) → Hp → VK → Prop) : Prop where
  ex : ∃ (g : Addr) (fd : FuncData), Fun K x x st g fd ∧ mg x = some (.ref g) ∧ Binds K fd [a] []
  sc : FnScope N [a] (defScope st)
  n0 : N[0]? = some a
  va : Vis (defScope st) a
  gives : ∀ X : Cx, X.prog = P → X.w = w → X.K = K → X.mg = mg → X.base = base → Room k X.A → ∀ (g : Addr) (cdg : Value) (q : Str), GivesTo X N x (defScope st) g cdg (defBody st) a q TT
end
abbrev lamN (x : Str) : Str := (x ++ ".<locals>.") ++ "<lambda>"
theorem pe_asks {X : Cx} {x a : Str} {N : List Str} {st : Stmt} {k j : Nat} {TT : (XK → Hp → VK → Prop) → Hp → VK → Prop} {T : List (Addr × Str)} {c P : Addr} {params : Arguments} {body : Expr} {scope : Scope} {t : XK → TE} {p lpos pos : Pos}
    (A : Asks X.prog X.w X.K X.mg X.base x a N st k TT) (hg : Gl X x) (TB : TabB X.base X.mg c P) (hcode : X.env.code = .ref c) {ql : Str} (hql : X.env.qual = ql) (hmT : (P, ql ++ "<lambda>") ∈ T) (hu : ∀ p ∈ T, p.1 = P → p.2 = ql ++ "<lambda>") (hr1 : Room k X.A) (hr : Room (j + 2) X.A) (L : lamSB X.env.scope scope = true) (hdef : defaultsOf params X.env = ([], []))
    (hbind : ∀ (q : Str) (cl : List (Str × Addr)) (pm cv ctv : Value), bindArgs (PySem.W.kla_fn "<lambda>" q params body scope cl pm cv ctv) ⟨[], []⟩ = pure [])
    (hbody : ∀ (A : Around) (outer : List Env) (s : Shared) (H : Hp) (E : XK) (f c' : Addr), Room j (A.deeper (lamEnv X scope s.heap.objs.size f c')) → PE (lamCx X A outer s H E scope f c') body (t E))
    (hdb : (x == ("__debug__" : Str)) = false := by decide) (hd : (a == ("__debug__" : Str)) = false := by decide) (hcd : (a == ("__classdict__" : Str)) = false := by decide) :
    PE X (.Call (.Name x p) [.Lambda params body scope lpos] [] pos) (tLam T TT t) := by
  subst hql
  obtain ⟨g, fd, F, hm, hb⟩ := A.ex
  have kp := F.kp
  obtain ⟨oc, od, kV, doc, pm, an, cdv, ct, osl, rfl, lk, hcd'⟩ := F.ex
  exact pe_lamcall hg hm kp lk hcd' hb A.sc A.n0 A.va (A.gives X rfl rfl rfl rfl rfl hr1 g cdv _) TB hcode hmT hu hr (lamS_by L) hdef hbind hbody hdb hd hcd
/-! ### steps -/
section
variable {H H' H1 : Hp} {σ : L2.St} {Q : VK} {K : PySem.W.Frag}
theorem w_lam {T : List (Addr × Str)} {TT : (XK → Hp → VK → Prop) → Hp → VK → Prop} {t : XK → TE} (hT : Tabs T H) (h : ∀ H1, ExtN H H1 → Tabs T H1 → TT (fun E H' Q' => t E σ H' Q') H1 Q) : tLam T TT t σ H Q := ⟨hT, h⟩
theorem w_how {Z : Zs} {tl : XK → Hp → VK → Prop} (h : tl (howE K Z Q) H (fun _ H' => Q (.str "told") H')) : TTHow K Z tl H Q := h
theorem extn_at {a : Addr} {o : HO} (e : ExtN H H') (h : H a = some o) (n : ∀ ps, o ≠ .tbl ps) : H' a = some o := e a o h n
theorem extn_same (e : Same H H') : ExtN H H' := fun b o h _ => e b o h
theorem extn_seq {a : Addr} {xs : List V} (e : ExtN H H') (h : SqL K H a xs) : SqL K H' a xs := by
  rcases h with (h | ⟨o, h⟩) | h
  · exact .inl (.inl (e _ _ h (fun _ z => by cases z)))
  · exact .inl (.inr ⟨o, e _ _ h (fun _ z => by cases z)⟩)
  · exact .inr h
theorem extn_tup {a : Addr} {xs : List V} (e : ExtN H H') (h : SqT K H a xs) : SqT K H' a xs := by
  rcases h with (h | ⟨o, h⟩) | h
  · exact .inl (.inl (e _ _ h (fun _ z => by cases z)))
  · exact .inl (.inr ⟨o, e _ _ h (fun _ z => by cases z)⟩)
  · exact .inr h
mutual
theorem Dp.extn (e : ExtN H H') : ∀ {v : V} {d : PyData}, Dp K H v d → Dp K H' v d
  | _, _, .non => .non
  | _, _, .bl b => .bl b
  | _, _, .int i => .int i
  | _, _, .str x => .str x
  | _, _, .lst h r => .lst (extn_seq e h) (DpAll.extn e r)
  | _, _, .tup h r => .tup (extn_tup e h) (DpAll.extn e r)
theorem DpAll.extn (e : ExtN H H') : ∀ {vs : List V} {ds : List PyData}, DpAll K H vs ds → DpAll K H' vs ds
  | _, _, .nil => .nil
  | _, _, .cons h r => .cons (Dp.extn e h) (DpAll.extn e r)
end
/-- two heaps, the tables may have grown -/
structure Grown (T : List (Addr × Str)) (H H' : Hp) : Prop where
  e : ExtN H H'
  t : Tabs T H'
theorem Grown.trans {T : List (Addr × Str)} (a : Grown T H H1) (b : Grown T H1 H') : Grown T H H' := ⟨a.e.trans b.e, b.t⟩
theorem Grown.same {T : List (Addr × Str)} (a : Grown T H H1) (b : Same H1 H') : Grown T H H' := ⟨a.e.trans (extn_same b), a.t.ext b⟩
theorem Grown.of {T : List (Addr × Str)} (t : Tabs T H) (b : Same H H') : Grown T H H' := ⟨extn_same b, t.ext b⟩
theorem tabs_kb {T : List (Addr × Str)} {p : Addr} {xs : List V} (t : Tabs T H) (hp : H p = some (.lst xs)) (e : KB p H H') : Tabs T H' := by
  intro x hx
  obtain ⟨ps, h1, h2, h3⟩ := t x hx
  have ne : ∀ {b o}, H b = some o → (o ≠ .lst xs) → b ≠ p := fun {b o} hb no z => no (Option.some.inj (hb.symm.trans (z ▸ hp)))
  refine ⟨ps, e _ _ h1 (ne h1 (fun z => by cases z)), h2, fun pos cv hc => ?_⟩
  obtain ⟨c, e1, e2⟩ := h3 pos cv hc
  exact ⟨c, e1, e _ _ e2 (ne e2 (fun z => by unfold CodeO at z; cases z))⟩
end
/-! ### things that are no texts -/
inductive Odd (H : Hp) : V → Prop
  | non : Odd H .non
  | int (i : Int) : Odd H (.int i)
  | bl (b : Bool) : Odd H (.bl b)
  | lst {a : Addr} {xs : List V} : H a = some (.lst xs) → Odd H (.ref a)
  | tup {a : Addr} {xs : List V} : H a = some (.tup xs) → Odd H (.ref a)
theorem kit_non_str : kitB "NoneType" "str" = some false := by decide +kernel
theorem kit_lst_str : kitB "list" "str" = some false := by decide +kernel
theorem kit_tup_str : kitB "tuple" "str" = some false := by decide +kernel
theorem Odd.ty {K : PySem.W.Frag} {H : Hp} {v : V} (h : Odd H v) : (∀ x, v ≠ .str x) ∧ ∃ tv, TyX K H v (.type tv) ∧ kitB tv "str" = some false := by
  cases h with
  | non => exact ⟨fun x z => (by cases z), _, tyx_non, kit_non_str⟩
  | int i => exact ⟨fun x z => (by cases z), _, tyx_int, kit_int_str⟩
  | bl b => exact ⟨fun x z => (by cases z), _, tyx_bl, kit_bool_str⟩
  | lst e => exact ⟨fun x z => (by cases z), _, tyx_lst e, kit_lst_str⟩
  | tup e => exact ⟨fun x z => (by cases z), _, tyx_tup e, kit_tup_str⟩
theorem Odd.ext {H H' : Hp} {v : V} (h : Odd H v) (e : ExtN H H') : Odd H' v := by
  cases h with
  | non => exact .non
  | int i => exact .int i
  | bl b => exact .bl b
  | lst q => exact .lst (e _ _ q (fun _ z => by cases z))
  | tup q => exact .tup (e _ _ q (fun _ z => by cases z))
/-- a text, or no text -/
def TxtV (H : Hp) (v : V) : Prop := (∃ x : Str, v = .str x ∧ x.length ≤ 100000) ∨ Odd H v
theorem TxtV.ext {H H' : Hp} {v : V} (h : TxtV H v) (e : ExtN H H') : TxtV H' v := h.imp id fun q => q.ext e
theorem TxtV.same {H H' : Hp} {v : V} (h : TxtV H v) (e : Same H H') : TxtV H' v := h.ext (extn_same e)
/-! ### lists of texts -/
section
variable {K : PySem.W.Frag} {H : Hp}
theorem dpAll_str : ∀ bs : List Str, DpAll K H (bs.map V.str) (bs.map PyData.str)
  | [] => .nil
  | b :: r => .cons (.str b) (dpAll_str r)
theorem depth_str : ∀ bs : List Str, PyData.depthAll (bs.map PyData.str) = 0
  | [] => rfl
  | b :: r => by simp [PyData.depthAll, PyData.depth, depth_str r]
theorem lay_str : ∀ {bs : List Str}, (∀ b ∈ bs, PyData.strOk b = true) → PyData.canLayAll0 (bs.map PyData.str) = true
  | [], _ => by simp [PyData.canLayAll0]
  | b :: r, h => by simp [PyData.canLayAll0, PyData.canLay0, h b List.mem_cons_self, lay_str (fun x hx => h x (List.mem_cons_of_mem _ hx))]
theorem shaped_str {bs : List Str} (h : ∀ b ∈ bs, PyData.strOk b = true) : SeqAt.shaped (.list (bs.map PyData.str)) = true := by
  simp [SeqAt.shaped, PyData.canLay0, lay_str h, PyData.depth, depth_str]
theorem eqvAll_str : ∀ bs cs : List Str, PyData.eqvAll (bs.map PyData.str) (cs.map PyData.str) = decide (bs = cs)
  | [], [] => by simp [PyData.eqvAll]
  | [], c :: s => by simp [PyData.eqvAll]
  | b :: r, [] => by simp [PyData.eqvAll]
  | b :: r, c :: s => by
    simp only [List.map_cons, PyData.eqvAll, PyData.eqv, eqvAll_str r s, List.cons.injEq]
    by_cases h1 : b = c <;> by_cases h2 : r = s <;> simp [h1, h2]
theorem eqv_strs (bs cs : List Str) : PyData.eqv (.list (bs.map PyData.str)) (.list (cs.map PyData.str)) = decide (bs = cs) := by
  simp only [PyData.eqv, eqvAll_str]
end
end Bw

/-! Starred targets: a, *b = e for a tuple or a list e. -/
namespace Bw
open PySem PySem.Spec L2
section
variable {prog : Program} {w : World} {A : Around} {E : Value → Shared → Prop} {I : Addr} {fp wr : List Addr} {G : Array GenState → Array GenState → Prop} {n : Nat} {P : Nat → Value → Prop} {St : Nat → Shared → Prop}
theorem moved_refl (hg : ∀ a, G a a) (s : Shared) : Moved wr G s s := Moved.refl hg
theorem moved_trans (ht : ∀ a b c, G a b → G b c → G a c) {s s' s'' : Shared} (x : Moved wr G s s') (y : Moved wr G s' s'') : Moved wr G s s'' :=
  ⟨fun b o hb e => y.heap b o hb (x.heap b o hb e), ht _ _ _ x.gens y.gens, y.drawn.trans x.drawn, y.os.trans x.os, Nat.le_trans x.toks y.toks⟩
theorem draw_S (W : WalksS prog w A I fp wr G n P St) : ∀ (m i : Nat) (s : Shared) (Q : List Value → Shared → Prop), St i s → i + m ≤ n →
    (∀ s' vs, Moved wr G s s' → St (i + m) s' → vs.length = m → (∀ j v, vs[j]? = some v → P (i + j) v) → Q vs s') → wpAny (model prog w) A (draw (.ref I) m) Q E s
  | 0, i, s, Q, st, _, hQ => by
    show wpAny _ _ (pure []) Q E s
    exact wpAny_pure (hQ s [] (moved_refl W.grefl s) st rfl fun j v h => by simp at h)
  | m + 1, i, s, Q, st, hle, hQ => by
    show wpAny _ _ (pyNext (.ref I) >>= _) Q E s
    refine wpAny_bind (W.item i s _ _ (by omega) st fun v s1 hP st1 mv => ?_)
    refine wpAny_bind (wpAny_holding (draw_S W m (i + 1) s1 _ st1 (by omega) fun s2 vs mv2 st2 hl hv => wpAny_pure ?_))
    refine hQ s2 (v :: vs) (moved_trans W.gtrans mv mv2) (by rw [show i + (m + 1) = i + 1 + m by omega]; exact st2) (by simp [hl]) fun j u h => ?_
    cases j with
    | zero =>
      simp at h
      subst h
      exact hP
    | succ j =>
      have := hv j u (by simpa using h)
      rw [show i + (j + 1) = i + 1 + j by omega]
      exact this
theorem shift_S (W : WalksS prog w A I fp wr G n P St) (k : Nat) (hk : k ≤ n) : WalksS prog w A I fp wr G (n - k) (fun i => P (k + i)) (fun i s => St (k + i) s) where
  sub := W.sub
  grefl := W.grefl
  gtrans := W.gtrans
  frame := fun i s h' tk st ht hb => W.frame (k + i) s h' tk st ht hb
  item := fun i s Q E hi st hQ => W.item (k + i) s Q E (by omega) st fun v s' hP st' mv => hQ v s' hP st' mv
  done := fun s Q E st hQ => W.done s Q E (by rw [show k + (n - k) = n by omega] at st; exact st) hQ
  self := fun i s Q E st hQ => W.self (k + i) s Q E st hQ
/-- the items, the starred ones as a new list at the heap's end -/
theorem star_S {v : Value} {s s0 : Shared} {T : String} {k after : Nat} {Q : List Value → Shared → Prop} (hTm : T = "list_iterator" ∨ T = "tuple_iterator")
    (W : WalksS prog w A.in1 I fp wr G n P St) (hT : ∀ i s, St i s → s.TypeIs (.ref I) T) (hn : n ≤ sizeLine) (hk : k + after ≤ n) (hI : I ∈ fp) (hfp : ∀ i s, St i s → ∀ b ∈ fp, b < s.heap.objs.size) (st0 : St 0 s0)
    (hit : ∀ (Q : Bool → Shared → Prop), Q false s → wpAny (model prog w) A (notIterableAtAll v) Q E s)
    (hiter : ∀ (Q : Value → Shared → Prop), Q (.ref I) s0 → wpAny (model prog w) A (pyIter v) Q E s)
    (hQ : ∀ (s' : Shared) (first rest : List Value), Moved wr G s0 s' → first.length = k → (∀ j u, first[j]? = some u → P j u) → rest.length = n - k → (∀ j u, rest[j]? = some u → P (k + j) u) →
      wpAny (model prog w) A (newList (rest.take (rest.length - after))) (fun l s'' => Q (first ++ [l] ++ rest.drop (rest.length - after)) s'') E s') :
    wpAny (model prog w) A (unpackItems v (k + 1 + after) (some k)) Q E s := by
  have W' : WalksS prog w A I fp wr G n P St := WalksS.of_in1 W
  unfold unpackItems
  refine wpAny_bind (hit _ ?_)
  simp only [Bool.false_eq_true, if_false]
  refine wpAny_bind (wpAny_holding (hiter _ ?_))
  refine wpAny_bind (wpAny_holding (draw_S W' k 0 s0 _ st0 (by omega) fun s1 first mv1 st1 hl1 hv1 => ?_))
  rw [if_neg (by omega)]
  rw [Nat.zero_add] at st1
  refine wpAny_bind (wpAny_holding (wpAny_collect_iter (T := T) (by rcases hTm with h | h <;> simp [h]) (shift_S W k (by omega)) (fun i s st => hT (k + i) s st) (by simpa using st1) (hfp k s1 st1) hI (fun s2 acc mv2 hacc => ?_) (by omega)))
  have hal : acc.toList.length = n - k := by rw [Array.length_toList]; exact hacc.1
  rw [show k + 1 + after - 1 - k = after by omega]
  rw [if_neg (by omega)]
  refine wpAny_bind ?_
  refine wpAny_mono (hQ s2 first acc.toList (moved_trans W.gtrans mv1 mv2) hl1 (fun j u h => by simpa using hv1 j u h) hal fun j u h => ?_) (fun l s3 q => wpAny_pure q) fun _ _ h => h
  exact hacc.2 j u (by simpa using h)
end
/-! ### over the layer -/
/-- a, .., *b, .., c = e: k ahead, after behind the star -/
def gStar (K : PySem.W.Frag) (k after : Nat) (t : TGs) : TG := fun v σ H Q => ∃ a xs, v = .ref a ∧ (SqT K H a xs ∨ SqL K H a xs) ∧ k + after ≤ xs.length ∧
  ∀ p, H p = none → t (xs.take k ++ [.ref p] ++ (xs.drop k).drop (xs.length - k - after)) σ (upd H p (.lst ((xs.drop k).take (xs.length - k - after)))) Q
section
variable {X : Cx} {pos : Pos}
theorem pgs_star {e : Expr} {es : List Expr} {t : TG} {u : TGs} {p : Pos} (h1 : PG X e t) (h2 : PGs X es u)
    (hs : (assignEach (.Starred e p :: es) X.env).map (·.2) = assign e X.env :: (assignEach es X.env).map (·.2) := by rfl) : PGs X (.Starred e p :: es) (gCons t u) := by
  refine ⟨fun pins s σ H vs us Q I r h => ?_⟩
  obtain ⟨v, vr, e1, h⟩ := h
  subst e1
  cases r with
  | cons r rr =>
    rw [hs]
    refine PyProof.Rows.assignInOrder_cons (thn (h1.run pins s σ H _ _ _ I r h) fun _ s1 ⟨σ1, H1, I1, q1⟩ => ?_)
    exact h2.run pins s1 σ1 H1 _ _ Q I1 rr q1
theorem pg_star {es : List Expr} {ky : Nat} {t : TGs} {k after : Nat} (hc : X.calm = true) (h : PGs X es t)
    (hn : (assignEach es X.env).length = k + 1 + after := by rfl) (hst : (assignEach es X.env).findIdx? (·.1) = some k := by rfl) : PG X (.Tuple es ky pos) (gStar X.K k after t) := by
  refine ⟨fun pins s σ H v u Q I r hw => ?_⟩
  obtain ⟨a, xs, e1, hq, hl, hw⟩ := hw
  subst e1
  obtain rfl : u = Value.ref a := r
  rw [PyProof.Rows.assign_Tuple]
  refine wpAny_bind (wpAny_standAt ?_)
  unfold unpack
  rw [hn, hst]
  have hh : X.A.handled = none := I.ok.hd hc
  have fin : ∀ (its : List Value) (s' : Shared) (first rest : List Value), Vals xs its → xs.length ≤ sizeLine → (∀ b o, s.heap.get? b = some o → s'.heap.get? b = some o) → s'.gens = s.gens → s'.drawn = s.drawn → s'.os = s.os → first.length = k → (∀ (j : Nat) u, first[j]? = some u → its[j]? = some u) → rest.length = its.length - k → (∀ (j : Nat) u, rest[j]? = some u → its[k + j]? = some u) →
      wpAny (model X.prog X.w) X.A (newList (rest.take (rest.length - after))) (fun l s'' => wpAny (model X.prog X.w) X.A (assignInOrder ((assignEach es X.env).map (·.2)) (first ++ [l] ++ rest.drop (rest.length - after))) (fun _ s' => ∃ σ' H', Inv X pins σ' H' s' ∧ Q σ' H') X.xe s'') X.xe s' := by
    intro its s' first rest rv z kp e1 e2 e3 l1 g1 l2 g2
    have lx := rv.length
    have hr : rest = its.drop k := by
      apply List.ext_getElem?
      intro j
      rw [List.getElem?_drop]
      cases e : rest[j]? with
      | some u => exact (g2 j u e).symm
      | none =>
        have := List.getElem?_eq_none_iff.mp e
        exact (List.getElem?_eq_none_iff.mpr (by omega)).symm
    have hf : first = its.take k := by
      apply List.ext_getElem?
      intro j
      cases e : first[j]? with
      | some u =>
        have hj := (List.getElem?_eq_some_iff.mp e).1
        rw [List.getElem?_take, if_pos (by omega)]
        exact (g1 j u e).symm
      | none =>
        have := List.getElem?_eq_none_iff.mp e
        exact (List.getElem?_eq_none_iff.mpr (by rw [List.length_take]; omega)).symm
    subst hr hf
    have I1 : Inv X pins σ H { s with heap := s'.heap, toks := s'.toks } := I.kept (t' := s'.toks) kp
    have es' : { s with heap := s'.heap, toks := s'.toks } = s' := by
      cases s'
      simp_all
    rw [es'] at I1
    have hfr : H s'.heap.objs.size = none := I1.hok.fresh (Nat.le_refl _)
    have r1 : Vals ((xs.drop k).take (xs.length - k - after)) ((its.drop k).take ((its.drop k).length - after)) := by
      rw [List.length_drop, ← lx]
      exact (rv.drop k).take _
    have z1 : ((xs.drop k).take (xs.length - k - after)).length ≤ sizeLine := by
      rw [List.length_take, List.length_drop]
      omega
    refine wpAny_newObj_type ?_ (by
      show (_ : Nat) ≤ _
      rw [List.size_toArray, ← r1.length]
      exact z1)
    have I2 : Inv X pins σ (upd H s'.heap.objs.size (.lst ((xs.drop k).take (xs.length - k - after)))) { s' with heap := s'.heap.push { cls := .type "list", dict := none, data := .seq ((its.drop k).take ((its.drop k).length - after)).toArray } } :=
      I1.laid (t' := s'.toks) (fun b u e => Heap.get?_push_of_some _ e) (Nat.le_refl _) ⟨z1, _, 0, r1, Heap.get?_push_size _ rfl⟩
    refine h.run pins _ σ _ _ _ Q I2 ?_ (hw _ hfr)
    have r2 : Vals ((xs.drop k).drop (xs.length - k - after)) ((its.drop k).drop ((its.drop k).length - after)) := by
      rw [List.length_drop, ← lx]
      exact (rv.drop k).drop _
    exact Vals.append (Vals.append (rv.take k) (.cons rfl .nil)) r2
  rcases hq with hq | hq
  · obtain ⟨its, rv, ht, hz⟩ := I.tuple hq
    have lx := rv.length
    have hlt : a ≠ s.heap.objs.size := by obtain ⟨o, ho, _⟩ := ht; exact Nat.ne_of_lt (Heap.lt_size ho)
    refine wpAny_bind (wpAny_holding (star_S (T := "tuple_iterator") (n := its.toArray.size) (P := fun i v => its.toArray[i]? = some v) (s0 := { s with heap := s.heap.push { cls := .type "tuple_iterator", data := .fields #[.ref a, .int 0 0] } })
      (.inr rfl) (Walks.toS (Walks.tuple (A := X.A.in1) hh s.heap.objs.size a hlt its.toArray)) (fun i s st => ?_) (by simp; omega) (by simp; omega) (by simp) (fun i s st b hb => ?_) ?_ (fun Q q => ?_) (fun Q q => ?_) (fun s' first rest mv l1 g1 l2 g2 => ?_)))
    · obtain ⟨o, ho, hcl, _⟩ := st.1
      exact ⟨o, ho, hcl⟩
    · simp at hb
      rcases hb with rfl | rfl
      · obtain ⟨o, ho, _⟩ := st.1
        exact Heap.lt_size ho
      · obtain ⟨o, ho, _⟩ := st.2
        exact Heap.lt_size ho
    · exact ⟨⟨_, Heap.get?_push_size _ rfl, rfl, rfl⟩, ht.push _⟩
    · unfold notIterableAtAll
      exact wpAny_bind (wpAny_specialOf ht.typeIs PyProof.Rows.slot_tuple_iter.lookup (wpAny_pure q))
    · exact wpAny_pyIter_tuple ht q
    · refine fin its s' first rest rv hz (fun b o e => mv.heap b o ?_ (Heap.get?_push_of_some _ e)) mv.gens mv.drawn mv.os l1 (fun j u e => by simpa using g1 j u e) (by simpa using l2) (fun j u e => by simpa using g2 j u e)
      simp
      exact Nat.ne_of_lt (Heap.lt_size e)
  · obtain ⟨its, rv, ht, hz⟩ := I.list hq
    have ht : s.heap.IsList a its.toArray := by
      obtain ⟨o, n, h1, h2, h3, h4⟩ := ht
      exact ⟨o, h1, h2, n, h4⟩
    have lx := rv.length
    have hlt : a ≠ s.heap.objs.size := by obtain ⟨o, ho, _⟩ := ht; exact Nat.ne_of_lt (Heap.lt_size ho)
    refine wpAny_bind (wpAny_holding (star_S (T := "list_iterator") (n := its.toArray.size) (P := fun i v => its.toArray[i]? = some v) (s0 := { s with heap := s.heap.push { cls := .type "list_iterator", data := .fields #[.ref a, .int 0 0] } })
      (.inl rfl) (Walks.toS (Walks.list (A := X.A.in1) hh s.heap.objs.size a hlt its.toArray)) (fun i s st => ?_) (by simp; omega) (by simp; omega) (by simp) (fun i s st b hb => ?_) ?_ (fun Q q => ?_) (fun Q q => ?_) (fun s' first rest mv l1 g1 l2 g2 => ?_)))
    · obtain ⟨o, ho, hcl, _⟩ := st.1
      exact ⟨o, ho, hcl⟩
    · simp at hb
      rcases hb with rfl | rfl
      · obtain ⟨o, ho, _⟩ := st.1
        exact Heap.lt_size ho
      · obtain ⟨o, ho, _⟩ := st.2
        exact Heap.lt_size ho
    · exact ⟨⟨_, Heap.get?_push_size _ rfl, rfl, rfl⟩, ht.push _⟩
    · unfold notIterableAtAll
      exact wpAny_bind (wpAny_specialOf ht.typeIs slot_list_iter.lookup (wpAny_pure q))
    · exact wpAny_pyIter_list ht q
    · refine fin its s' first rest rv hz (fun b o e => mv.heap b o ?_ (Heap.get?_push_of_some _ e)) mv.gens mv.drawn mv.os l1 (fun j u e => by simpa using g1 j u e) (by simpa using l2) (fun j u e => by simpa using g2 j u e)
      simp
      exact Nat.ne_of_lt (Heap.lt_size e)
end
end Bw

namespace Bw
open PySem PySem.Spec PyProof.Rows L2 LamX
/-! list(x), tuple(x), xs.insert -/
section
variable {X : Cx}
def rListOf (K : PySem.W.Frag) : List V → Hp → VK → Prop := fun xs H Q => ∃ p ys, xs = [.ref p] ∧ (SqL K H p ys ∨ SqT K H p ys) ∧ ∀ l, H l = none → Q (.ref l) (upd H l (.lst ys))
theorem cl_list : CallR X (.type "list") (rListOf X.K) := call_list_of
def rTupOf (K : PySem.W.Frag) : List V → Hp → VK → Prop := fun xs H Q => ∃ p ys, xs = [.ref p] ∧ ((SqL K H p ys ∧ ∀ l, H l = none → Q (.ref l) (upd H l (.tup ys))) ∨ (SqT K H p ys ∧ Q (.ref p) H))
theorem cl_tuple : CallR X (.type "tuple") (rTupOf X.K) := call_tuple_of
def rInsert : V → List V → Hp → VK → Prop := fun x vs H Q => ∃ (l : Addr) (xs : List V) (i : Int) (y : V), x = .ref l ∧ vs = [.int i, y] ∧ H l = some (.lst xs) ∧ xs.length < sizeLine ∧ 0 ≤ i ∧ i < 2 ^ 63 ∧ Q .non (upd H l (.lst (xs.take i.toNat ++ [y] ++ xs.drop i.toNat)))
theorem mt_insertN : MtR X "list.insert" rInsert := mt_insert
end
section
variable {K : PySem.W.Frag} {H : Hp} {Q : VK}
theorem w_listOf {p : Addr} {ys : List V} (h : SqL K H p ys) (k : ∀ l H2, H l = none → Same H H2 → H2 l = some (.lst ys) → Q (.ref l) H2) : rListOf K [.ref p] H Q := ⟨p, ys, rfl, .inl h, fun l n => k l _ n (same_new n) upd_same⟩
theorem w_tupOf {p : Addr} {ys : List V} (h : SqL K H p ys) (k : ∀ l H2, H l = none → Same H H2 → H2 l = some (.tup ys) → Q (.ref l) H2) : rTupOf K [.ref p] H Q := ⟨p, ys, rfl, .inl ⟨h, fun l n => k l _ n (same_new n) upd_same⟩⟩
theorem w_tupT {p : Addr} {ys : List V} (h : SqT K H p ys) (q : Q (.ref p) H) : rTupOf K [.ref p] H Q := ⟨p, ys, rfl, .inr ⟨h, q⟩⟩
theorem w_insert {l : Addr} {xs : List V} {i : Int} {y : V} (h : H l = some (.lst xs)) (hl : xs.length ≤ 60000) (h0 : 0 ≤ i) (hi : i ≤ 60000) (k : ∀ H2, KB l H H2 → H2 l = some (.lst (xs.take i.toNat ++ [y] ++ xs.drop i.toNat)) → Q .non H2) : rInsert (.ref l) [.int i, y] H Q :=
  ⟨l, xs, i, y, rfl, rfl, h, Nat.lt_of_le_of_lt hl (by decide), h0, by omega, k _ kb_upd upd_same⟩
end
/-- an if without else, what is behind it once -/
theorem w_decR {c A : Prop} {dc : Decidable c} {D : Ends} {σ : L2.St} {H : Hp} (Inv : L2.St → Hp → Prop) (h2 : ¬ c → Inv σ H) (h1 : (∀ σ H, Inv σ H → D.nx σ H) → c → A) (hi : ∀ σ H, Inv σ H → D.nx σ H) : if decide c = true then A else tNext D σ H := by
  by_cases h : c
  · rw [if_pos (decide_eq_true h)]
    exact h1 hi h
  · rw [if_neg (fun e => h (of_decide_eq_true e))]
    exact hi _ _ (h2 h)
/-! what is a list stays one -/
def Kinds (H H' : Hp) : Prop := (∀ a xs, H a = some (.lst xs) → ∃ ys, H' a = some (.lst ys)) ∧ ∀ a xs, H a = some (.tup xs) → H' a = some (.tup xs)
theorem Kinds.of {H H' : Hp} (e : Same H H') : Kinds H H' := ⟨fun a xs h => ⟨xs, e _ _ h⟩, fun a xs h => e _ _ h⟩
theorem Kinds.kb {p : Addr} {H H' : Hp} {xs ys : List V} (e : KB p H H') (h0 : H p = some (.lst xs)) (h : H' p = some (.lst ys)) : Kinds H H' := by
  refine ⟨fun a zs ha => ?_, fun a zs ha => ?_⟩
  · by_cases ea : a = p
    · exact ⟨ys, ea ▸ h⟩
    · exact ⟨zs, e _ _ ha ea⟩
  · by_cases ea : a = p
    · rw [ea, h0] at ha
      cases ha
    · exact e _ _ ha ea
theorem Kinds.trans {H H1 H' : Hp} (a : Kinds H H1) (b : Kinds H1 H') : Kinds H H' := ⟨fun p xs h => by
  obtain ⟨ys, h1⟩ := a.1 p xs h
  exact b.1 p ys h1, fun p xs h => b.2 p xs (a.2 p xs h)⟩
theorem TxtV.kinds {H H' : Hp} {v : V} (h : TxtV H v) (e : Kinds H H') : TxtV H' v := h.imp id fun q => by
  cases q with
  | non => exact .non
  | int i => exact .int i
  | bl b => exact .bl b
  | lst q => obtain ⟨ys, h1⟩ := e.1 _ _ q; exact .lst h1
  | tup q => exact .tup (e.2 _ _ q)
end Bw

namespace Bw
open PySem PySem.Spec PyProof.Rows L2 LamX
/-! ### own exceptions: the handed value -/
abbrev MonoA (ta : TA) : Prop := ∀ σ H (Q Q' : List V → Hp → Prop), (∀ vs H, Q vs H → Q' vs H) → ta σ H Q → ta σ H Q'
theorem monoV {i : Nat} : MonoA (tCons (tVar i) tNil) := fun σ H Q Q' hq h => by
  obtain ⟨v, e, q⟩ := h
  exact ⟨v, e, hq _ _ q⟩
theorem monoF {K : PySem.W.Frag} {i : Nat} {f : Str} : MonoA (tCons (tFld K (tVar i) f) tNil) := fun σ H Q Q' hq h => by
  obtain ⟨v, e, a, C, dx, fs, u, h1, h2, h3, h4, h5, q⟩ := h
  exact ⟨v, e, a, C, dx, fs, u, h1, h2, h3, h4, h5, hq _ _ q⟩
section
variable {K : PySem.W.Frag} {H : Hp} {Q : VK} {σ : L2.St} {D : Ends}
theorem w_xmk {C : Addr} {f : Str} {dvs : List V} {ta : TA} {QX : XK} (h : ta σ H fun vs H1 => ∃ v, vs ++ dvs = [v] ∧ ∀ d H2, H1 d = none → Same H1 H2 → H2 d = some (.xd [(f, v)]) → QX (.ref C) (some d) H2) : tXmk C f dvs ta σ H QX := h
theorem w_xv {v : V} {R : V → Prop} (h : R v) : ∃ v', [v] ++ [] = [v'] ∧ R v' := ⟨v, rfl, h⟩
theorem w_xv0 {v : V} {R : V → Prop} (h : R v) : ∃ v', [] ++ [v] = [v'] ∧ R v' := ⟨v, rfl, h⟩
/-! ### augmented stores -/
theorem w_aug {i : Nat} {te : TE} {ti : TIp} {x : V} (hx : σ[i]? = some (some x)) (h : te σ H fun y H1 => ti x y H1 fun z H2 => D.nx (σ.set i (some z)) H2) : tAug i te ti D σ H := ⟨x, hx, h⟩
theorem w_ipI {f : Int → Int → Int} {i j : Int} (q : Q (.int (f i j)) H) : ipI f (.int i) (.int j) H Q := ⟨i, j, rfl, rfl, q⟩
theorem w_rAdd {i j : Int} (q : Q (.int (i + j)) H) : L2.rAdd (.int i) (.int j) H Q := ⟨i, j, rfl, rfl, q⟩
theorem w_faug {ta tv : TE} {rd : V → V → Hp → VK → Prop} {f : Str} (h : ta σ H fun x H1 => ∃ a C dx fs v, x = .ref a ∧ H1 a = some (.ins C dx fs) ∧ Cls K C ∧ NoAttr K C f ∧ fs.lookup f = some v ∧
  tv σ H1 fun y H2 => rd v y H2 fun z H3 => ∃ dx' fs', H3 a = some (.ins C dx' fs') ∧ fs'.length < 1000 ∧ D.nx σ (upd H3 a (.ins C dx' (putF f z fs')))) : sFldAug K ta tv rd f D σ H := h
theorem w_faug1 {a C dx : Addr} {fs : List (Str × V)} {f : Str} {v : V} {R : Addr → Addr → V → Prop} (ho : H a = some (.ins C dx fs)) (hc : Cls K C) (hn : NoAttr K C f) (hl : fs.lookup f = some v) (q : R a C v) :
    ∃ a' C dx fs v, V.ref a = .ref a' ∧ H a' = some (.ins C dx fs) ∧ Cls K C ∧ NoAttr K C f ∧ fs.lookup f = some v ∧ R a' C v := ⟨a, C, dx, fs, v, rfl, ho, hc, hn, hl, q⟩
theorem w_faug2 {a C dx : Addr} {fs : List (Str × V)} {R : Addr → List (Str × V) → Prop} (ho : H a = some (.ins C dx fs)) (hl : fs.length < 1000) (q : R dx fs) :
    ∃ dx' fs', H a = some (.ins C dx' fs') ∧ fs'.length < 1000 ∧ R dx' fs' := ⟨dx, fs, ho, hl, q⟩
theorem w_notInS {c : Nat} {z : Str} (q : Q (.bl (!decide (c ∈ z.cps.toList))) H) : rNotInS (.str ⟨#[c]⟩) (.str z) H Q := ⟨c, z, rfl, rfl, q⟩
end
section
variable {X : Cx}
theorem ip_addS : PIp X .Add Bw.rAddS := fun pins s σ H x y v u Q I rx ry h => iop_add_str pins s σ H x y v u Q I rx ry h
theorem iop_mulU : OpR X (inplaceOp .Mult) (rI CMulU fun i j => .int (i * j)) := opI fun _ _ _ _ _ _ _ hc q => imul_int q hc
theorem ip_mulU : PIp X .Mult (rI CMulU fun i j => .int (i * j)) := fun pins s σ H x y v u Q I rx ry h => iop_mulU pins s σ H x y v u Q I rx ry h
theorem ip_modU : PIp X .Mod (rI (fun _ j => 0 < j) fun i j => .int (i % j)) := fun pins s σ H x y v u Q I rx ry h => iop_mod pins s σ H x y v u Q I rx ry h
/-! ### divmod, str.index -/
def rDivmod : List V → Hp → VK → Prop := fun xs H Q => ∃ i j, xs = [.int i, .int j] ∧ CDivP i j ∧ ∀ p, H p = none → Q (.ref p) (upd H p (.tup [.int (i / j), .int (i % j)]))
theorem cl_divmod : CallR X (.builtin "divmod") rDivmod := call_divmodW
def rSIdx : V → List V → Hp → VK → Prop := fun x xs H Q => ∃ a b i rest, x = .str a ∧ xs = [.str b] ∧ Builtin.Str.occurrences a b 0 a.length 1 = i :: rest ∧ Q (.int (i : Nat)) H
theorem mt_sidx : MtR X "str.index" rSIdx := mt_sindex
end
section
variable {H : Hp} {Q : VK}
theorem w_divmod {i j : Int} (h0 : 0 < j) (hb : j.natAbs < 2 ^ 64) (k : ∀ p H2, H p = none → Same H H2 → H2 p = some (.tup [.int (i / j), .int (i % j)]) → Q (.ref p) H2) : rDivmod [.int i, .int j] H Q :=
  ⟨i, j, rfl, ⟨h0, PyProof.noPylong_of_log2 (Nat.lt_of_lt_of_le (PySem.Flt.log2_lt_of (by decide) hb) (by decide : 64 ≤ 9000))⟩, fun p n => k p _ n (same_new n) upd_same⟩
theorem w_sidx {a b : Str} {i : Nat} {rest : List Nat} (e : Builtin.Str.occurrences a b 0 a.length 1 = i :: rest) (q : Q (.int (i : Nat)) H) : rSIdx (.str a) [.str b] H Q := ⟨a, b, i, rest, rfl, rfl, e, q⟩
end
/-! ### any thing of the plain kinds -/
inductive Thg (H : Hp) : V → Prop
  | non : Thg H .non
  | int (i : Int) : Thg H (.int i)
  | bl (b : Bool) : Thg H (.bl b)
  | str (x : Str) : Thg H (.str x)
  | lst {a : Addr} {xs : List V} : H a = some (.lst xs) → Thg H (.ref a)
  | tup {a : Addr} {xs : List V} : H a = some (.tup xs) → Thg H (.ref a)
theorem Thg.ext {H H' : Hp} {v : V} (h : Thg H v) (e : ExtN H H') : Thg H' v := by
  cases h with
  | non => exact .non
  | int i => exact .int i
  | bl b => exact .bl b
  | str x => exact .str x
  | lst q => exact .lst (e _ _ q (fun _ z => by cases z))
  | tup q => exact .tup (e _ _ q (fun _ z => by cases z))
theorem Thg.same {H H' : Hp} {v : V} (h : Thg H v) (e : Same H H') : Thg H' v := h.ext (extn_same e)
theorem Thg.kinds {H H' : Hp} {v : V} (h : Thg H v) (e : Kinds H H') : Thg H' v := by
  cases h with
  | non => exact .non
  | int i => exact .int i
  | bl b => exact .bl b
  | str x => exact .str x
  | lst q => obtain ⟨ys, h1⟩ := e.1 _ _ q; exact .lst h1
  | tup q => exact .tup (e.2 _ _ q)
/-- no list -/
inductive NoL (H : Hp) : V → Prop
  | non : NoL H .non
  | int (i : Int) : NoL H (.int i)
  | bl (b : Bool) : NoL H (.bl b)
  | str (x : Str) : NoL H (.str x)
  | tup {a : Addr} {xs : List V} : H a = some (.tup xs) → NoL H (.ref a)
theorem NoL.ty {K : PySem.W.Frag} {H : Hp} {v : V} (h : NoL H v) : ∃ tv, TyX K H v (.type tv) ∧ kitB tv "list" = some false := by
  cases h with
  | non => exact ⟨_, tyx_non, kit_NoneType_list⟩
  | int i => exact ⟨_, tyx_int, kit_int_list⟩
  | bl b => exact ⟨_, tyx_bl, kit_bool_list⟩
  | str x => exact ⟨_, tyx_str, kit_str_list⟩
  | tup e => exact ⟨_, tyx_tup e, kit_tuple_list⟩
theorem NoL.ext {H H' : Hp} {v : V} (h : NoL H v) (e : ExtN H H') : NoL H' v := by
  cases h with
  | non => exact .non
  | int i => exact .int i
  | bl b => exact .bl b
  | str x => exact .str x
  | tup q => exact .tup (e _ _ q (fun _ z => by cases z))
theorem NoL.thg {H : Hp} {v : V} (h : NoL H v) : Thg H v := by
  cases h with
  | non => exact .non
  | int i => exact .int i
  | bl b => exact .bl b
  | str x => exact .str x
  | tup q => exact .tup q
/-- refused with C, the field is v -/
def Raz (E : XK) (H : Hp) (C : Addr) (v : V) : Prop := ∀ d H', H d = none → Same H H' → H' d = some (.xd [("at", v)]) → E (.ref C) (some d) H'
theorem Raz.same {E : XK} {H H1 : Hp} {C : Addr} {v : V} (h : Raz E H C v) (s : Same H H1) : Raz E H1 C v := fun d H' n s' e => h d H' (same_free s n) (s.trans s') e
theorem kb_newD {p q : Addr} {H H' : Hp} {o : HO} (k : KB p H H') (hp : H' p = some o) (n : H' q = none) : H q = none := by
  cases e : H q with
  | none => rfl
  | some u =>
    have ne : q ≠ p := fun z => by rw [z, hp] at n; cases n
    rw [k q u e ne] at n
    cases n
theorem kb2 {p D : Addr} {H H4 H5 : Hp} (a : KB p H H4) (b : KB D H4 H5) (n : H D = none) : KB p H H5 := fun c o h nc => b c o (a c o h nc) (ne_of_none h n)
/-! ### texts by their signs -/
theorem str_ext {x y : Str} (h : x.cps.toList = y.cps.toList) : x = y := by
  obtain ⟨⟨a⟩⟩ := x
  obtain ⟨⟨b⟩⟩ := y
  congr 2
theorem cps_append (x y : Str) : (x ++ y).cps.toList = x.cps.toList ++ y.cps.toList := TL.tl_append x y
def S (l : List Nat) : Str := ⟨l.toArray⟩
theorem cps_S (l : List Nat) : (S l).cps.toList = l := rfl
theorem len_S (l : List Nat) : (S l).length = l.length := by
  show l.toArray.size = l.length
  simp
theorem len_cps (x : Str) : x.cps.toList.length = x.length := Array.length_toList
/-! ### lists of ints -/
section
variable {K : PySem.W.Frag} {H : Hp}
theorem dpAll_int : ∀ bs : List Int, DpAll K H (bs.map V.int) (bs.map PyData.int)
  | [] => .nil
  | b :: r => .cons (.int b) (dpAll_int r)
theorem depth_int : ∀ bs : List Int, PyData.depthAll (bs.map PyData.int) = 0
  | [] => rfl
  | b :: r => by simp [PyData.depthAll, PyData.depth, depth_int r]
theorem lay_int : ∀ {bs : List Int}, PyData.canLayAll0 (bs.map PyData.int) = true
  | [] => by simp [PyData.canLayAll0]
  | b :: r => by simp [PyData.canLayAll0, PyData.canLay0, lay_int (bs := r)]
theorem shaped_int {bs : List Int} : SeqAt.shaped (.list (bs.map PyData.int)) = true := by
  simp [SeqAt.shaped, PyData.canLay0, lay_int, PyData.depth, depth_int]
theorem eqvAll_int : ∀ bs cs : List Int, PyData.eqvAll (bs.map PyData.int) (cs.map PyData.int) = decide (bs = cs)
  | [], [] => by simp [PyData.eqvAll]
  | [], c :: s => by simp [PyData.eqvAll]
  | b :: r, [] => by simp [PyData.eqvAll]
  | b :: r, c :: s => by
    simp only [List.map_cons, PyData.eqvAll, PyData.eqv, eqvAll_int r s, List.cons.injEq]
    by_cases h1 : b = c <;> by_cases h2 : r = s <;> simp [h1, h2]
theorem eqv_ints (bs cs : List Int) : PyData.eqv (.list (bs.map PyData.int)) (.list (cs.map PyData.int)) = decide (bs = cs) := by
  simp only [PyData.eqv, eqvAll_int]
end
end Bw

namespace Bw
open PySem PySem.Spec PyProof.Rows L2 LamX
abbrev selfAt : List Str := ["self", "at"]
/-- an own exception with the field at, from what K holds -/
theorem xcl_of {P : Program} {w : World} {K : PySem.W.Frag} {mg : Str → Option Value} {base : Heap} {x qual : Str} {C fI T : Addr} {st : Stmt} {oc ocT kV doc pm cd ct : Value} {od odT an : Option Addr} {sl slT : Array (Option Value)} {nT : Nat}
    (T0 : OexC K C) (no : PySem.W.findIn K (.ref C) "at" = some none) (hm : mg x = some (.ref C)) (iC : PySem.W.findIn K (.ref C) "__init__" = some (some (.ref fI))) (tI : PySem.W.typeIn K (.ref fI) = some (.type "function"))
    (l : K.lookup fI = some ⟨oc, od, .func (PySem.W.fnOf "__init__" qual (defArgs st) (defBody st) (defScope st) (.ref T) kV doc pm an cd ct), sl⟩) (hc : PySem.W.codeIn K cd qual = true) (kp : PySem.W.keepIn K (.ref fI) = true)
    (lT : K.lookup T = some ⟨ocT, odT, .seq (List.toArray [.none]) nT, slT⟩)
    (F0 : ∀ fd, FunD K "__init__" qual (defArgs st) (defBody st) (defScope st) [.non] [] fI fd → FnOk P w K mg base CX0 1 fI fd selfAt (spXi K "at"))
    (b0 : ∀ (T : Addr) (kV doc pm : Value) (an : Option Addr) (cdv ct : Value) (us its : List Value), us.length = 1 → its.length = 1 →
      ∃ k, bindArgs (PySem.W.fnOf "__init__" qual (defArgs st) (defBody st) (defScope st) (.ref T) kV doc pm an cdv ct) ⟨us, []⟩ = seqItems? (.ref T) >>= k ∧ k (some its.toArray) = pure (selfAt.zip (us ++ its.drop 0)))
    (b1 : ∀ (T : Addr) (kV doc pm : Value) (an : Option Addr) (cdv ct : Value) (us its : List Value), us.length = 2 → its.length = 1 →
      ∃ k, bindArgs (PySem.W.fnOf "__init__" qual (defArgs st) (defBody st) (defScope st) (.ref T) kV doc pm an cdv ct) ⟨us, []⟩ = seqItems? (.ref T) >>= k ∧ k (some its.toArray) = pure (selfAt.zip (us ++ its.drop 1))) :
    Xcl P w K mg base x C 1 "at" [.non] ∧ Xcl P w K mg base x C 1 "at" [] := by
  have F : FunD K "__init__" qual (defArgs st) (defBody st) (defScope st) [.non] [] fI _ := ⟨⟨_, _, _, _, _, _, _, _, _, _, rfl, l, hc, .inr ⟨by simp, _, _, _, _, rfl, lT, rfl, .cons rfl .nil⟩, .inl rfl⟩, kp⟩
  obtain ⟨d0, h0, e0⟩ := F.binds1 (ps := selfAt) 1 0 (by simp) rfl b0
  obtain ⟨d1, h1, e1⟩ := F.binds1 (ps := selfAt) 2 1 (by simp) rfl b1
  exact ⟨⟨T0, no, hm, fI, _, d0, _, iC, tI, F0 _ F, e0, h0⟩, ⟨T0, no, hm, fI, _, d1, _, iC, tI, F0 _ F, e1, h1⟩⟩
theorem oex_mk {K : PySem.W.Frag} {C : Addr} {nm q : Str} {N : Addr} {bs bm : List Value} {sn : List Str} {sub : List Value} {ab : Bool} {col : Option Bool} {dd : Option Addr} {k0 k1 k2 k3 k5 : Option Value}
    (l : K.lookup C = some (excClassObj nm q C N bs bm true sn sub ab col dd k0 k1 k2 k3 k5 "ValueError.__new__")) (r : PySem.HandSPX.refsVE bm = true) (sa : PySem.W.findIn K (.ref C) "__setattr__" = some (some (.builtin "object.__setattr__")))
    (exC : PySem.W.subIn K (.ref C) (.type "BaseException") = some true) (tyC : PySem.W.typeIn K (.ref C) = some (.type "type")) (kC : PySem.W.keepIn K (.ref C) = true) : OexC K C := ⟨⟨nm, q, N, bs, bm, sn, sub, ab, col, dd, k0, k1, k2, k3, k5, l, r⟩, sa, exC, tyC, kC⟩
/-! ### data that can be compared -/
structure GoodD (d : PyData) (n : Nat) : Prop where
  lay : PyData.canLay0 d = true
  dep : PyData.depth d ≤ n
  refl : PyData.eqv d d = true
theorem GoodD.shaped {d : PyData} {n : Nat} (h : GoodD d n) (hn : n ≤ 64) : SeqAt.shaped d = true := by
  unfold SeqAt.shaped
  rw [h.lay, decide_eq_true (Nat.le_trans h.dep hn)]
  rfl
theorem GoodD.mono {d : PyData} {n m : Nat} (h : GoodD d n) (l : n ≤ m) : GoodD d m := ⟨h.lay, Nat.le_trans h.dep l, h.refl⟩
theorem good_int {i : Int} {n : Nat} : GoodD (.int i) n := ⟨by simp [PyData.canLay0], by simp [PyData.depth], by simp [PyData.eqv]⟩
theorem good_bool {b : Bool} {n : Nat} : GoodD (.bool b) n := ⟨by simp [PyData.canLay0], by simp [PyData.depth], by simp [PyData.eqv]⟩
theorem good_none {n : Nat} : GoodD .none n := ⟨by simp [PyData.canLay0], by simp [PyData.depth], by simp [PyData.eqv]⟩
theorem good_str {x : Str} {n : Nat} (h : PyData.strOk x = true) : GoodD (.str x) n := ⟨by simp [PyData.canLay0, h], by simp [PyData.depth], by simp [PyData.eqv]⟩
theorem good_all {n : Nat} : ∀ {ds : List PyData}, (∀ d ∈ ds, GoodD d n) → PyData.canLayAll0 ds = true ∧ PyData.depthAll ds ≤ n ∧ PyData.eqvAll ds ds = true
  | [], _ => by simp [PyData.canLayAll0, PyData.depthAll, PyData.eqvAll]
  | d :: r, h => by
    obtain ⟨h1, h2, h3⟩ := good_all (ds := r) (fun x hx => h x (List.mem_cons_of_mem _ hx))
    have h0 := h d List.mem_cons_self
    refine ⟨by simp [PyData.canLayAll0, h0.lay, h1], ?_, by simp [PyData.eqvAll, h0.refl, h3]⟩
    have := h0.dep
    simp only [PyData.depthAll]
    omega
theorem good_list {n : Nat} {ds : List PyData} (h : ∀ d ∈ ds, GoodD d n) : GoodD (.list ds) (n + 1) := by
  obtain ⟨h1, h2, h3⟩ := good_all h
  exact ⟨by simp [PyData.canLay0, h1], by simp only [PyData.depth]; omega, by simp [PyData.eqv, h3]⟩
theorem good_tuple {n : Nat} {ds : List PyData} (h : ∀ d ∈ ds, GoodD d n) : GoodD (.tuple ds) (n + 1) := by
  obtain ⟨h1, h2, h3⟩ := good_all h
  exact ⟨by simp [PyData.canLay0, h1], by simp only [PyData.depth]; omega, by simp [PyData.eqv, h3]⟩
section
variable {K : PySem.W.Frag} {H : Hp} {Q : VK}
/-- one thing equals the like -/
theorem w_eqG {x y : V} {d : PyData} {n : Nat} (hx : Dp K H x d) (hy : Dp K H y d) (g : GoodD d n) (hn : n ≤ 64) (q : Q (.bl true) H) : rEqD K x y H Q := w_eqD hx hy (g.shaped hn) (g.shaped hn) g.refl q
theorem w_neG {x y : V} {d : PyData} {n : Nat} (hx : Dp K H x d) (hy : Dp K H y d) (g : GoodD d n) (hn : n ≤ 64) (q : Q (.bl false) H) : rNeD K x y H Q := w_neD hx hy (g.shaped hn) (g.shaped hn) g.refl q
theorem DpAll.append : ∀ {xs ys : List V} {ds es : List PyData}, DpAll K H xs ds → DpAll K H ys es → DpAll K H (xs ++ ys) (ds ++ es)
  | _, _, _, _, .nil, h => h
  | _, _, _, _, .cons h r, h2 => .cons h (DpAll.append r h2)
def nD (n : Nat) : PyData := .int n
theorem dpAll_nat {f : Nat → V} (hf : ∀ n, f n = .int n) : ∀ ns : List Nat, DpAll K H (ns.map f) (ns.map nD)
  | [] => .nil
  | n :: r => .cons (by rw [hf n]; exact .int _) (dpAll_nat hf r)
theorem good_nats (ns : List Nat) : ∀ d ∈ ns.map nD, GoodD d 0 := fun d hd => by
  obtain ⟨n, _, rfl⟩ := List.mem_map.mp hd
  exact good_int
theorem same_dp {H' : Hp} {v : V} {d : PyData} (s : Same H H') (h : Dp K H v d) : Dp K H' v d := Dp.extn (extn_same s) h
theorem same_dpAll {H' : Hp} {vs : List V} {ds : List PyData} (s : Same H H') (h : DpAll K H vs ds) : DpAll K H' vs ds := DpAll.extn (extn_same s) h
end
end Bw

namespace Bw
open PySem PySem.Spec PyProof.Rows L2 LamX
section
variable {K : PySem.W.Frag} {H : Hp} {Q : VK} {σ : L2.St}
theorem w_revE {te : TE} (h : te σ H fun x H1 => ∃ a xs, x = .ref a ∧ SqL K H1 a xs ∧ ∀ p, H1 p = none → Q (.ref p) (upd H1 p (.lst xs.reverse))) : tRevL K te σ H Q := h
theorem w_rev {a : Addr} {xs : List V} (h : SqL K H a xs) (k : ∀ p H2, H p = none → Same H H2 → H2 p = some (.lst xs.reverse) → Q (.ref p) H2) : ∃ a' xs, V.ref a = .ref a' ∧ SqL K H a' xs ∧ ∀ p, H p = none → Q (.ref p) (upd H p (.lst xs.reverse)) := ⟨a, xs, rfl, h, fun p n => k p _ n (same_new n) upd_same⟩
end
end Bw

namespace Bw
open PySem PySem.Spec PyProof.Rows L2 LamX
/-! ### d.setdefault(k, v); classes made by keywords -/
section
variable {H : Hp} {Q : VK} {σ : L2.St}
theorem w_dsetd {td ty tx : TE} (h : td σ H fun x H1 => ∃ a, x = .ref a ∧ IsD H1 a ∧ ty σ H1 fun y H2 => tx σ H2 fun z H3 => ∃ (kvs : List (Key × V)) (k : Key), H3 a = some (.dK kvs) ∧ y = kV k ∧ kvs.length < sizeLine ∧
  (∀ v, valV kvs k = some v → Q v H3) ∧ (valV kvs k = none → Q z (upd H3 a (.dK (putK kvs k z))))) : tDSetd td ty tx σ H Q := h
theorem w_dset1 {a : Addr} {kvs : List (Key × V)} {R : Addr → Prop} (h : H a = some (.dK kvs)) (q : R a) : ∃ a', V.ref a = .ref a' ∧ IsD H a' ∧ R a' := ⟨a, rfl, .inl ⟨kvs, .inl h⟩, q⟩
theorem w_dnewK (k : ∀ p H2, H p = none → Same H H2 → H2 p = some (.dK []) → Q (.ref p) H2) : tDNewK σ H Q := fun p n => k p _ n (same_new n) upd_same
end
def rRepS : R2 := fun x y H Q => ∃ z n, x = .str z ∧ y = .int n ∧ MulOk z n ∧ Q (.str (Txt.mul z n)) H
theorem op_repS {X : Cx} : OpR X (binaryOp .Mult) rRepS := by
  intro pins s σ H x y v u Q I rx ry h
  obtain ⟨i, j, rfl, rfl, hz, q⟩ := h
  obtain ⟨t, rfl⟩ := rx
  obtain ⟨t', rfl⟩ := ry
  exact SB.mul hz fun t' tk => ⟨.str _, H, I.tok _, ⟨_, rfl⟩, q⟩
theorem w_repS {z : Str} {n : Int} {H : Hp} {Q : VK} (h : MulOk z n) (q : Q (.str (Txt.mul z n)) H) : rRepS (.str z) (.int n) H Q := ⟨z, n, rfl, rfl, h, q⟩
theorem ip_fdivU {X : Cx} : PIp X .FloorDiv (rI CDiv fun i j => .int (i / j)) := fun pins s σ H x y v u Q I rx ry h => iop_fdiv pins s σ H x y v u Q I rx ry h
theorem w_fdivI {i j : Int} {H : Hp} {Q : VK} (h : CDiv i j) (q : Q (.int (i / j)) H) : rI CDiv (fun i j => .int (i / j)) (.int i) (.int j) H Q := ⟨i, j, rfl, rfl, h, q⟩
structure MkrXK (P : Program) (w : World) (K : PySem.W.Frag) (mg : Str → Option Value) (base : Heap) (x : Str) (C : Addr) (k : Nat) (ps : List Str) (ks : List Str) (gV : List V → List V → List V) (sp : Sp) : Prop where
  ex : ∃ (f : Addr) (fd : FuncData) (g : List Value → List Value → List Value), Mk K C f ∧ FnOk P w K mg base (L2.CX P w) k f fd ps sp ∧ mg x = some (.ref C) ∧ KBn K fd ps 1 ks g gV
section
variable {X : Cx}
theorem pe_mkxk {E : XK} {x : Str} {C : Addr} {k : Nat} {ps ks : List Str} {gV : List V → List V → List V} {sp : Sp} {kws : List Keyword} {tk : TA} {p pos : Pos} (M : MkrXK X.prog X.w X.K X.mg X.base x C k ps ks gV sp) (hx : Lets X E) (hr : Room (k + 1) X.A) (hg : Gl X x) (hkw : PK X kws tk)
    (hall : (backToKw pos (keywordEach kws X.env)).all (·.1.isSome) = true := by rfl) (hks : (backToKw pos (keywordEach kws X.env)).filterMap (·.1) = ks := by rfl) (hdb : (x == ("__debug__" : Str)) = false := by decide)
    (hpl : ((backTo pos (starEach [] X.env)).any (·.1) || (backToKw pos (keywordEach kws X.env)).any (·.1.isNone)) = false := by rfl) :
    PE X (.Call (.Name x p) [] kws pos) (tMakeK C 0 ks.length sp gV E tNil tk) := by
  obtain ⟨f, fd, g, M, G, hm, hb⟩ := M.ex
  exact pe_makeK0 M G hr hg hm hb hx hkw hall hks hdb hpl
end
end Bw

namespace Bw
open PySem PySem.Spec PyProof.Rows L2 LamX
/-! ### rpartition, zfill, count, int(x, 16), pop; defs with defaults, called by keywords -/
section
variable {X : Cx}
def rRpart : V → List V → Hp → VK → Prop := fun x xs H Q => ∃ a b, x = .str a ∧ xs = [.str b] ∧ (b.length == 0) = false ∧ a.length ≤ sizeLine ∧
    ∀ p, H p = none → Q (.ref p) (upd H p (.tup [.str (Txt.rpartition a b).1, .str (Txt.rpartition a b).2.1, .str (Txt.rpartition a b).2.2]))
theorem mt_rpartition : MtR X "str.rpartition" rRpart := by
  intro pins s σ H x xs v us Q I rx rs h
  obtain ⟨a, b, rfl, rfl, hb, hz, h⟩ := h
  obtain ⟨t, rfl⟩ := rx
  cases rs with
  | cons r1 rs =>
    cases rs
    obtain ⟨u, rfl⟩ := r1
    refine call_meets F.slot_str_rpartition (typeIs_str _ _ _) F.entry_str_rpartition (F.args_str_rpartition_2 _ _) (meets_str_rpartition a b t u hb hz) ?_
    unfold Txt.rpartition at h
    revert h
    cases Builtin.Str.lastOccurrence a b 0 a.length with
    | none => intro h; exact laid_parts I h
    | some i => intro h; exact laid_parts I h
def rCountS : V → List V → Hp → VK → Prop := fun x xs H Q => ∃ a b, x = .str a ∧ xs = [.str b] ∧ Q (.int (Txt.count a b)) H
theorem mt_countS : MtR X "str.count" rCountS := mt_count
def rZfill : V → List V → Hp → VK → Prop := fun x xs H Q => ∃ (a : Str) (i : Int), x = .str a ∧ xs = [.int i] ∧ PadOk i = true ∧ Q (.str (Txt.zfill a i)) H
theorem mt_zfillS : MtR X "str.zfill" rZfill := mt_zfill
theorem cl_intHex : CallR X (.type "int") rIntHex := call_int_hex
end
section
variable {K : PySem.W.Frag} {H : Hp} {Q : VK}
theorem w_rpart {x y : Str} (hy : (y.length == 0) = false) (hx : x.length ≤ sizeLine) (k : ∀ p H2, H p = none → Same H H2 → H2 p = some (.tup [.str (Txt.rpartition x y).1, .str (Txt.rpartition x y).2.1, .str (Txt.rpartition x y).2.2]) → Q (.ref p) H2) : rRpart (.str x) [.str y] H Q :=
  ⟨x, y, rfl, rfl, hy, hx, fun p n => k p _ n (same_new n) upd_same⟩
theorem w_countS {x y : Str} (q : Q (.int (Txt.count x y)) H) : rCountS (.str x) [.str y] H Q := ⟨x, y, rfl, rfl, q⟩
theorem w_zfill {x : Str} {i : Int} (h : PadOk i = true) (q : Q (.str (Txt.zfill x i)) H) : rZfill (.str x) [.int i] H Q := ⟨x, i, rfl, rfl, h, q⟩
theorem w_intHex {l : List Nat} (h0 : l ≠ []) (hl : l.length ≤ 640) (hx : ∀ c ∈ l, Hx.IsHex c) (q : Q (.int ((Hx.hexNum l : Nat) : Int)) H) : rIntHex [.str (S l), .int 16] H Q := ⟨l, rfl, h0, hl, hx, q⟩
theorem w_pop {l : Addr} {xs : List V} {y : V} (h : H l = some (.lst xs)) (hy : xs[xs.length - 1]? = some y) (k : ∀ H2, KB l H H2 → H2 l = some (.lst xs.dropLast) → Q y H2) : rPop (.ref l) [] H Q := ⟨l, xs, y, rfl, rfl, h, hy, k _ kb_upd upd_same⟩
theorem w_reverse {l : Addr} {xs : List V} (h : H l = some (.lst xs)) (k : ∀ H2, KB l H H2 → H2 l = some (.lst xs.reverse) → Q .non H2) : rReverse (.ref l) [] H Q := ⟨l, xs, rfl, rfl, h, k _ kb_upd upd_same⟩
/-- str(a number) -/
theorem w_strI {i : Int} (h : i.natAbs < 2 ^ 1919) (q : Q (.str (toString i)) H) : rStrI [.int i] H Q := ⟨i, rfl, PySem.Flt.log2_lt_of (by decide) (Nat.lt_of_lt_of_le h (Nat.pow_le_pow_right (by decide) (by decide))), q⟩
end
/-! ### rpartition by one sign -/
theorem at_one {x : Str} {c : Nat} {i : Nat} : StrLaws.At x ⟨#[c]⟩ x.length i ↔ x.cps.toList[i]? = some c := by
  rw [TL.at_iff (y := ⟨#[c]⟩) (by show ([c] : List Nat) ≠ []; simp)]
  show ((x.cps.toList.drop i).take 1 == [c]) = true ↔ _
  rw [beq_iff_eq]
  rcases Nat.lt_or_ge i x.cps.toList.length with h | h
  · rw [List.drop_eq_getElem_cons h, List.getElem?_eq_getElem h]
    simp
  · rw [List.drop_eq_nil_of_le h, List.getElem?_eq_none h]
    simp
theorem rpart_app {a b : List Nat} {c : Nat} (h : c ∉ b) : Txt.rpartition (S (a ++ c :: b)) ⟨#[c]⟩ = (S a, ⟨#[c]⟩, S b) := by
  have hA : ∀ k, a.length < k → ¬ StrLaws.At (S (a ++ c :: b)) ⟨#[c]⟩ (S (a ++ c :: b)).length k := fun k hk z => by
    rw [at_one, cps_S, List.getElem?_append_right (Nat.le_of_lt hk)] at z
    obtain ⟨m, hm⟩ : ∃ m, k - a.length = m + 1 := ⟨k - a.length - 1, by omega⟩
    rw [hm, List.getElem?_cons_succ] at z
    exact h (List.mem_of_getElem? z)
  have hB : StrLaws.At (S (a ++ c :: b)) ⟨#[c]⟩ (S (a ++ c :: b)).length a.length := by
    rw [at_one, cps_S]
    simp
  unfold Txt.rpartition
  rcases StrLaws.last_spec (S (a ++ c :: b)) ⟨#[c]⟩ with ⟨_, hn⟩ | ⟨i, e, hi, hn⟩
  · exact absurd hB (hn _)
  · have hia : i = a.length := by
      rcases Nat.lt_trichotomy i a.length with h1 | h1 | h1
      · exact absurd hB (hn _ h1)
      · exact h1
      · exact absurd hi (hA _ h1)
    subst hia
    rw [e]
    have e1 : Builtin.Str.strSub (S (a ++ c :: b)) 0 a.length = S a := str_ext (by
      show TL.tl _ = _
      rw [TL.tl_strSub]
      show ((a ++ c :: b).drop 0).take _ = a
      simp)
    have e2 : Builtin.Str.strSub (S (a ++ c :: b)) (a.length + 1) (S (a ++ c :: b)).length = S b := str_ext (by
      show TL.tl _ = _
      rw [TL.tl_strSub_end]
      show (a ++ c :: b).drop _ = b
      simp)
    show (_, _, Builtin.Str.strSub (S (a ++ c :: b)) (a.length + 1) (S (a ++ c :: b)).length) = _
    rw [e1, e2]
theorem rpart_none {a : List Nat} {c : Nat} (h : c ∉ a) : Txt.rpartition (S a) ⟨#[c]⟩ = (Str.empty, Str.empty, S a) := by
  unfold Txt.rpartition
  rcases StrLaws.last_spec (S a) ⟨#[c]⟩ with ⟨e, hn⟩ | ⟨i, e, hi, hn⟩
  · rw [e]
  · rw [at_one, cps_S] at hi
    exact absurd (List.mem_of_getElem? hi) h
theorem cnt_ge (c : Nat) : ∀ l : List Nat, 0 ≤ cnt c l
  | [] => Int.le_refl 0
  | n :: r => by
    rw [cnt_cons]
    have := cnt_ge c r
    split <;> omega
theorem cnt_mem {c : Nat} : ∀ {l : List Nat}, c ∈ l → 0 < cnt c l
  | n :: r, h => by
    rw [cnt_cons]
    have := cnt_ge c r
    rcases List.mem_cons.mp h with e | h
    · rw [if_pos e.symm]
      omega
    · have := cnt_mem h
      split <;> omega
/-! ### defs with defaults -/
/-- called by places: dvs are what is told by default behind them -/
structure FnD (P : Program) (w : World) (K : PySem.W.Frag) (mg : Str → Option Value) (base : Heap) (CX : CXT) (x : Str) (k : Nat) (ps : List Str) (dvs : List V) (sp : Sp) : Prop where
  ex : ∃ (f : Addr) (fd : FuncData) (ds : List Value), FnOk P w K mg base CX k f fd ps sp ∧ mg x = some (.ref f) ∧ PySem.W.keepIn K (.ref f) = true ∧ Binds K fd ps ds ∧ Vals dvs ds
/-- n by places, the others by the names ks -/
structure FnK (P : Program) (w : World) (K : PySem.W.Frag) (mg : Str → Option Value) (base : Heap) (CX : CXT) (x : Str) (k : Nat) (ps : List Str) (n : Nat) (ks : List Str) (gV : List V → List V → List V) (sp : Sp) : Prop where
  ex : ∃ (f : Addr) (fd : FuncData) (g : List Value → List Value → List Value), FnOk P w K mg base CX k f fd ps sp ∧ mg x = some (.ref f) ∧ PySem.W.keepIn K (.ref f) = true ∧ KBn K fd ps n ks g gV
section
variable {X : Cx}
theorem pe_fnd {CX : CXT} {E : XK} {x : Str} {k : Nat} {ps : List Str} {dvs : List V} {sp : Sp} {e : Expr} {es : List Expr} {t : TA} {p pos : Pos} (F : FnD X.prog X.w X.K X.mg X.base CX x k ps dvs sp) (hx : Passes CX X E) (hr : Room k X.A) (hg : Gl X x) (ha : PA X (e :: es) t)
    (hdb : (x == ("__debug__" : Str)) = false := by decide) (he : starEach (e :: es) X.env = (false, eval e X.env) :: starEach es X.env := by rfl) (hpl : (backTo pos (starEach es X.env)).any (·.1) = false := by rfl) :
    PE X (.Call (.Name x p) (e :: es) [] pos) (tCall sp dvs E t) := by
  obtain ⟨f, fd, ds, G, hm, hk, hb, hd⟩ := F.ex
  exact pe_call G hr hg hm hk hb hd hx ha hdb he hpl
theorem pe_fnk {CX : CXT} {E : XK} {x : Str} {k n : Nat} {ps ks : List Str} {gV : List V → List V → List V} {sp : Sp} {e : Expr} {es : List Expr} {kws : List Keyword} {t tk : TA} {p pos : Pos} (F : FnK X.prog X.w X.K X.mg X.base CX x k ps n ks gV sp) (hx : Passes CX X E) (hr : Room k X.A) (hg : Gl X x) (ha : PA X (e :: es) t) (hkw : PK X kws tk)
    (hall : (backToKw pos (keywordEach kws X.env)).all (·.1.isSome) = true := by rfl) (hks : (backToKw pos (keywordEach kws X.env)).filterMap (·.1) = ks := by rfl)
    (hdb : (x == ("__debug__" : Str)) = false := by decide) (he : starEach (e :: es) X.env = (false, eval e X.env) :: starEach es X.env := by rfl)
    (hpl : ((backTo pos (starEach (e :: es) X.env)).any (·.1) || (backToKw pos (keywordEach kws X.env)).any (·.1.isNone)) = false := by rfl) :
    PE X (.Call (.Name x p) (e :: es) kws pos) (tCallN n ks.length sp gV E t tk) := by
  obtain ⟨f, fd, g, G, hm, hk, hb⟩ := F.ex
  exact pe_callN G hr hg hm hk hb hx ha hkw hall hks hdb he hpl
end
section
variable {σ : L2.St} {H : Hp} {Q : VK}
theorem w_callD {sp : Sp} {dvs : List V} {tA : TA} {E : XK} (h : tA σ H fun vs H1 => sp (vs ++ dvs) H1 Q E) : tCall sp dvs E tA σ H Q := h
theorem w_callN {n m : Nat} {sp : Sp} {gV : List V → List V → List V} {E : XK} {t tk : TA} (h : t σ H fun vs H1 => tk σ H1 fun zs H2 => vs.length = n ∧ zs.length = m ∧ sp (gV vs zs) H2 Q E) : tCallN n m sp gV E t tk σ H Q := h
theorem w_nlen {xs ys : List V} {n m : Nat} {R : Prop} (h1 : xs.length = n) (h2 : ys.length = m) (q : R) : xs.length = n ∧ ys.length = m ∧ R := ⟨h1, h2, q⟩
end
end Bw

namespace Bw
open PySem PySem.Spec PyProof.Rows L2 LamX
/-! ### texts of whole files, plainly -/
theorem strOk_of {x : Str} (h : ∀ c ∈ x.cps.toList, c < 1114112) : PyData.strOk x = true := by
  unfold PyData.strOk
  rw [Array.all_eq_true']
  intro c hc
  exact decide_eq_true (h c (Array.mem_toList_iff.mpr hc))
/-- four figures -/
def zf (n : Nat) : List Nat := List.replicate (4 - (TL.numL n).length) 48 ++ TL.numL n
theorem num_S (n : Nat) : (Str.ofString (toString ((n : Nat) : Int))) = S (TL.numL n) := str_ext (TL.tl_num n)
theorem numL_len4 {n : Nat} (h : n ≤ 9999) : (TL.numL n).length ≤ 4 := TL.numL_len (by decide) (by omega)
theorem zf_len {n : Nat} (h : n ≤ 9999) : (zf n).length = 4 := by
  have := numL_len4 h
  unfold zf
  rw [List.length_append, List.length_replicate]
  omega
theorem zf_dig {n : Nat} : ∀ c ∈ zf n, 48 ≤ c ∧ c ≤ 57 := fun c hc => by
  unfold zf at hc
  rcases List.mem_append.mp hc with h | h
  · have := (List.mem_replicate.mp h).2
    omega
  · have := TL.numL_digits n c h
    omega
theorem zfill_num {n : Nat} : Txt.zfill (S (TL.numL n)) 4 = S (zf n) := by
  unfold Txt.zfill
  rw [len_S]
  split
  · rename_i h
    unfold zf
    rw [show 4 - (TL.numL n).length = 0 by omega]
    rfl
  · rename_i h
    unfold zfilled
    have key : Builtin.Str.padded (S (TL.numL n)) ((4 : Int).toNat - (TL.numL n).length) 0 48 = S (zf n) := str_ext (by
      show (Array.replicate _ 48 ++ (TL.numL n).toArray ++ Array.replicate 0 48).toList = zf n
      unfold zf
      simp)
    have hne := TL.numL_ne n
    have hd := TL.numL_digits n
    generalize hl : TL.numL n = l at *
    cases l with
    | nil => exact absurd rfl hne
    | cons c r =>
      have hc := hd c List.mem_cons_self
      have e : (S (c :: r)).cps[0]? = some c := rfl
      rw [e]
      split
      · rename_i z
        cases z
        exact absurd hc (by decide)
      · rename_i z
        cases z
        exact absurd hc (by decide)
      · exact key
theorem mul_zero_ok {n : Int} (h : n ≤ 4) (h0 : -10 ≤ n) : MulOk "0" n := by
  have e : ("0" : Str).length = 1 := rfl
  have hn : n = -10 ∨ n = -9 ∨ n = -8 ∨ n = -7 ∨ n = -6 ∨ n = -5 ∨ n = -4 ∨ n = -3 ∨ n = -2 ∨ n = -1 ∨ n = 0 ∨ n = 1 ∨ n = 2 ∨ n = 3 ∨ n = 4 := by omega
  rcases hn with rfl | rfl | rfl | rfl | rfl | rfl | rfl | rfl | rfl | rfl | rfl | rfl | rfl | rfl | rfl <;> (unfold MulOk; decide +kernel)
theorem mul_zero {k : Nat} (h : k ≤ 4) : Txt.mul "0" (k : Int) = S (List.replicate k 48) := by
  have hk : k = 0 ∨ k = 1 ∨ k = 2 ∨ k = 3 ∨ k = 4 := by omega
  rcases hk with rfl | rfl | rfl | rfl | rfl <;> decide +kernel
/-- rows with their ends -/
def sgn (rows : List Str) : List Nat := (rows.map fun r => r.cps.toList ++ [10]).flatten
theorem join_lines (h : Str) : ∀ rows : List Str, (Str.join ("\n" : Str) (h :: rows)).cps.toList ++ [10] = h.cps.toList ++ [10] ++ sgn rows
  | [] => by
    show h.cps.toList ++ [10] = _
    simp [sgn]
  | r :: rs => by
    have e : (Str.join ("\n" : Str) (h :: r :: rs)) = h ++ ("\n" : Str) ++ Str.join ("\n" : Str) (r :: rs) := rfl
    rw [e, cps_append, cps_append, List.append_assoc, join_lines r rs]
    have e2 : ("\n" : Str).cps.toList = [10] := rfl
    rw [e2]
    simp [sgn]
theorem sgn_len {rows : List Str} {m : Nat} (h : ∀ r ∈ rows, r.length ≤ m) : (sgn rows).length ≤ rows.length * (m + 1) := by
  induction rows with
  | nil => simp [sgn]
  | cons r rs ih =>
    have h1 := ih (fun x hx => h x (List.mem_cons_of_mem _ hx))
    have h2 := h r List.mem_cons_self
    have e : sgn (r :: rs) = r.cps.toList ++ [10] ++ sgn rs := by simp [sgn]
    rw [e, List.length_append, List.length_append, len_cps, List.length_cons (a := r), Nat.add_mul]
    simp
    omega
/-- signs ended by line feeds, split -/
theorem split_lines {hd : List Nat} {rows : List Str} (h0 : 10 ∉ hd) (hr : ∀ r ∈ rows, 10 ∉ r.cps.toList) : Txt.split (S (hd ++ [10] ++ sgn rows)) "\n" = S hd :: (rows ++ [("" : Str)]) := by
  have e : S (hd ++ [10] ++ sgn rows) = Txt.join ("\n" : Str) (S hd :: (rows ++ [("" : Str)])) := by
    refine str_ext ?_
    rw [txt_join, cps_S]
    have h1 : ∀ (a : Str) (rs : List Str), (Str.join ("\n" : Str) (a :: (rs ++ [("" : Str)]))).cps.toList = a.cps.toList ++ [10] ++ sgn rs := by
      intro a rs
      induction rs generalizing a with
      | nil =>
        show (a ++ ("\n" : Str) ++ ("" : Str)).cps.toList = _
        rw [cps_append, cps_append]
        show a.cps.toList ++ [10] ++ [] = _
        simp [sgn]
      | cons r rs ih =>
        show (a ++ ("\n" : Str) ++ Str.join ("\n" : Str) (r :: (rs ++ [("" : Str)]))).cps.toList = _
        rw [cps_append, cps_append, ih r]
        show a.cps.toList ++ [10] ++ _ = _
        simp [sgn]
    rw [h1]
    rfl
  rw [e]
  refine TL.split_join (s := 10) (S := []) rfl (by decide +kernel) (by simp) (fun p hp z => ?_)
  rcases List.mem_cons.mp hp with rfl | hp
  · exact h0 z
  · rcases List.mem_append.mp hp with hp | hp
    · exact hr p hp z
    · rw [List.mem_singleton.mp hp] at z
      exact absurd z (by show ¬ 10 ∈ ([] : List Nat); simp)
theorem sum_le {c : Nat} : ∀ {l : List Nat}, (∀ x ∈ l, x ≤ c) → l.sum ≤ l.length * c
  | [], _ => by simp
  | y :: r, h => by
    have h1 := h y List.mem_cons_self
    have h2 := sum_le (l := r) (fun x hx => h x (List.mem_cons_of_mem _ hx))
    simp only [List.sum_cons, List.length_cons, Nat.add_mul, Nat.one_mul]
    omega
theorem join_empty : ∀ rows : List Str, (Str.join ("" : Str) rows).cps.toList = (rows.map fun r => r.cps.toList).flatten
  | [] => rfl
  | [r] => by show r.cps.toList = _; simp
  | r :: s :: rs => by
    show (r ++ ("" : Str) ++ Str.join ("" : Str) (s :: rs)).cps.toList = _
    rw [cps_append, cps_append, join_empty (s :: rs)]
    show r.cps.toList ++ [] ++ _ = _
    simp
theorem sum_ones : ∀ cs : List Nat, ((cs.map fun c => (⟨#[c]⟩ : Str)).map (·.length)).sum = cs.length
  | [] => rfl
  | c :: r => by
    rw [List.map_cons, List.map_cons, List.sum_cons, sum_ones r, List.length_cons]
    show 1 + _ = _
    omega
theorem join_ones (cs : List Nat) : (Txt.join "" (cs.map fun c => (⟨#[c]⟩ : Str))).cps.toList = cs := by
  rw [txt_join, join_empty, List.map_map]
  induction cs with
  | nil => rfl
  | cons c r ih =>
    rw [List.map_cons, List.flatten_cons, ih]
    rfl
end Bw

namespace Bw
open PySem PySem.Spec PyProof.Rows L2 LamX
/-! ### x == y by an own __eq__ that lets nothing out -/
structure EqO (P : Program) (w : World) (K : PySem.W.Frag) (mg : Str → Option Value) (base : Heap) (C : Addr) (k : Nat) (ps : List Str) (sp : Sp) : Prop where
  ex : ∃ (f : Addr) (fd : FuncData), FnOk P w K mg base CX0 k f fd ps sp ∧ PySem.W.findIn K (.ref C) "__eq__" = some (some (.ref f)) ∧ PySem.W.isFn K (.ref f) = true ∧ Binds K fd ps []
/-- what may stand on the other side -/
inductive Side (K : PySem.W.Frag) (H : Hp) (C : Addr) : V → Prop
  | int (i : Int) : PySem.W.notFirst K C (.type "int") = true → Side K H C (.int i)
  | bl (b : Bool) : PySem.W.notFirst K C (.type "bool") = true → Side K H C (.bl b)
  | str (x : Str) : PySem.W.notFirst K C (.type "str") = true → Side K H C (.str x)
  | non : PySem.W.notFirst K C (.type "NoneType") = true → Side K H C .non
  | lst {a : Addr} {xs : List V} : H a = some (.lst xs) → PySem.W.notFirst K C (.type "list") = true → Side K H C (.ref a)
  | tup {a : Addr} {xs : List V} : H a = some (.tup xs) → PySem.W.notFirst K C (.type "tuple") = true → Side K H C (.ref a)
  | own {a dx : Addr} {fs : List (Str × V)} : H a = some (.ins C dx fs) → Side K H C (.ref a)
section
variable {X : Cx}
theorem side_looks {pins : List (Addr × Obj)} {σ : L2.St} {H : Hp} {s : Shared} {C : Addr} {y : V} {u : Value} (I : L2.Inv X pins σ H s) (r : RelV y u) (d : Side X.K H C y) : ∃ tb, PySem.W.Looks (model X.prog X.w) s.heap (typeOf u) tb ∧ PySem.W.notFirst X.K C tb = true := by
  cases d with
  | int i h => obtain ⟨t, rfl⟩ := r; exact ⟨_, PySem.W.Looks.of_pure rfl, h⟩
  | bl b h => cases r; exact ⟨_, PySem.W.Looks.of_pure rfl, h⟩
  | str x h => obtain ⟨t, rfl⟩ := r; exact ⟨_, PySem.W.Looks.of_pure rfl, h⟩
  | non h => cases r; exact ⟨_, PySem.W.Looks.of_pure rfl, h⟩
  | @lst a xs ea h =>
    cases (show u = Value.ref a from r)
    obtain ⟨_, _, n, _, h1⟩ := (show ObjOk X.prog X.w H s.heap a (.lst xs) from I.hok a _ ea)
    exact ⟨.type "list", fun A Q E s k q => wpAny_typeOf_ref (k _ _ h1) q, h⟩
  | @tup a xs ea h =>
    cases (show u = Value.ref a from r)
    obtain ⟨_, _, _, o, h1, h2, _⟩ := (show ObjOk X.prog X.w H s.heap a (.tup xs) from I.hok a _ ea)
    exact ⟨.type "tuple", fun A Q E s k q => wpAny_typeOf_ref (k _ _ h1) (h2 ▸ q), h⟩
  | @own a dx fs ea =>
    cases (show u = Value.ref a from r)
    obtain ⟨mB, J', _⟩ := ins_get I.hok ea
    obtain ⟨od', J', _⟩ := J'.look
    exact ⟨_, J'.type, by simp [PySem.W.notFirst]⟩
def rEqO (K : PySem.W.Frag) (C : Addr) (sp : Sp) : R2 := fun x y H Q => ∃ a dx fs, x = .ref a ∧ H a = some (.ins C dx fs) ∧ Side K H C y ∧ sp [x, y] H (fun v H' => (∃ b, v = .bl b) ∧ Q v H') C8.E0
theorem op_eqO {C : Addr} {k : Nat} {ps : List Str} {sp : Sp} (O : EqO X.prog X.w X.K X.mg X.base C k ps sp) (hr : Room k X.A) : OpR X (compareOp .Eq) (rEqO X.K C sp) := by
  intro pins s σ H x y v u Q I rx ry h
  obtain ⟨a, dx, fs, rfl, ha, hy, hsp⟩ := h
  obtain ⟨f, fd, F, hs, hf, hb⟩ := O.ex
  cases rx
  obtain ⟨tb, lk, nf⟩ := side_looks I ry hy
  obtain ⟨mA, J, _⟩ := ins_get I.hok ha
  obtain ⟨od, J, _⟩ := J.look
  obtain ⟨m, hF⟩ := I.fr
  show wpAny (model X.prog X.w) X.A (richCompare .Eq (.ref a) u) (EP X pins σ Q) X.xe s
  refine PySem.W.cmp_K (op := .Eq) hr.units0 hF I.ok.mod.kin J lk nf hs hf ?_
  have hl := F.len _ _ _ _ hsp
  have r2 : Vals [V.ref a, y] [Value.ref a, u] := .cons rfl (.cons ry .nil)
  refine wpAny_call (codeAny_mono (F.run X.A X.stack s H ⟨[.ref a, u], []⟩ [.ref a, u] [.ref a, y] _ _ hr I.env0 (by
    have := hb s [.ref a, u] I.kIn (by simpa using hl)
    simpa using this) r2 hsp) fun r s' hq => ?_)
  cases r with
  | error e => exact pass0 pins σ H s e s' I hq
  | ok fl =>
    cases fl with
    | ret w =>
      obtain ⟨z, H', I', rz, ⟨b, ez⟩, q⟩ := I.after hq
      subst ez
      cases rz
      exact ⟨.bl b, H', I', rfl, q⟩
    | next => exact False.elim hq
    | brk => exact False.elim hq
    | cont => exact False.elim hq
end
end Bw

namespace Bw
open PySem PySem.Spec PyProof.Rows L2 LamX
open PySem.W (Frag findIn subIn looks_findIn looks_subIn)
section
variable {prog : Program} {w : World} {A : Around} {E : Value → Shared → Prop} {s : Shared} {K : Frag} {x C : Addr} {ox : Obj} {od : Option Obj} {b tb : Value}
theorem ifBound_B {M : Model} {args : List Value} {name : Str} {id B : String} {Q : Option Value → Shared → Prop} (X : K.In s.heap) (I : PySem.W.InstAt s.heap x ox C od) (hs : findIn K (.ref C) name = some (some (.builtin id))) (S : Slot B name id)
    (h : wpAny M A (call (.builtin id) (.ref x :: args)) (fun v => Q (some v)) E s) : wpAny M A (callSpecialIfBound? (.ref x) name args) Q E s := by
  simp only [callSpecialIfBound?, bindSpecialIfBound?]
  refine wpAny_holding (wpAny_bind (wpAny_bind (wpAny_bind (I.type.here ((looks_findIn X hs).here ?_)))))
  simp only [S.bind]
  refine wpAny_bind (wpAny_askSetting (wpAny_ite ?_))
  have fin : wpAny M A (call (.builtin id) ([.ref x] ++ args) >>= fun v => pure (some v)) Q E s := wpAny_bind (wpAny_mono h (fun v s' h' => wpAny_pure h') fun _ _ h' => h')
  split
  · exact wpAny_bind (wpAny_pure (wpAny_pure fin))
  · exact wpAny_tryCatch (wpAny_bind (wpAny_pure (wpAny_pure fin)))
theorem check_B {M : Model} {id owner n : String} {rest : List Value} {Q : Unit → Shared → Prop} (X : K.In s.heap) (I : PySem.W.InstAt s.heap x ox C od) (hk : builtinKind id = some .slot) (hs : splitId id = some (owner, n))
    (ha : argsOk id ⟨.ref x :: rest, []⟩) (hso : subIn K (.ref C) (.type owner) = some true) (hq : Q () s) :
    wpAny M A (checkBuiltinCall id ⟨.ref x :: rest, []⟩) Q E s := by
  simp only [checkBuiltinCall, hk, hs]
  refine wpAny_bind ?_
  unfold isInstance
  refine wpAny_bind (I.type.here ?_)
  refine (looks_subIn X hso).here ?_
  cases hsig : Manifest.signature? id with
  | none => exact wpAny_pure hq
  | some sig =>
    simp only [argsOk, hsig] at ha
    have h2 : Bind.checkArgs id sig ⟨.ref x :: rest, []⟩ = pure () := ha
    show wpAny M A (Bind.checkArgs id sig ⟨.ref x :: rest, []⟩) Q E _
    rw [h2]
    exact wpAny_pure hq
/-- x != y by an own __eq__ -/
theorem ne_entry {Q : Fin → Shared → Prop} {f : Addr} (hu : A.units < cLine) (X : K.In s.heap) (I : PySem.W.InstAt s.heap x ox C od) (hs : findIn K (.ref C) "__eq__" = some (some (.ref f))) (hf : PySem.W.isFn K (.ref f) = true)
    (h : wpAny (model prog w) A (call (.ref f) [.ref x, b]) (fun v s' => ∃ k, v = .bool k ∧ Q (.done (.ret (.bool (!k)))) s') E s) : wpAny (model prog w) A (Builtin.«object.__ne__» ⟨[.ref x, b], []⟩) Q E s := by
  unfold Builtin.«object.__ne__»
  refine wpAny_bind (wpAny_pure ?_)
  refine wpAny_bind (wpAny_cRoomFor hu ?_)
  refine wpAny_bind (PySem.W.ifBound_K X I hs hf ?_)
  refine wpAny_mono h (fun v s' hv => ?_) (fun _ _ e => e)
  obtain ⟨k, rfl, q⟩ := hv
  refine wpAny_bind (wpAny_truthy_bool ?_)
  exact wpAny_pure q
theorem cmp_ne {Q : Value → Shared → Prop} {f : Addr} {m : Str → Option Value} {L : Addr} {h₀ : Heap} (hu : A.units + 1 < cLine) (G : Fr h₀ L s.heap m) (X₀ : K.In h₀) (I : PySem.W.InstAt s.heap x ox C od) (hb : PySem.W.Looks (model prog w) s.heap (typeOf b) tb) (hn : PySem.W.notFirst K C tb = true)
    (hne : findIn K (.ref C) "__ne__" = some (some (.builtin "object.__ne__"))) (hso : subIn K (.ref C) (.type "object") = some true) (hs : findIn K (.ref C) "__eq__" = some (some (.ref f))) (hf : PySem.W.isFn K (.ref f) = true)
    (h : wpAny (model prog w) A.in1 (call (.ref f) [.ref x, b]) (fun v s' => ∃ k, v = .bool k ∧ Q (.bool (!k)) s') E s) : wpAny (model prog w) A (richCompare .NotEq (.ref x) b) Q E s := by
  have X := X₀.keeps G.keep
  have hu0 : A.units < cLine := by omega
  have one : wpAny (model prog w) A (tryCompare (.ref x) (cmpInfo .NotEq).2.1 b) (fun r s' => ∃ v, r = some v ∧ Q v s') E s := by
    unfold tryCompare
    refine wpAny_bind (ifBound_B X I hne PySem.F.slot_object_ne (wpAny_call (codeAny_call_builtin PySem.F.slot_object_ne.plain PySem.F.cmpEntry_ne (check_B X I PySem.F.cmpKind_ne PySem.F.cmpSplit_ne (PySem.F.cmpArgs_ne _ _) hso (ne_entry (A := A.in1) hu X I hs hf ?_)))))
    refine wpAny_mono h (fun v s' hv => ?_) fun _ _ e => e
    obtain ⟨k, rfl, q⟩ := hv
    exact ⟨k, rfl, wpAny_pure ⟨_, rfl, q⟩⟩
  unfold richCompare
  simp only [oneThing_ref]
  refine wpAny_holding (wpAny_bind (wpAny_cRoomFor hu0 ?_))
  refine wpAny_bind (I.type.here (wpAny_bind (hb.here ?_)))
  split
  · rename_i q
    have e : subIn K tb (.ref C) = some false := by
      rcases Bool.or_eq_true_iff.mp hn with e | e
      · rw [beq_iff_eq.mp e] at q; simp at q
      · exact beq_iff_eq.mp e
    refine wpAny_bind ((looks_subIn X e).here ?_)
    simp only [Bool.false_eq_true, if_false]
    refine wpAny_bind (wpAny_mono one (fun r s' z => ?_) fun _ _ e => e)
    obtain ⟨v, rfl, hq⟩ := z
    exact wpAny_pure hq
  · refine wpAny_bind (wpAny_pure ?_)
    simp only [Bool.false_eq_true, if_false]
    refine wpAny_bind (wpAny_mono one (fun r s' z => ?_) fun _ _ e => e)
    obtain ⟨v, rfl, hq⟩ := z
    exact wpAny_pure hq
end
end Bw

/-! == of own objects, and of lists of such: either answer -/
namespace Bw
open PySem PySem.Spec PySem.SeqAt PyProof.Rows L2 LamX
open AutoSeq1 (wpAny_loadPart')
open MeetsSeq MeetsSeq2 MeetsSeq3 SeqRoads2
section
variable {prog : Program} {w : World} {A : Around} {R : Result → Shared → Prop}
/-- at each turn the two lists are read anew -/
def ListB (prog : Program) (w : World) (A : Around) (E : Value → Shared → Prop) (l b : Addr) (N : Nat) (bs : Nat → Bool) (I : Shared → Prop) : Prop :=
  ∀ s, I s → ∃ (items items2 : Array Value) (n n2 : Nat), s.heap.get? l = some { cls := .type "list", data := .seq items n } ∧ s.heap.get? b = some { cls := .type "list", data := .seq items2 n2 } ∧ items.size = N ∧ items2.size = N ∧
    ∀ i (h1 : i < items.size) (h2 : i < items2.size), wpAny (model prog w) A.in1 (eqBool items[i] items2[i]) (fun r s' => r = bs i ∧ I s') E s
theorem eq_loopB (l b : Addr) (N : Nat) (bs : Nat → Bool) (I : Shared → Prop) (hl : ListB prog w A (fun e s' => R (.error e) s') l b N bs I)
    (fin : ∀ s, I s → R (.ok (.ret (.bool ((List.range N).all bs)))) s) (k : Nat) :
    ∀ i : Nat, N - i = k → i ≤ N → (∀ j, j < i → bs j = true) → ∀ s, I s →
      wpAny (model prog w) A.in1 (Builtin.«list.__eq__.loop» ⟨[.ref l, .ref b, rawInt i, rawInt 2], []⟩) (GQ.FinOf prog w A R) (fun e s' => R (.error e) s') s := by
  induction k with
  | zero =>
    intro i hk hi hbs s h
    obtain ⟨items, items2, n, n2, hl1, hb1, hs1, hs2, _⟩ := hl _ h
    have hi' : i = N := by omega
    have hall : (List.range N).all bs = true := by
      rw [List.all_eq_true]
      intro x hx
      exact hbs x (by rw [hi']; exact List.mem_range.mp hx)
    have hR : R (.ok (.ret (.bool true))) s := hall ▸ fin s h
    obtain ⟨hp, g, d, tk, os⟩ := s
    wp_walk using wpAny_loadPart' hl1, wpAny_loadPart' hb1
    have hi1 : items[((i : Nat) : Int).toNat]? = none := by simp; omega
    have hi2 : items2[((i : Nat) : Int).toNat]? = none := by simp; omega
    rw [hi1, hi2]
    wp_walk using wpAny_loadPart' hl1, wpAny_loadPart' hb1
    show R (.ok (.ret (.bool (items.size == items2.size)))) _
    rw [hs1, hs2]
    simpa using hR
  | succ k ih =>
    intro i hk hi hbs s h
    obtain ⟨items, items2, n, n2, hl1, hb1, hs1, hs2, turn⟩ := hl _ h
    have hlt : i < items.size := by omega
    have hlt2 : i < items2.size := by omega
    have ht := turn i hlt hlt2
    obtain ⟨hp, g, d, tk, os⟩ := s
    wp_walk using wpAny_loadPart' hl1, wpAny_loadPart' hb1
    have hi1 : items[((i : Nat) : Int).toNat]? = some items[i] := by simp [hlt]
    have hi2 : items2[((i : Nat) : Int).toNat]? = some items2[i] := by simp [hlt2]
    have hc : ((i : Int) + 1) = ((i + 1 : Nat) : Int) := by omega
    rw [hi1, hi2]
    refine wpAny_bind (wpAny_mono ht (fun r s2 h2 => ?_) fun _ _ x => x)
    obtain ⟨hr, h2⟩ := h2
    cases hb : bs i with
    | true =>
      rw [hb] at hr
      subst hr
      have hrec := ih (i + 1) (by omega) (by omega) (fun j hj => by
        rcases Nat.lt_or_eq_of_le (Nat.le_of_lt_succ hj) with h | h
        · exact hbs j h
        · exact h ▸ hb) s2 h2
      obtain ⟨hp2, g2, d2, tk2, os2⟩ := s2
      wp_walk
      rw [hc]
      exact ⟨plainId_quiet plain_eq_loop _, codeAny_builtin entry_eq_loop (by
        rw [Around.under_plainId plain_eq_loop _]
        exact hrec)⟩
    | false =>
      rw [hb] at hr
      subst hr
      obtain ⟨itemsB, items2B, nB, n2B, hl1B, hb1B, hs1B, hs2B, _⟩ := hl _ h2
      have hi1B : itemsB[((i : Nat) : Int).toNat]? = some (itemsB[i]'(by omega)) := by
        have : i < itemsB.size := by omega
        simp [this]
      have hi2B : items2B[((i : Nat) : Int).toNat]? = some (items2B[i]'(by omega)) := by
        have : i < items2B.size := by omega
        simp [this]
      have hall : (List.range N).all bs = false := by
        rw [Bool.eq_false_iff]
        intro z
        rw [List.all_eq_true] at z
        have := z i (List.mem_range.mpr (by omega))
        rw [hb] at this
        cases this
      have hR : R (.ok (.ret (.bool false))) s2 := hall ▸ fin s2 h2
      obtain ⟨hp2, g2, d2, tk2, os2⟩ := s2
      wp_walk using wpAny_loadPart' hl1B, wpAny_loadPart' hb1B
      rw [hi1B, hi2B]
      wp_walk
      exact hR
theorem list_eqB (l b : Addr) (N : Nat) (bs : Nat → Bool) (I : Shared → Prop) (hl : ListB prog w A (fun e s' => R (.error e) s') l b N bs I)
    (fin : ∀ s, I s → R (.ok (.ret (.bool ((List.range N).all bs)))) s) {s : Shared} (h : I s) :
    wpAny (model prog w) A.in1 (Builtin.«list.__eq__» ⟨[.ref l, .ref b], []⟩) (GQ.FinOf prog w A R) (fun e s' => R (.error e) s') s := by
  obtain ⟨items, items2, n, n2, hl1, hb1, hs1, hs2, _⟩ := hl _ h
  have hrec := eq_loopB (A := A) (R := R) l b N bs I hl fin _ 0 rfl (Nat.zero_le _) (fun j hj => absurd hj (Nat.not_lt_zero _)) s h
  obtain ⟨hp, g, d, tk, os⟩ := s
  have f3 := AutoSeq1.sub_list_list
  have hne : ¬ (items.size != items2.size) = true := by simp [hs1, hs2]
  wp_walk using wpAny_loadPart' hl1, wpAny_loadPart' hb1
  exact ⟨plainId_quiet plain_eq_loop _, codeAny_builtin entry_eq_loop (by
    rw [Around.under_plainId plain_eq_loop _]
    exact hrec)⟩
/-- x in l -/
def ContB (prog : Program) (w : World) (A : Around) (E : Value → Shared → Prop) (l : Addr) (x : Value) (N : Nat) (bs : Nat → Bool) (I : Shared → Prop) : Prop :=
  ∀ s, I s → ∃ (items : Array Value) (n : Nat), s.heap.get? l = some { cls := .type "list", data := .seq items n } ∧ items.size = N ∧
    ∀ i (h1 : i < items.size), wpAny (model prog w) A.in1 (eqBool items[i] x) (fun r s' => r = bs i ∧ I s') E s
theorem cont_loopB (l : Addr) (x : Value) (N : Nat) (bs : Nat → Bool) (I : Shared → Prop) (hl : ContB prog w A (fun e s' => R (.error e) s') l x N bs I)
    (fin : ∀ s, I s → R (.ok (.ret (.bool ((List.range N).any bs)))) s) (k : Nat) :
    ∀ i : Nat, N - i = k → i ≤ N → (∀ j, j < i → bs j = false) → ∀ s, I s →
      wpAny (model prog w) A.in1 (Builtin.«list.__contains__.loop» ⟨[.ref l, x, rawInt i], []⟩) (GQ.FinOf prog w A R) (fun e s' => R (.error e) s') s := by
  induction k with
  | zero =>
    intro i hk hi hbs s h
    obtain ⟨items, n, hl1, hs1, _⟩ := hl _ h
    have hi' : i = N := by omega
    have hall : (List.range N).any bs = false := by
      rw [List.any_eq_false]
      intro x hx
      rw [hbs x (by rw [hi']; exact List.mem_range.mp hx)]
      exact Bool.false_ne_true
    have hR : R (.ok (.ret (.bool false))) s := hall ▸ fin s h
    obtain ⟨hp, g, d, tk, os⟩ := s
    wp_walk using wpAny_loadPart' hl1
    have hi1 : items[((i : Nat) : Int).toNat]? = none := by simp; omega
    rw [hi1]
    wp_walk
    exact hR
  | succ k ih =>
    intro i hk hi hbs s h
    obtain ⟨items, n, hl1, hs1, turn⟩ := hl _ h
    have hlt : i < items.size := by omega
    have ht := turn i hlt
    obtain ⟨hp, g, d, tk, os⟩ := s
    wp_walk using wpAny_loadPart' hl1
    have hi1 : items[((i : Nat) : Int).toNat]? = some items[i] := by simp [hlt]
    have hc : ((i : Int) + 1) = ((i + 1 : Nat) : Int) := by omega
    rw [hi1]
    refine wpAny_bind (wpAny_mono ht (fun r s2 h2 => ?_) fun _ _ x => x)
    obtain ⟨hr, h2⟩ := h2
    cases hb : bs i with
    | true =>
      rw [hb] at hr
      subst hr
      have hall : (List.range N).any bs = true := by
        rw [List.any_eq_true]
        exact ⟨i, List.mem_range.mpr (by omega), hb⟩
      have hR : R (.ok (.ret (.bool true))) s2 := hall ▸ fin s2 h2
      obtain ⟨hp2, g2, d2, tk2, os2⟩ := s2
      wp_walk
      exact hR
    | false =>
      rw [hb] at hr
      subst hr
      have hrec := ih (i + 1) (by omega) (by omega) (fun j hj => by
        rcases Nat.lt_or_eq_of_le (Nat.le_of_lt_succ hj) with h | h
        · exact hbs j h
        · exact h ▸ hb) s2 h2
      obtain ⟨hp2, g2, d2, tk2, os2⟩ := s2
      wp_walk
      rw [hc]
      exact ⟨plainId_quiet plain_contains_loop _, codeAny_builtin entry_contains_loop (by
        rw [Around.under_plainId plain_contains_loop _]
        exact hrec)⟩
theorem list_contB (l : Addr) (x : Value) (N : Nat) (bs : Nat → Bool) (I : Shared → Prop) (hl : ContB prog w A (fun e s' => R (.error e) s') l x N bs I)
    (fin : ∀ s, I s → R (.ok (.ret (.bool ((List.range N).any bs)))) s) {s : Shared} (h : I s) :
    wpAny (model prog w) A.in1 (Builtin.«list.__contains__» ⟨[.ref l, x], []⟩) (GQ.FinOf prog w A R) (fun e s' => R (.error e) s') s := by
  obtain ⟨items, n, hl1, hs1, _⟩ := hl _ h
  have hrec := cont_loopB (A := A) (R := R) l x N bs I hl fin _ 0 rfl (Nat.zero_le _) (fun j hj => absurd hj (Nat.not_lt_zero _)) s h
  obtain ⟨hp, g, d, tk, os⟩ := s
  wp_walk using wpAny_loadPart' hl1
  exact ⟨plainId_quiet plain_contains_loop _, codeAny_builtin entry_contains_loop (by
    rw [Around.under_plainId plain_contains_loop _]
    exact hrec)⟩
end
section
variable {prog : Program} {w : World} {A : Around} {E : Value → Shared → Prop} {s : Shared}
theorem rc_listB {l b : Addr} {N : Nat} {bs : Nat → Bool} {Q : Value → Shared → Prop} (hu : A.units < cLine) (I : Shared → Prop) (hl : ListB prog w A E l b N bs I)
    (fin : ∀ s, I s → Q (.bool ((List.range N).all bs)) s) (h : I s) : wpAny (model prog w) A (richCompare .Eq (.ref l) (.ref b)) Q E s := by
  obtain ⟨items, items2, n, n2, hl1, hb1, _, _, _⟩ := hl _ h
  refine wpAny_richCompare_same_room (op := .Eq) ⟨_, hl1, rfl⟩ ⟨_, hb1, rfl⟩ F.slot_list_eq (GQ.call_here F.slot_list_eq ⟨_, hl1, rfl⟩ F.entry_list_eq (F.args_list_eq_2 _ _) ?_) hu
  exact list_eqB (R := wants (fun v s' => v ≠ .notImplemented ∧ Q v s') E) l b N bs I hl (fun s' q => ⟨(fun x => nomatch x), fin s' q⟩) h
theorem rc_listD {l b : Addr} {items items2 : Array Value} {n n2 : Nat} {Q : Value → Shared → Prop} (hu : A.units < cLine) (hl : s.heap.get? l = some { cls := .type "list", data := .seq items n }) (hb : s.heap.get? b = some { cls := .type "list", data := .seq items2 n2 }) (hne : items.size ≠ items2.size)
    (fin : Q (.bool false) s) : wpAny (model prog w) A (richCompare .Eq (.ref l) (.ref b)) Q E s := by
  refine wpAny_richCompare_same_room (op := .Eq) ⟨_, hl, rfl⟩ ⟨_, hb, rfl⟩ F.slot_list_eq ?_ hu
  exact call_meets F.slot_list_eq ⟨_, hl, rfl⟩ F.entry_list_eq (F.args_list_eq_2 _ _) (list_eq_lengthsAt l b items items2 n n2 none none #[] #[] (by simp [hne])) ⟨hl, hb, (fun x => nomatch x), fin⟩
end
end Bw

/-! == by own __eq__ over the layer: either answer; !=, in, lists of own objects -/
namespace Bw
open PySem PySem.Spec PyProof.Rows L2 LamX
/-- x == y answers b, by the abstract heap -/
abbrev Eqb := V → V → Hp → Bool → Prop
def MonB (D : Eqb) : Prop := ∀ x y H H' b, Same H H' → D x y H b → D x y H' b
def EqbX (X : Cx) (n : Nat) (D : Eqb) : Prop :=
  ∀ (A : Around) (pins : List (Addr × Obj)) (s : Shared) (σ : L2.St) (H : Hp) (x y : V) (u v : Value) (b : Bool), Sub X n A → Inv X pins σ H s → RelV x u → RelV y v → D x y H b →
    wpAny (model X.prog X.w) A (eqBool u v) (fun r s' => r = b ∧ ∃ H', Inv X pins σ H' s' ∧ Same H H') X.xe s
def RcbX (X : Cx) (n : Nat) (D : Eqb) : Prop :=
  ∀ (A : Around) (pins : List (Addr × Obj)) (s : Shared) (σ : L2.St) (H : Hp) (x y : V) (u v : Value) (b : Bool), Sub X n A → Inv X pins σ H s → RelV x u → RelV y v → D x y H b →
    wpAny (model X.prog X.w) A (richCompare .Eq u v) (fun r s' => r = .bool b ∧ ∃ H', Inv X pins σ H' s' ∧ Same H H') X.xe s
section
variable {X : Cx} {n m : Nat} {D D' : Eqb}
theorem EqbX.mono (h : EqbX X n D) (hn : n ≤ m) : EqbX X m D := fun A pins s σ H x y u v b sb => h A pins s σ H x y u v b (sb.mono hn)
theorem RcbX.mono (h : RcbX X n D) (hn : n ≤ m) : RcbX X m D := fun A pins s σ H x y u v b sb => h A pins s σ H x y u v b (sb.mono hn)
theorem RcbX.or (h : RcbX X n D) (h' : RcbX X n D') : RcbX X n (fun x y H b => D x y H b ∨ D' x y H b) := fun A pins s σ H x y u v b sb I rx ry d =>
  d.elim (h A pins s σ H x y u v b sb I rx ry) (h' A pins s σ H x y u v b sb I rx ry)
theorem EqbX.or (h : EqbX X n D) (h' : EqbX X n D') : EqbX X n (fun x y H b => D x y H b ∨ D' x y H b) := fun A pins s σ H x y u v b sb I rx ry d =>
  d.elim (h A pins s σ H x y u v b sb I rx ry) (h' A pins s σ H x y u v b sb I rx ry)
/-- data -/
def BData (K : PySem.W.Frag) : Eqb := fun x y H b => ∃ d e, Dp K H x d ∧ Dp K H y e ∧ SeqAt.shaped d = true ∧ SeqAt.shaped e = true ∧ PyData.eqv d e = b
theorem rcb_data : RcbX X 1 (BData X.K) := by
  intro A pins s σ H x y u v b sb I rx ry hd
  obtain ⟨d, e, hx, hy, sd, se, rfl⟩ := hd
  obtain ⟨as, r1⟩ := Dp.reads I d x u hx rx
  obtain ⟨bs, r2⟩ := Dp.reads I e y v hy ry
  exact SeqAt.compareEq_shaped r1 r2 sd se sb.room.units ⟨rfl, H, I, fun _ _ h => h⟩
theorem mon_data {K : PySem.W.Frag} : MonB (BData K) := fun x y H H' b s h => by
  obtain ⟨d, e, hx, hy, r⟩ := h
  exact ⟨d, e, same_dp s hx, same_dp s hy, r⟩
/-- the same object equals itself within lists; other ones as by == -/
def BSame (D : Eqb) : Eqb := fun x y H b => (∃ a, x = .ref a ∧ y = .ref a ∧ b = true) ∨ ((∃ a c, x = .ref a ∧ y = .ref c ∧ a ≠ c) ∧ D x y H b)
theorem RcbX.eqb (h : RcbX X n D) : EqbX X n (BSame D) := by
  intro A pins s σ H x y u v b sb I rx ry d
  rcases d with ⟨a, rfl, rfl, rfl⟩ | ⟨⟨a, c, rfl, rfl, hne⟩, d⟩
  · cases rx
    cases ry
    exact SeqAt.EqAt.same (A := A) (s := s) (.ref a) X.prog X.w X.xe _ ⟨rfl, H, I, fun _ _ h => h⟩
  · cases rx
    cases ry
    refine GQ.eqBool_refG hne (wpAny_mono (h A pins s σ H (.ref a) (.ref c) _ _ b sb I rfl rfl d) (fun r s' q => ?_) fun _ _ x => x)
    obtain ⟨hr', q⟩ := q
    exact ⟨b, hr', rfl, q⟩
theorem mon_same (h : MonB D) : MonB (BSame D) := fun x y H H' b s d => d.imp id fun ⟨e, d⟩ => ⟨e, h x y H H' b s d⟩
/-- own objects of the class C -/
def BIns (K : PySem.W.Frag) (C : Addr) (R : Addr → V → Hp → Bool → Prop) : Eqb := fun x y H b => ∃ a dx fs, x = .ref a ∧ H a = some (.ins C dx fs) ∧ Side K H C y ∧ R a y H b
def spEqb (R : Addr → V → Hp → Bool → Prop) : Sp := fun vs H Q _ => ∃ a y b, vs = [.ref a, y] ∧ R a y H b ∧ ∀ H', Same H H' → Q (.bl b) H'
theorem Side.same {K : PySem.W.Frag} {H H' : Hp} {C : Addr} {y : V} (h : Side K H C y) (s : Same H H') : Side K H' C y := by
  cases h with
  | int i h => exact .int i h
  | bl b h => exact .bl b h
  | str x h => exact .str x h
  | non h => exact .non h
  | lst e h => exact .lst (s _ _ e) h
  | tup e h => exact .tup (s _ _ e) h
  | own e => exact .own (s _ _ e)
theorem mon_ins' {K : PySem.W.Frag} {C : Addr} {R : Addr → V → Hp → Bool → Prop} (hR : ∀ a y H H' b, Same H H' → R a y H b → R a y H' b) : MonB (BIns K C R) := fun x y H H' b s d => by
  obtain ⟨a, dx, fs, e, h, sd, r⟩ := d
  exact ⟨a, dx, fs, e, s _ _ h, sd.same s, hR a y H H' b s r⟩
theorem rcb_ins {C : Addr} {ps : List Str} {R : Addr → V → Hp → Bool → Prop} (O : EqO X.prog X.w X.K X.mg X.base C n ps (spEqb R)) : RcbX X n (BIns X.K C R) := by
  intro A pins s σ H x y u v b sb I rx ry d
  obtain ⟨a, dx, fs, rfl, ha, hy, hR⟩ := d
  obtain ⟨f, fd, F, hs, hf, hb⟩ := O.ex
  cases rx
  obtain ⟨tb, lk, nf⟩ := side_looks I ry hy
  obtain ⟨mA, J, _⟩ := ins_get I.hok ha
  obtain ⟨od, J, _⟩ := J.look
  obtain ⟨m, hF⟩ := I.fr
  refine PySem.W.cmp_K (op := .Eq) sb.room.units0 hF I.ok.mod.kin J lk nf hs hf ?_
  have hsp : spEqb R [.ref a, y] H (fun v H' => v = .bl b ∧ Same H H') C8.E0 := ⟨a, y, b, rfl, hR, fun H' e => ⟨rfl, e⟩⟩
  have e0 : Env0 X.prog X.w X.K X.mg X.base A X.stack s H := by
    have e := I.env0
    exact ⟨by rw [sb.fr]; exact e.frames, e.mod, e.bs, e.bsz, e.funs, e.frf, e.hok, e.bare⟩
  have hl := F.len _ _ _ _ hsp
  have r2 : Vals [V.ref a, y] [Value.ref a, v] := .cons rfl (.cons ry .nil)
  refine wpAny_call (codeAny_mono (F.run A X.stack s H ⟨[.ref a, v], []⟩ [.ref a, v] [.ref a, y] _ _ sb.room e0 (by
    have := hb s [.ref a, v] I.kIn (by simpa using hl)
    simpa using this) r2 hsp) fun r s' hq => ?_)
  cases r with
  | error e => exact pass0 pins σ H s e s' I hq
  | ok fl =>
    cases fl with
    | ret w =>
      obtain ⟨z, H', I', rz, ez, ex⟩ := I.after hq
      subst ez
      cases rz
      exact ⟨rfl, H', I', ex⟩
    | next => exact False.elim hq
    | brk => exact False.elim hq
    | cont => exact False.elim hq
/-- lists -/
def BList (D : Eqb) : Eqb := fun x y H b => ∃ a c xs ys, x = .ref a ∧ y = .ref c ∧ H a = some (.lst xs) ∧ H c = some (.lst ys) ∧
  ((xs.length ≠ ys.length ∧ b = false) ∨ (xs.length = ys.length ∧ ∃ bs : Nat → Bool, (∀ i x y, xs[i]? = some x → ys[i]? = some y → D x y H (bs i)) ∧ b = (List.range xs.length).all bs))
theorem mon_list' (h : MonB D) : MonB (BList D) := fun x y H H' b s d => by
  obtain ⟨a, c, xs, ys, e1, e2, h1, h2, d⟩ := d
  refine ⟨a, c, xs, ys, e1, e2, s _ _ h1, s _ _ h2, d.imp id fun ⟨l, bs, hb, e⟩ => ⟨l, bs, fun i x y k1 k2 => h x y H H' _ s (hb i x y k1 k2), e⟩⟩
def LoopB (X : Cx) (pins : List (Addr × Obj)) (σ : L2.St) (H : Hp) (s' : Shared) : Prop := ∃ H', Inv X pins σ H' s' ∧ Same H H'
theorem turnB (hD : MonB D) (h : EqbX X n D) {A : Around} (sb : Sub X (n + 1) A) {pins : List (Addr × Obj)} {σ : L2.St} {H : Hp} {xs ys : List V} {its its2 : List Value} {bs : Nat → Bool}
    (p : ∀ i x y, xs[i]? = some x → ys[i]? = some y → D x y H (bs i)) (r : Vals xs its) (r2 : Vals ys its2)
    (i : Nat) (h1 : i < its.toArray.size) (h2 : i < its2.toArray.size) (s' : Shared) (l : LoopB X pins σ H s') :
    wpAny (model X.prog X.w) A.in1 (eqBool its.toArray[i] its2.toArray[i]) (fun r s2 => r = bs i ∧ LoopB X pins σ H s2) X.xe s' := by
  obtain ⟨H1, I1, e1⟩ := l
  have g1 : its[i]? = some its.toArray[i] := by
    have h1' : i < its.length := by simpa using h1
    rw [List.getElem?_eq_getElem h1'] <;> simp
  have g2 : its2[i]? = some its2.toArray[i] := by
    have h2' : i < its2.length := by simpa using h2
    rw [List.getElem?_eq_getElem h2'] <;> simp
  have k1 : i < xs.length := by rw [r.length]; simpa using h1
  have k2 : i < ys.length := by rw [r2.length]; simpa using h2
  obtain ⟨u, hu, ru⟩ := r.get (List.getElem?_eq_getElem k1)
  obtain ⟨v, hv, rv⟩ := r2.get (List.getElem?_eq_getElem k2)
  rw [g1] at hu
  rw [g2] at hv
  rw [Option.some.inj hu, Option.some.inj hv]
  refine wpAny_mono (h A.in1 pins s' σ H1 _ _ u v (bs i) sb.in1 I1 ru rv (hD _ _ _ _ _ e1 (p i _ _ (List.getElem?_eq_getElem k1) (List.getElem?_eq_getElem k2)))) (fun r s2 q => ?_) fun _ _ x => x
  obtain ⟨hr, H2, I2, e2⟩ := q
  exact ⟨hr, H2, I2, e1.trans e2⟩
theorem rcb_list (hD : MonB D) (h : EqbX X n D) : RcbX X (n + 1) (BList D) := by
  intro A pins s σ H x y u v b sb I rx ry d
  obtain ⟨a, c, xs, ys, rfl, rfl, ha, hc, d⟩ := d
  cases rx
  cases ry
  rcases d with ⟨hne, rfl⟩ | ⟨hl, bs, hb, rfl⟩
  · obtain ⟨z, its, k, r, e⟩ := I.hok a _ ha
    obtain ⟨z2, its2, k2, r2, e2⟩ := I.hok c _ hc
    exact rc_listD sb.room.units0 e e2 (by rw [List.size_toArray, List.size_toArray, ← r.length, ← r2.length]; exact hne) ⟨rfl, H, I, fun _ _ h => h⟩
  · refine rc_listB (N := xs.length) (bs := bs) sb.room.units0 (fun s' => LoopB X pins σ H s') (fun s' q => ?_) (fun s' q => ⟨rfl, q⟩) ⟨H, I, fun _ _ h => h⟩
    obtain ⟨H1, I1, e1⟩ := id q
    obtain ⟨z, its, k, r, e⟩ := I1.hok a _ (e1 _ _ ha)
    obtain ⟨z2, its2, k2, r2, e2⟩ := I1.hok c _ (e1 _ _ hc)
    refine ⟨its.toArray, its2.toArray, k, k2, e, e2, by rw [List.size_toArray, ← r.length], by rw [List.size_toArray, ← r2.length, hl], fun i h1 h2 => ?_⟩
    exact turnB hD h sb hb r r2 i h1 h2 s' q
/-- x == y as an expression -/
def rEqb (D : Eqb) : R2 := fun x y H Q => ∃ b, D x y H b ∧ ∀ H', Same H H' → Q (.bl b) H'
theorem op_eqb (h : RcbX X n D) (hr : Room n X.A) : OpR X (compareOp .Eq) (rEqb D) := by
  intro pins s σ H x y v u Q I rx ry hq
  obtain ⟨b, d, q⟩ := hq
  show wpAny (model X.prog X.w) X.A (richCompare .Eq v u) (EP X pins σ Q) X.xe s
  refine wpAny_mono (h X.A pins s σ H x y v u b ⟨hr, rfl⟩ I rx ry d) (fun r s' z => ?_) fun _ _ x => x
  obtain ⟨hr', H', I', e⟩ := z
  subst hr'
  exact ⟨.bl b, H', I', rfl, q H' e⟩
/-- the class's != is that of object -/
structure NeO (K : PySem.W.Frag) (C : Addr) : Prop where
  ne : PySem.W.findIn K (.ref C) "__ne__" = some (some (.builtin "object.__ne__"))
  so : PySem.W.subIn K (.ref C) (.type "object") = some true
/-- x != y by an own __eq__ -/
def rNeO (K : PySem.W.Frag) (C : Addr) (R : Addr → V → Hp → Bool → Prop) : R2 := fun x y H Q => ∃ b, BIns K C R x y H b ∧ ∀ H', Same H H' → Q (.bl (!b)) H'
theorem op_neO {C : Addr} {ps : List Str} {R : Addr → V → Hp → Bool → Prop} (O : EqO X.prog X.w X.K X.mg X.base C n ps (spEqb R)) (N : NeO X.K C) (hr : Room (n + 1) X.A) : OpR X (compareOp .NotEq) (rNeO X.K C R) := by
  intro pins s σ H x y v u Q I rx ry h
  obtain ⟨b, ⟨a, dx, fs, rfl, ha, hy, hR⟩, q⟩ := h
  obtain ⟨f, fd, F, hs, hf, hb⟩ := O.ex
  cases rx
  obtain ⟨tb, lk, nf⟩ := side_looks I ry hy
  obtain ⟨mA, J, _⟩ := ins_get I.hok ha
  obtain ⟨od, J, _⟩ := J.look
  obtain ⟨m, hF⟩ := I.fr
  show wpAny (model X.prog X.w) X.A (richCompare .NotEq (.ref a) u) (EP X pins σ Q) X.xe s
  have hu1 : X.A.units + 1 < cLine := by have := hr.units; omega
  refine cmp_ne hu1 hF I.ok.mod.kin J lk nf N.ne N.so hs hf ?_
  have hsp : spEqb R [.ref a, y] H (fun v H' => v = .bl b ∧ Same H H') C8.E0 := ⟨a, y, b, rfl, hR, fun H' e => ⟨rfl, e⟩⟩
  have sb : Sub X n X.A.in1 := Sub.in1 ⟨hr, rfl⟩
  have e0 : Env0 X.prog X.w X.K X.mg X.base X.A.in1 X.stack s H := by
    have e := I.env0
    exact ⟨by rw [sb.fr]; exact e.frames, e.mod, e.bs, e.bsz, e.funs, e.frf, e.hok, e.bare⟩
  have hl := F.len _ _ _ _ hsp
  have r2 : Vals [V.ref a, y] [Value.ref a, u] := .cons rfl (.cons ry .nil)
  refine wpAny_call (codeAny_mono (F.run X.A.in1 X.stack s H ⟨[.ref a, u], []⟩ [.ref a, u] [.ref a, y] _ _ sb.room e0 (by
    have := hb s [.ref a, u] I.kIn (by simpa using hl)
    simpa using this) r2 hsp) fun r s' hq => ?_)
  cases r with
  | error e => exact pass0 pins σ H s e s' I hq
  | ok fl =>
    cases fl with
    | ret w =>
      obtain ⟨z, H', I', rz, ez, ex⟩ := I.after hq
      subst ez
      cases rz
      exact ⟨b, rfl, .bl (!b), H', I', rfl, q H' ex⟩
    | next => exact False.elim hq
    | brk => exact False.elim hq
    | cont => exact False.elim hq
/-- x in a list -/
def rInB (D : Eqb) : R2 := fun x y H Q => ∃ l xs, y = .ref l ∧ H l = some (.lst xs) ∧ ∃ bs : Nat → Bool, (∀ i z, xs[i]? = some z → D z x H (bs i)) ∧ ∀ H', Same H H' → Q (.bl ((List.range xs.length).any bs)) H'
theorem op_inB (hD : MonB D) (h : EqbX X n D) (hr : Room (n + 1) X.A) : OpR X (compareOp .In) (rInB D) := by
  intro pins s σ H x y v u Q I rx ry hq
  obtain ⟨l, xs, rfl, hl, bs, hb, q⟩ := hq
  cases ry
  have key : ContB X.prog X.w X.A (fun e s' => wants (fun v s' => ∃ b, v = .bool b ∧ EP X pins σ Q (.bool b) s') X.xe (.error e) s') l v xs.length bs (fun s' => LoopB X pins σ H s') := by
    intro s' hI
    obtain ⟨H1, I1, e1⟩ := id hI
    obtain ⟨z, its, k, r, e⟩ := I1.hok l _ (e1 _ _ hl)
    refine ⟨its.toArray, k, e, by rw [List.size_toArray, ← r.length], fun i h1 => ?_⟩
    have h1' : i < its.length := by simpa using h1
    have g1 : its[i]? = some its.toArray[i] := by rw [List.getElem?_eq_getElem h1'] <;> simp
    have k1 : i < xs.length := by rw [r.length]; simpa using h1
    obtain ⟨u, hu, ru⟩ := r.get (List.getElem?_eq_getElem k1)
    rw [g1] at hu
    rw [Option.some.inj hu]
    refine wpAny_mono (h X.A.in1 pins s' σ H1 _ x u v (bs i) (Sub.in1 ⟨hr, rfl⟩) I1 ru rx (hD _ _ _ _ _ e1 (hb i _ (List.getElem?_eq_getElem k1)))) (fun r s2 q => ?_) fun _ _ x => x
    obtain ⟨hr, H2, I2, e2⟩ := q
    exact ⟨hr, H2, I2, e1.trans e2⟩
  obtain ⟨z, its, k, r, e⟩ := I.hok l _ hl
  show wpAny (model X.prog X.w) X.A (do return Value.bool (← contains (.ref l) v)) (EP X pins σ Q) X.xe s
  refine wpAny_bind (wpAny_contains_slot ⟨_, e, rfl⟩ F.slot_list_contains (wpAny_mono (Q := fun v s' => ∃ b, v = .bool b ∧ EP X pins σ Q (.bool b) s') (GQ.call_here F.slot_list_contains ⟨_, e, rfl⟩ F.entry_list_contains (F.args_list_contains_2 _ _)
    (list_contB (R := wants (fun v s' => ∃ b, v = .bool b ∧ EP X pins σ Q (.bool b) s') X.xe) l v xs.length bs (fun s' => LoopB X pins σ H s') key (fun s' hI => ?_) ⟨H, I, fun _ _ h => h⟩)) (fun v s' hv => ?_) fun _ _ e => e))
  · obtain ⟨H', I', e'⟩ := hI
    exact ⟨_, rfl, .bl _, H', I', rfl, q H' e'⟩
  · obtain ⟨b, rfl, hq⟩ := hv
    exact wpAny_truthy_bool (wpAny_pure hq)
end
/-! ### steps -/
section
variable {H : Hp} {Q : VK} {D : Eqb} {K : PySem.W.Frag} {x y : V}
theorem w_eqb {b : Bool} (d : D x y H b) (k : ∀ H', Same H H' → Q (.bl b) H') : rEqb D x y H Q := ⟨b, d, k⟩
theorem w_neO {C : Addr} {R : Addr → V → Hp → Bool → Prop} {b : Bool} (d : BIns K C R x y H b) (k : ∀ H', Same H H' → Q (.bl (!b)) H') : rNeO K C R x y H Q := ⟨b, d, k⟩
end
/-- either reading of an operator -/
def rOr (r r' : R2) : R2 := fun x y H Q => r x y H Q ∨ r' x y H Q
theorem op_or {X : Cx} {f : Value → Value → Sem Value} {r r' : R2} (h : OpR X f r) (h' : OpR X f r') : OpR X f (rOr r r') := fun pins s σ H x y v u Q I rx ry q =>
  q.elim (h pins s σ H x y v u Q I rx ry) (h' pins s σ H x y v u Q I rx ry)
/-- a class whose instances isinstance knows -/
structure Kls (K : PySem.W.Frag) (C : Addr) : Prop where
  cl : Cls K C
  ha : PySem.W.findIn K (.ref C) "__class__" = some (some (.builtin "object.__class__"))
  hn : PySem.W.specialIn K (.builtin "object.__class__") "__get__" = some (some (.builtin "getset_descriptor.__get__"))
  htk : PySem.W.takesIn K (.builtin "object.__class__") = some true
  hm : PySem.W.mroIn K C (.type "object") = some true
theorem Kls.ty {K : PySem.W.Frag} {H : Hp} {C a dx : Addr} {fs : List (Str × V)} (k : Kls K C) (h : H a = some (.ins C dx fs)) : TyX K H (.ref a) (.ref C) := .base (.ins h k.cl k.ha k.hn k.htk k.hm)
theorem kit_self {K : PySem.W.Frag} {C : Addr} : PySem.W.kitOne K (.ref C) (.ref C) = some true := by
  unfold PySem.W.kitOne
  rw [if_pos (beq_self_eq_true _)]
/-- no instance of C -/
def NotC (K : PySem.W.Frag) (H : Hp) (C : Addr) (y : V) : Prop := ∃ tv, TyX K H y tv ∧ PySem.W.kitOne K tv (.ref C) = some false
/-- what isinstance(x, C) says of the plain kinds -/
structure PlainNot (K : PySem.W.Frag) (C : Addr) : Prop where
  k : ∀ tv ∈ (["int", "bool", "str", "NoneType", "list", "tuple"] : List String), PySem.W.kitOne K (.type tv) (.ref C) = some false ∧ PySem.W.notFirst K C (.type tv) = true
def plainNotB (K : PySem.W.Frag) (C : Addr) : Bool := (["int", "bool", "str", "NoneType", "list", "tuple"] : List String).all fun tv => decide (PySem.W.kitOne K (.type tv) (.ref C) = some false) && PySem.W.notFirst K C (.type tv)
theorem plainNotB_ok {K : PySem.W.Frag} {C : Addr} (h : plainNotB K C = true) : PlainNot K C := ⟨fun tv ht => by
  unfold plainNotB at h
  rw [List.all_eq_true] at h
  have := h tv ht
  simp only [Bool.and_eq_true, decide_eq_true_eq] at this
  exact this⟩
theorem PlainNot.of {K : PySem.W.Frag} {H : Hp} {C : Addr} {y : V} (p : PlainNot K C) (h : Thg H y) : NotC K H C y ∧ Side K H C y := by
  cases h with
  | non => exact ⟨⟨_, tyx_non, (p.k _ (by simp)).1⟩, .non (p.k _ (by simp)).2⟩
  | int i => exact ⟨⟨_, tyx_int, (p.k _ (by simp)).1⟩, .int _ (p.k _ (by simp)).2⟩
  | bl b => exact ⟨⟨_, tyx_bl, (p.k _ (by simp)).1⟩, .bl _ (p.k _ (by simp)).2⟩
  | str x => exact ⟨⟨_, tyx_str, (p.k _ (by simp)).1⟩, .str _ (p.k _ (by simp)).2⟩
  | lst e => exact ⟨⟨_, tyx_lst e, (p.k _ (by simp)).1⟩, .lst e (p.k _ (by simp)).2⟩
  | tup e => exact ⟨⟨_, tyx_tup e, (p.k _ (by simp)).1⟩, .tup e (p.k _ (by simp)).2⟩
theorem w_isiO {K : PySem.W.Frag} {H : Hp} {C : Addr} {y : V} {tv : Value} {k : Bool} {Q : VK} (h : TyX K H y tv) (hk : PySem.W.kitOne K tv (.ref C) = some k) (q : Q (.bl k) H) : rIsi K [y, .ref C] H Q := w_isi (.own C) h hk q
end Bw

namespace Bw
open PySem PySem.Spec PyProof.Rows L2 LamX
section
variable {K : PySem.W.Frag} {H : Hp} {Q : VK}
theorem dpAll_ix : ∀ {xs : List V} {ds : List PyData}, xs.length = ds.length → (∀ (i : Nat) x d, xs[i]? = some x → ds[i]? = some d → Dp K H x d) → DpAll K H xs ds
  | [], [], _, _ => .nil
  | [], _ :: _, h, _ => by cases h
  | _ :: _, [], h, _ => by cases h
  | x :: xs, d :: ds, h, k => .cons (k 0 x d rfl rfl) (dpAll_ix (by simpa using h) fun i y e h1 h2 => k (i + 1) y e h1 h2)
theorem w_rep {l : Addr} {xs : List V} {n : Int} (h : H l = some (.lst xs)) (h0 : -1000 ≤ n) (h1 : n ≤ 100000) (hl : xs.length * n.toNat ≤ 100000) (k : ∀ p H2, H p = none → Same H H2 → H2 p = some (.lst (List.replicate n.toNat xs).flatten) → Q (.ref p) H2) : rRep (.ref l) (.int n) H Q :=
  ⟨l, n, xs, rfl, rfl, h, by omega, by omega, Nat.le_trans hl (by decide), fun p np => k p _ np (same_new np) upd_same⟩
/-- a list is the empty one -/
theorem w_eqNil {x y : V} {ds : List PyData} {n : Nat} (hx : Dp K H x (.list ds)) (hy : Dp K H y (.list [])) (g : GoodD (.list ds) n) (hn : n ≤ 64) (q : Q (.bl ds.isEmpty) H) : rEqD K x y H Q := by
  refine w_eqD hx hy (g.shaped hn) (by simp [SeqAt.shaped, PyData.canLay0, PyData.canLayAll0, PyData.depth, PyData.depthAll]) (k := ds.isEmpty) ?_ q
  cases ds <;> simp [PyData.eqv, PyData.eqvAll]
theorem w_neNil {x y : V} {ds : List PyData} {n : Nat} (hx : Dp K H x (.list ds)) (hy : Dp K H y (.list [])) (g : GoodD (.list ds) n) (hn : n ≤ 64) (q : Q (.bl (!ds.isEmpty)) H) : rNeD K x y H Q := by
  refine w_neD hx hy (g.shaped hn) (by simp [SeqAt.shaped, PyData.canLay0, PyData.canLayAll0, PyData.depth, PyData.depthAll]) (k := ds.isEmpty) ?_ q
  cases ds <;> simp [PyData.eqv, PyData.eqvAll]
end
end Bw

/-! Ratios in lowest terms: plain numbers. -/
namespace Rat0
/-- the lowest terms of t over b -/
def by_ (t b : Int) : Int := if b < 0 then -(Int.gcd t b : Int) else (Int.gcd t b : Int)
def top (t b : Int) : Int := t.fdiv (by_ t b)
def bot (t b : Int) : Int := b.fdiv (by_ t b)
/-- in lowest terms -/
structure Low (t b : Int) : Prop where
  pos : 0 < b
  one : Int.gcd t b = 1
theorem by_ne {t b : Int} (h : b ≠ 0) : by_ t b ≠ 0 := by
  have g := Int.gcd_pos_of_ne_zero_right t h
  unfold by_
  split <;> omega
theorem by_dvd_left (t b : Int) : by_ t b ∣ t := by
  unfold by_
  split
  · exact Int.neg_dvd.mpr (Int.gcd_dvd_left t b)
  · exact Int.gcd_dvd_left t b
theorem by_dvd_right (t b : Int) : by_ t b ∣ b := by
  unfold by_
  split
  · exact Int.neg_dvd.mpr (Int.gcd_dvd_right t b)
  · exact Int.gcd_dvd_right t b
theorem by_abs (t b : Int) : (by_ t b).natAbs = Int.gcd t b := by
  unfold by_
  split <;> simp
theorem top_le (t b : Int) : (top t b).natAbs ≤ t.natAbs := by
  unfold top
  rw [Int.fdiv_eq_ediv_of_dvd (by_dvd_left t b), Int.natAbs_ediv_of_dvd (by_dvd_left t b)]
  exact Nat.div_le_self _ _
theorem bot_le (t b : Int) : (bot t b).natAbs ≤ b.natAbs := by
  unfold bot
  rw [Int.fdiv_eq_ediv_of_dvd (by_dvd_right t b), Int.natAbs_ediv_of_dvd (by_dvd_right t b)]
  exact Nat.div_le_self _ _
theorem by_le {t b : Int} (h : b ≠ 0) : (by_ t b).natAbs ≤ b.natAbs := by
  rw [by_abs]
  exact Nat.le_of_dvd (by omega) (Int.gcd_dvd_natAbs_right t b)
theorem bot_pos {t b : Int} (h : b ≠ 0) : 0 < bot t b := by
  have g := Int.gcd_pos_of_ne_zero_right t h
  unfold bot
  rw [Int.fdiv_eq_ediv_of_dvd (by_dvd_right t b)]
  obtain ⟨c, e⟩ := by_dvd_right t b
  have n := by_ne (t := t) h
  have e2 : b / by_ t b = c := by
    exact Int.ediv_eq_of_eq_mul_right n e
  rw [e2]
  by_cases hb : b < 0
  · have eb : by_ t b = -(Int.gcd t b : Int) := if_pos hb
    rw [eb] at e
    have : ¬ c ≤ 0 := fun hc => by
      have h1 : (0 : Int) ≤ -(Int.gcd t b : Int) * c := by
        rw [Int.neg_mul, ← Int.mul_neg]
        exact Int.mul_nonneg (by omega) (by omega)
      omega
    omega
  · have eb : by_ t b = (Int.gcd t b : Int) := if_neg hb
    rw [eb] at e
    have : ¬ c ≤ 0 := fun hc => by
      have h1 : (Int.gcd t b : Int) * c ≤ 0 := Int.mul_nonpos_of_nonneg_of_nonpos (by omega) hc
      omega
    omega
theorem low_of {t b : Int} (h : b ≠ 0) : Low (top t b) (bot t b) := by
  refine ⟨bot_pos h, ?_⟩
  have g := Int.gcd_pos_of_ne_zero_right t h
  have k := Int.gcd_ediv_gcd_ediv_gcd g
  unfold top bot
  rw [Int.fdiv_eq_ediv_of_dvd (by_dvd_left t b), Int.fdiv_eq_ediv_of_dvd (by_dvd_right t b)]
  unfold by_
  split
  · rw [Int.ediv_neg, Int.ediv_neg, Int.neg_gcd, Int.gcd_neg]
    exact k
  · exact k
theorem Low.top {t b : Int} (h : Low t b) : top t b = t := by
  unfold Rat0.top by_
  rw [if_neg (by have := h.pos; omega), h.one]
  exact Int.fdiv_one t
theorem Low.bot {t b : Int} (h : Low t b) : bot t b = b := by
  unfold Rat0.bot by_
  rw [if_neg (by have := h.pos; omega), h.one]
  exact Int.fdiv_one b
theorem Low.neg {t b : Int} (h : Low t b) : Low (-t) b := ⟨h.pos, by rw [Int.neg_gcd]; exact h.one⟩
/-- one turn of the common part's loop -/
theorem gcd_turn (a b : Int) (ha : 0 ≤ a) (hb : 0 < b) : Int.gcd b (a % b) = Int.gcd a b := by
  obtain ⟨m, rfl⟩ := Int.eq_ofNat_of_zero_le ha
  obtain ⟨n, rfl⟩ := Int.eq_ofNat_of_zero_le (Int.le_of_lt hb)
  show Nat.gcd n (m % n) = Nat.gcd m n
  rw [Nat.gcd_comm m n, Nat.gcd_rec n m, Nat.gcd_comm]
theorem add_lt {i j : Int} {a : Nat} (ha : i.natAbs < 2 ^ a) (hb : j.natAbs < 2 ^ a) : (i + j).natAbs < 2 ^ (a + 1) := by
  rw [Nat.pow_succ]
  omega
theorem up_lt {i : Int} {a b : Nat} (ha : i.natAbs < 2 ^ a) (h : a ≤ b) : i.natAbs < 2 ^ b := Nat.lt_of_lt_of_le ha (Nat.pow_le_pow_right (by decide) h)
end Rat0

open PySem PySem.Spec L2 Bw
local macro_rules | `(tactic| wtm_at "look") => `(tactic| first | assumption | with_reducible exact upd_same | ((with_reducible refine' same_at ?ws ?wt); (case ws => assumption); (case wt => wtm_at "look")) | ((with_reducible refine' kb_at ?ws ?wt ?wn); (case ws => assumption); (case wt => wtm_at "look"); (case wn => wtm_at "ne")))
local macro_rules | `(tactic| wtm_at "ne") => `(tactic| first | assumption | ((with_reducible refine Ne.symm ?ws); (case ws => assumption)) | ((with_reducible refine' ne_of_none ?wa ?wb); (case wb => assumption); (case wa => wtm_at "look")) | ((with_reducible refine' Ne.symm (ne_of_none ?wa ?wb)); (case wb => assumption); (case wa => wtm_at "look")))
local macro_rules | `(tactic| wtm_at "seq") => `(tactic| first | assumption | ((with_reducible refine' SqL.of ?ws); (case ws => wtm_at "look")) | ((with_reducible refine' SqT.of ?ws); (case ws => wtm_at "look")) | ((with_reducible refine' Same.seq ?ws ?wt); (case ws => assumption); (case wt => wtm_at "seq")) | ((with_reducible refine' same_t ?ws ?wt); (case ws => assumption); (case wt => wtm_at "seq")))
local macro_rules | `(tactic| wtm_at "ix") => `(tactic| first | assumption | exact atI_nat (j := 0) rfl | exact atI_nat (j := 1) rfl | exact atI_nat (j := 2) rfl | exact atI_nat (j := 3) rfl | exact atI_nat (j := 4) rfl)
local macro_rules | `(tactic| wtm_at "len") => `(tactic| first | (refine sz ?_; simp only [List.length_cons, List.length_nil]; omega) | (refine sz ?_; omega))
local macro_rules | `(tactic| wtm_at "fld") => `(tactic| first | assumption | exact lk_hit | ((with_reducible refine' lk_miss ?wa ?wb); (case wa => decide +kernel); (case wb => wtm_at "fld")) | rfl)
local macro_rules | `(tactic| wtm_at "tyx") => `(tactic| first | assumption | with_reducible exact tyx_int | with_reducible exact tyx_bl | with_reducible exact tyx_str | with_reducible exact tyx_non | ((with_reducible refine' tyx_lst ?wa); (case wa => wtm_at "look")) | ((with_reducible refine' tyx_tup ?wa); (case wa => wtm_at "look")))
local macro_rules | `(tactic| wtm_at "ixn") => `(tactic| first | assumption | exact Evl.ixN_nat (j := 0) (by simp) | exact Evl.ixN_nat (j := 1) (by simp) | exact Evl.ixN_nat (j := 2) (by simp) | rfl)
local macro_rules | `(tactic| wtm_at "cond") => `(tactic| first | assumption | (show (0 : Int) < _; omega) | exact mulL (by omega) | exact mulR (by omega) | exact divU (b := 64) (by omega) (by omega) (by decide) (by decide) | exact powU (a := 200) (by omega) (by decide) (by decide) (by decide))
local macro_rules | `(tactic| wtm_at "xd") => `(tactic| first | assumption | exact xdOk_none | ((with_reducible refine' XdOk.same ?wx ?ws); (case ws => assumption); (case wx => wtm_at "xd")) | ((with_reducible refine' xdOk_at ?wa); (case wa => wtm_at "look")))
local macro_rules | `(tactic| wtm_at "new") => `(tactic| (intro pN nN; generalize eN : upd _ pN _ = HN; have sN := same_gen nN eN; have hN := at_gen eN; clear eN))
local macro_rules | `(tactic| wtm_at "mut") => `(tactic| (generalize eM : upd _ _ _ = HM; have kM := kb_gen eM; have hM := at_gen eM; clear eM; (repeat (first | rw [pf_hit] at hM | rw [pf_nil] at hM | ((rw [pf_miss] at hM); rotate_left; decide +kernel)))))
local macro_rules | `(tactic| wtm_at "make") => `(tactic| (intro pR dR nR ndR neR; generalize eR : upd (upd _ dR _) pR _ = HR; have sR := same_make nR ndR eR; have hR := at_gen eR; clear eR neR))
local macro_rules | `(tactic| wtm_at "shp") => `(tactic| simp [SeqAt.shaped, PyData.canLay0, PyData.canLayAll0, PyData.depth, PyData.depthAll])
local macro_rules | `(tactic| wtm_at "kit") => `(tactic| first | exact kit_int_int | exact kit_int_bool | exact kit_int_str | exact kit_int_list | exact kit_int_tuple | exact kit_int_dict | exact kit_bool_int | exact kit_bool_bool | exact kit_bool_str | exact kit_bool_list | exact kit_bool_tuple | exact kit_bool_dict | exact kit_str_int | exact kit_str_bool | exact kit_str_str | exact kit_str_list | exact kit_str_tuple | exact kit_str_dict | exact kit_list_int | exact kit_list_bool | exact kit_list_str | exact kit_list_list | exact kit_list_tuple | exact kit_list_dict | exact kit_tuple_int | exact kit_tuple_bool | exact kit_tuple_str | exact kit_tuple_list | exact kit_tuple_tuple | exact kit_tuple_dict | exact kit_NoneType_int | exact kit_NoneType_bool | exact kit_NoneType_str | exact kit_NoneType_list | exact kit_NoneType_tuple | exact kit_NoneType_dict | exact kit_dict_int | exact kit_dict_bool | exact kit_dict_str | exact kit_dict_list | exact kit_dict_tuple | exact kit_dict_dict)
local macro_rules | `(tactic| wtm_at "w1") => `(tactic| first
  | with_reducible refine w_seq ?_
  | with_reducible refine w_next ?_
  | with_reducible refine w_set ?_
  | with_reducible refine w_asg ?_
  | with_reducible refine w_par ?_
  | with_reducible refine w_ret ?_
  | with_reducible refine w_drop ?_
  | with_reducible refine w_if ?_
  | with_reducible refine w_ifE ?_
  | ((with_reducible refine' w_var ?wv ?_); (case wv => rfl))
  | with_reducible refine w_c ?_
  | with_reducible refine w_op ?_
  | with_reducible refine w_un ?_
  | with_reducible refine w_I0 ?_
  | with_reducible refine w_U ?_
  | with_reducible refine w_pow10_5 ?_
  | with_reducible refine w_pow10_8 ?_
  | with_reducible refine w_pow10_9 ?_
  | with_reducible refine w_pow10_10 ?_
  | with_reducible refine w_pow10_11 ?_
  | with_reducible refine w_pow10_12 ?_
  | with_reducible refine w_pow10_18 ?_
  | ((with_reducible refine w_I ?wc ?_); (case' wc => try wtm_at "cond"))
  | ((with_reducible refine' w_setL ?wh ?wj ?_); (case wh => wtm_at "look"); (case wj => wtm_at "ixn"); intro hS kS eS; (try dsimp only [List.set_cons_zero, List.set_cons_succ] at eS))
  | ((with_reducible refine w_eq ?wh ?_); (case wh => rfl))
  | ((with_reducible refine w_ne ?wh ?_); (case wh => rfl))
  | with_reducible refine w_is0 ?_
  | with_reducible refine w_isnot0 ?_
  | with_reducible refine w_test ?_
  | with_reducible refine w_tB ?_
  | with_reducible refine w_bl ?_
  | ((with_reducible refine' w_isP ?wa ?wb ?wc ?_); (case wa => assumption); (case wb => assumption); (case wc => wtm_at "xd"))
  | ((with_reducible refine' w_isPt ?wa ?wb ?wc ?_); (case wa => assumption); (case wb => assumption); (case wc => wtm_at "xd"))
  | ((with_reducible refine' w_isPT ?wa ?wt ?wb ?wc ?_); (case wa => assumption); (case wt => wtm_at "look"); (case wb => assumption); (case wc => wtm_at "xd"))
  | with_reducible refine w_bmL ?_
  | with_reducible refine w_bm0 ?_
  | ((with_reducible refine' w_tyL ?wh ?_); (case wh => wtm_at "seq"))
  | with_reducible refine w_callP ?_
  | with_reducible refine w_lcE ?_
  | with_reducible refine w_iStr ?_
  | with_reducible refine w_strE ?_
  | with_reducible refine w_iEnum ?_
  | ((with_reducible refine' w_enum ?wh ?_); (case wh => wtm_at "seq"))
  | with_reducible refine w_yes ?_
  | with_reducible refine w_m1 ?_
  | with_reducible refine w_sl ?_
  | with_reducible refine w_noPart ?_
  | with_reducible refine w_part ?_
  | with_reducible refine w_intE ?_
  | ((with_reducible refine' w_slS ?wh ?_); (case wh => wtm_at "len"))
  | ((with_reducible refine' w_slL ?wh ?_); (case wh => wtm_at "seq"); intro pC HC nC sC hC)
  | with_reducible refine w_m0 ?_
  | with_reducible refine w_isS ?_
  | with_reducible refine w_inS ?_
  | with_reducible refine w_notInS ?_
  | with_reducible refine w_xmk ?_
  | with_reducible refine w_xv ?_
  | with_reducible refine w_xv0 ?_
  | ((with_reducible refine' w_aug ?wv ?_); (case wv => rfl))
  | with_reducible refine w_ipI ?_
  | with_reducible refine w_rAdd ?_
  | with_reducible refine w_faug ?_
  | ((with_reducible refine' w_faug1 ?wh ?wc ?wn ?wl ?_); (case wh => wtm_at "look"); (case wc => assumption); (case wn => assumption); (case wl => wtm_at "fld"))
  | ((with_reducible refine' w_faug2 ?wh ?wl ?_); (case wh => wtm_at "look"); (case wl => (simp only [List.length_cons, List.length_nil]; omega)); wtm_at "mut")
  | with_reducible refine w_xfE ?_
  | ((with_reducible refine' w_xf ?wa ?wn ?wh ?wl ?_); (case wa => assumption); (case wn => assumption); (case wh => wtm_at "look"); (case wl => wtm_at "fld"))
  | ((with_reducible refine' w_cat ?wh ?wi ?wl ?_); (case wh => wtm_at "look"); (case wi => wtm_at "look"); (case wl => wtm_at "len"); intro pC HC nC sC hC; (try dsimp only [List.cons_append, List.nil_append] at hC))
  | with_reducible refine w_and ?_
  | with_reducible refine w_or ?_
  | with_reducible refine w_not ?_
  | with_reducible refine w_andV ?_
  | with_reducible refine w_orV ?_
  | with_reducible refine w_notV ?_
  | with_reducible refine w_chain ?_
  | with_reducible refine w_cons ?_
  | with_reducible refine w_nil ?_
  | with_reducible refine w_call ?_
  | with_reducible refine w_cb ?_
  | with_reducible refine w_tupE ?_
  | with_reducible refine w_lstE ?_
  | with_reducible refine w_abs ?_
  | with_reducible refine w_max ?_
  | with_reducible refine w_min ?_
  | with_reducible refine w_intI ?_
  | with_reducible refine w_intB ?_
  | ((with_reducible refine' w_lenL ?wh ?_); (case wh => wtm_at "seq"))
  | ((with_reducible refine' w_lenS ?wh ?_); (case wh => wtm_at "len"))
  | ((with_reducible refine' w_ixL ?wh ?wa ?_); (case wh => wtm_at "seq"); (case wa => wtm_at "ix"))
  | ((with_reducible refine' w_ixT ?wh ?wa ?_); (case wh => wtm_at "seq"); (case wa => wtm_at "ix"))
  | with_reducible refine w_gname ?_
  | with_reducible refine w_gsub ?_
  | with_reducible refine w_fldE ?_
  | ((with_reducible refine' w_fld ?wh ?wc ?wn ?wl ?_); (case wh => wtm_at "look"); (case wc => assumption); (case wn => assumption); (case wl => wtm_at "fld"))
  | with_reducible refine w_two ?_
  | with_reducible refine w_forE ?_
  | with_reducible refine w_iTup ?_
  | with_reducible refine w_iList ?_
  | with_reducible refine w_iRng1 ?_
  | with_reducible refine w_iRng2 ?_
  | ((with_reducible refine' w_itT ?wh ?_); (case wh => wtm_at "seq"))
  | ((with_reducible refine' w_itL ?wh ?_); (case wh => wtm_at "seq"))
  | with_reducible refine w_methE ?_
  | ((with_reducible refine' w_meth ?wh ?wl ?_); (case wh => wtm_at "look"); (case wl => wtm_at "fld"))
  | with_reducible refine w_makeE ?_
  | ((with_reducible refine makeG ?_); wtm_at "make")
  | ((with_reducible refine' w_isiB ?wt ?wk ?_); (case wt => wtm_at "tyx"); (case wk => wtm_at "kit"))
  | with_reducible refine w_sfld ?_
  | with_reducible refine w_gfldE ?_
  | ((with_reducible refine' w_st ?wh ?wc ?wn ?wl ?_); (case wh => wtm_at "look"); (case wc => assumption); (case wn => assumption); (case wl => (simp only [List.length_cons, List.length_nil]; omega)); wtm_at "mut")
  | ((with_reducible refine' w_gtup ?wh ?wn ?_); (case wh => wtm_at "seq"); (case wn => rfl))
  | with_reducible refine w_gcons ?_
  | with_reducible refine w_gnil ?_
  | with_reducible refine iteT ?_
  | with_reducible refine iteF ?_
  | ((with_reducible refine' iteT' ?wb ?_); (case wb => rfl))
  | ((with_reducible refine' iteF' ?wb ?_); (case wb => rfl))
  | ((with_reducible refine newL ?wl ?_); (case wl => wtm_at "len"); wtm_at "new"))
local macro_rules | `(tactic| wtm_at "w0") => `(tactic| dsimp only [cxOf, L2H.cxH, Cx.nox, Cx.wish, L2.start, List.map_cons, List.map_nil, List.length_cons, List.length_nil, List.cons_append, List.nil_append, List.replicate, Nat.reduceAdd, Nat.reduceSub])
local macro_rules | `(tactic| wtm_at "wp") => `(tactic| repeat (wtm_at "w1"))

namespace K33
def topS (i : Nat) : Stmt := PySem.Challenge.pw_blocksearch_k33_sums_and_greatest.main.body.getD i (.Pass ⟨0, 0, 0, 0⟩)
structure Txt (K : PySem.W.Frag) (mg : Str → Option Value) (C_Ratio : Addr) : Prop where
  cl_Ratio : Cls K C_Ratio
  m_Ratio : mg "Ratio" = some (.ref C_Ratio)
  na_Ratio_top : NoAttr K C_Ratio "top"
  na_Ratio_bottom : NoAttr K C_Ratio "bottom"
  c_FARTHEST : ∃ t, mg "FARTHEST" = some (.int (10 ^ 300) t)
  n_isinstance : mg "isinstance" = none
  n_bool : mg "bool" = none
  n_int : mg "int" = none
  n_list : mg "list" = none
  n_tuple : mg "tuple" = none
  n_len : mg "len" = none
  n_max : mg "max" = none
  n_min : mg "min" = none
  n_range : mg "range" = none
  n_abs : mg "abs" = none
  n_enumerate : mg "enumerate" = none
abbrev s_law_plus : Stmt := topS 17
theorem sc_law_plus : FnScope ["_law_one", "_law_other"] ["_law_one", "_law_other"] (defScope s_law_plus) := ⟨rfl, rfl, rfl, by decide +kernel, rfl, by decide +kernel, by decide +kernel⟩
abbrev s_law_less : Stmt := topS 18
theorem sc_law_less : FnScope ["_law_one", "_law_other"] ["_law_one", "_law_other"] (defScope s_law_less) := ⟨rfl, rfl, rfl, by decide +kernel, rfl, by decide +kernel, by decide +kernel⟩
abbrev s_law_is_ratio : Stmt := topS 19
theorem sc_law_is_ratio : FnScope ["_law_told", "_law_due", "_law_number"] ["_law_told", "_law_due"] (defScope s_law_is_ratio) := ⟨rfl, rfl, rfl, by decide +kernel, rfl, by decide +kernel, by decide +kernel⟩
section
variable {P : Program} {w : World} {K : PySem.W.Frag} {mg : Str → Option Value} {base : Heap} {C_Ratio : Addr}
/-! ### ratios: the program's defs -/
abbrev s_is_figured : Stmt := topS 7
theorem sc_is_figured : FnScope ["thing"] ["thing"] (defScope s_is_figured) := ⟨rfl, rfl, rfl, by decide +kernel, rfl, by decide +kernel, by decide +kernel⟩
abbrev s_common_part : Stmt := topS 8
theorem sc_common_part : FnScope ["one", "other"] ["one", "other"] (defScope s_common_part) := ⟨rfl, rfl, rfl, by decide +kernel, rfl, by decide +kernel, by decide +kernel⟩
abbrev s_Ratio___init__ : Stmt := inClass (topS 9) 0
theorem sc_Ratio___init__ : FnScope ["self", "top", "bottom", "e"] ["self", "top", "bottom"] (defScope s_Ratio___init__) := ⟨rfl, rfl, rfl, by decide +kernel, rfl, by decide +kernel, by decide +kernel⟩
abbrev s_Ratio_set_lowest : Stmt := inClass (topS 9) 1
theorem sc_Ratio_set_lowest : FnScope ["self", "top", "bottom", "by"] ["self", "top", "bottom"] (defScope s_Ratio_set_lowest) := ⟨rfl, rfl, rfl, by decide +kernel, rfl, by decide +kernel, by decide +kernel⟩
abbrev s_Ratio_plus : Stmt := inClass (topS 9) 5
theorem sc_Ratio_plus : FnScope ["self", "other"] ["self", "other"] (defScope s_Ratio_plus) := ⟨rfl, rfl, rfl, by decide +kernel, rfl, by decide +kernel, by decide +kernel⟩
abbrev s_Ratio_is_less : Stmt := inClass (topS 9) 7
theorem sc_Ratio_is_less : FnScope ["self", "other"] ["self", "other"] (defScope s_Ratio_is_less) := ⟨rfl, rfl, rfl, by decide +kernel, rfl, by decide +kernel, by decide +kernel⟩
abbrev s_made_of : Stmt := topS 10
theorem sc_made_of : FnScope ["top", "bottom", "made"] ["top", "bottom"] (defScope s_made_of) := ⟨rfl, rfl, rfl, by decide +kernel, rfl, by decide +kernel, by decide +kernel⟩
def spGcd : Sp := fun vs H Q _ => ∃ a b : Int, vs = [.int a, .int b] ∧ Q (.int (Int.gcd a b)) H
theorem ok_common {f : Addr} {fd : FuncData} (F : Fun K "common_part" "common_part" s_common_part f fd) (T : Txt K mg C_Ratio) : FnOk P w K mg base CX0 1 f fd ["one", "other"] spGcd := by
  refine F.ok sc_common_part (fun vs H Q E h => ?_) (fun cdv A outer s H vs Q E hr h => ?_)
  · obtain ⟨a, b, rfl, _⟩ := h
    rfl
  · obtain ⟨a, b, rfl, k⟩ := h
    refine ⟨_, (pss_cons (ps_par (i := 0) (j := 1) (by rfl) sc_common_part.nd rfl rfl (by decide) rfl rfl (pa_cons (pe_callB cl_abs (by rfl) T.n_abs PyProof.Rows.boot_abs (pa_cons (pv 0) pa_nil)) (pa_cons (pe_callB cl_abs (by rfl) T.n_abs PyProof.Rows.boot_abs (pa_cons (pv 1) pa_nil)) pa_nil)) (by rfl))
 (pss_cons (ps_while PassesOwn.never (pt_cmpR op_ne (pv 1) pe_int (nomark _))
 (pss_one (ps_par (i := 0) (j := 1) (by rfl) sc_common_part.nd rfl rfl (by decide) rfl rfl (pa_cons (pv 1) (pa_cons (pe_op op_mod (pv 0) (pv 1)) pa_nil)) (by rfl))))
 (pss_one (ps_ret (pv 0))))), ?_⟩
    wtm_at "w0"
    wtm_at "wp"
    refine ⟨fun m σ H' => H' = H ∧ ∃ x y : Nat, σ = [some (.int x), some (.int y)] ∧ Nat.gcd x y = Int.gcd a b ∧ y = m, ⟨b.natAbs, rfl, a.natAbs, b.natAbs, rfl, rfl, rfl⟩, ?_⟩
    rintro m σ H' ⟨rfl, x, y, rfl, e, rfl⟩
    wtm_at "wp"
    cases y with
    | zero =>
      refine iteF ?_
      wtm_at "wp"
      rw [Nat.gcd_zero_right] at e
      rw [← e] at k
      exact k
    | succ y =>
      refine iteT ?_
      refine w_loopT ?_
      wtm_at "wp"
      refine ⟨(x % (y + 1)), Nat.mod_lt _ (Nat.succ_pos _), rfl, y + 1, x % (y + 1), rfl, ?_, rfl⟩
      rw [← e, Nat.gcd_comm x, Nat.gcd_rec (y + 1) x, Nat.gcd_comm]

def spFig : Sp := fun vs H Q _ => ∃ a : Int, vs = [.int a] ∧ a.natAbs < 10 ^ 300 ∧ Q (.bl true) H
theorem ok_fig {f : Addr} {fd : FuncData} (F : Fun K "is_figured" "is_figured" s_is_figured f fd) (T : Txt K mg C_Ratio) : FnOk P w K mg base CX0 1 f fd ["thing"] spFig := by
  refine F.ok sc_is_figured (fun vs H Q E h => ?_) (fun cdv A outer s H vs Q E hr h => ?_)
  · obtain ⟨a, rfl, _⟩ := h
    rfl
  · obtain ⟨a, rfl, ha, k⟩ := h
    refine ⟨_, (pss_one (ps_ret (pe_and (pe_callB call_isi (by rfl) T.n_isinstance PyProof.Rows.boot_isinstance (pa_cons (pv 0) (pa_cons (pe_bltn (v := .ty "int") (by rfl) T.n_int PyProof.Rows.boot_int rfl) pa_nil))) (pe_and (pe_not (pe_callB call_isi (by rfl) T.n_isinstance PyProof.Rows.boot_isinstance (pa_cons (pv 0) (pa_cons (pe_bltn (v := .ty "bool") (by rfl) T.n_bool PyProof.Rows.boot_bool rfl) pa_nil)))) (pe_one (pe_chain op_lt op_lt (pe_un un_neg (pe_gint T.c_FARTHEST rfl)) (pv 0) (pe_gint T.c_FARTHEST rfl))))))), ?_⟩
    wtm_at "w0"
    wtm_at "wp"
    have e : ((10 : Nat) ^ 300 : Nat) = ((10 : Int) ^ 300) := rfl
    generalize (10 : Int) ^ 300 = z at *
    generalize (10 : Nat) ^ 300 = y at *
    refine w_dec (fun _ => ?_) (fun n => absurd (by omega) n)
    wtm_at "wp"
    rw [decide_eq_true (show a < z by omega)]
    exact k
/-- a ratio at r -/
def RAt (C : Addr) (H : Hp) (r : Addr) (t b : Int) : Prop := ∃ dx, H r = some (.ins C dx [("top", .int t), ("bottom", .int b)])
theorem RAt.same {C : Addr} {H H' : Hp} {r : Addr} {t b : Int} (h : RAt C H r t b) (e : Same H H') : RAt C H' r t b := by
  obtain ⟨dx, h⟩ := h
  exact ⟨dx, e _ _ h⟩
theorem divBy {i t b : Int} (h : b ≠ 0) (hb : b.natAbs < 2 ^ 2000) : CDivU i (Rat0.by_ t b) :=
  divU (b := 2000) (Rat0.by_ne h) (Nat.lt_of_le_of_lt (Rat0.by_le h) hb) (by decide) (by decide)
def spSet (C : Addr) : Sp := fun vs H Q _ => ∃ (r dx : Addr) (t b : Int) (x y : V), vs = [.ref r, .int t, .int b] ∧ H r = some (.ins C dx [("top", x), ("bottom", y)]) ∧ b ≠ 0 ∧ b.natAbs < 2 ^ 2000 ∧
  ∀ H', KB r H H' → H' r = some (.ins C dx [("top", .int (Rat0.top t b)), ("bottom", .int (Rat0.bot t b))]) → Q .non H'
theorem ok_set {f : Addr} {fd : FuncData} (F : Fun K "set_lowest" "Ratio.set_lowest" s_Ratio_set_lowest f fd) (T : Txt K mg C_Ratio) (f_common_part : Fn P w K mg base "common_part" 1 ["one", "other"] spGcd) : FnOk P w K mg base CX0 2 f fd ["self", "top", "bottom"] (spSet C_Ratio) := by
  have hc := T.cl_Ratio
  have h1 := T.na_Ratio_top
  have h2 := T.na_Ratio_bottom
  refine F.ok sc_Ratio_set_lowest (fun vs H Q E h => ?_) (fun cdv A outer s H vs Q E hr h => ?_)
  · obtain ⟨r, dx, t, b, x, y, rfl, _⟩ := h
    rfl
  · obtain ⟨r, dx, t, b, x, y, rfl, ho, hb, hb2, k⟩ := h
    refine ⟨_, (pss_cons (ps_set (i := 3) sc_Ratio_set_lowest.nd rfl (.inl rfl) (pe_fn f_common_part (hr.mono (by decide)) rfl (pa_cons (pv 1) (pa_cons (pv 2) pa_nil))))
 (pss_cons (ps_if (pt_cmpR op_lt (pv 2) pe_int (nomark _))
 (pss_one (ps_set (i := 3) sc_Ratio_set_lowest.nd rfl (.inl rfl) (pe_un un_neg (pv 3))))
 pss_nil)
 (pss_one (ps_asg (pe_tup (pa_cons (pe_op op_fdivU (pv 1) (pv 3)) (pa_cons (pe_op op_fdivU (pv 2) (pv 3)) pa_nil))) (pg_tup rfl (pgs_cons (pg_fld (pv 0)) (pgs_cons (pg_fld (pv 0)) pgs_nil))))))), ?_⟩
    wtm_at "w0"
    wtm_at "wp"
    refine ⟨_, _, rfl, ?_⟩
    wtm_at "wp"
    refine w_dec (fun h => ?_) (fun h => ?_)
    · have eb : Rat0.by_ t b = -(Int.gcd t b : Int) := if_pos h
      have hd : ∀ i, CDivU i (-(Int.gcd t b : Int)) := fun i => eb ▸ divBy hb hb2
      wtm_at "wp"
      · exact hd _
      wtm_at "wp"
      · exact hd _
      wtm_at "wp"
      rename_i pN nN HN sN hN H1 k1 e1 H2 k2 e2
      refine k _ (KB.trans (KB.of sN) (KB.trans k1 k2)) ?_
      rw [e2, Rat0.top, Rat0.bot, eb]
    · have eb : Rat0.by_ t b = (Int.gcd t b : Int) := if_neg h
      have hd : ∀ i, CDivU i (Int.gcd t b : Int) := fun i => eb ▸ divBy hb hb2
      wtm_at "wp"
      · exact hd _
      wtm_at "wp"
      · exact hd _
      wtm_at "wp"
      rename_i pN nN HN sN hN H1 k1 e1 H2 k2 e2
      refine k _ (KB.trans (KB.of sN) (KB.trans k1 k2)) ?_
      rw [e2, Rat0.top, Rat0.bot, eb]

def spInit (C : Addr) : Sp := fun vs H Q _ => ∃ (r dx : Addr) (t b : Int), vs = [.ref r, .int t, .int b] ∧ H r = some (.ins C dx []) ∧ t.natAbs < 10 ^ 300 ∧ b.natAbs < 10 ^ 300 ∧ b ≠ 0 ∧
  ∀ H', KB r H H' → H' r = some (.ins C dx [("top", .int (Rat0.top t b)), ("bottom", .int (Rat0.bot t b))]) → Q .non H'
theorem f300 {n : Nat} (h : n < 10 ^ 300) : n < 2 ^ 2000 := Nat.lt_trans h (by decide +kernel)
theorem ok_init {f : Addr} {fd : FuncData} (F : FunD K "__init__" "Ratio.__init__" (defArgs s_Ratio___init__) (defBody s_Ratio___init__) (defScope s_Ratio___init__) [.int 1] [] f fd) (T : Txt K mg C_Ratio) (f_is_figured : Fn P w K mg base "is_figured" 1 ["thing"] spFig)
    (me_Ratio_set_lowest : Me P w K mg base C_Ratio "set_lowest" 2 ["self", "top", "bottom"] (spSet C_Ratio)) : FnOk P w K mg base CX0 3 f fd ["self", "top", "bottom"] (spInit C_Ratio) := by
  have hc := T.cl_Ratio
  have h1 := T.na_Ratio_top
  have h2 := T.na_Ratio_bottom
  refine F.ok sc_Ratio___init__ (fun vs H Q E h => ?_) (fun cdv A outer s H vs Q E hr h => ?_)
  · obtain ⟨r, dx, t, b, rfl, _⟩ := h
    rfl
  · obtain ⟨r, dx, t, b, rfl, ho, ht, hb, hb0, k⟩ := h
    refine ⟨_, PSs.nox (pss_cons (ps_if (PW.pt (pw_or (pt_not (pt_val (pe_fn f_is_figured (hr.mono (by decide)) rfl (pa_cons (pv 1) pa_nil)))) (pw_or1 (pt_not (pt_val (pe_fn f_is_figured (hr.mono (by decide)) rfl (pa_cons (pv 2) pa_nil)))))))
 (pss_one (ps_never))
 pss_nil)
 (pss_cons (ps_try_thru0 (pss_one (ps_fld (pv 0) (pe_op op_fdivU (pv 1) (pv 2)) rfl)))
 (pss_cons (ps_fld (pv 0) pe_int rfl)
 (pss_one (ps_expr (pe_me (pv 0) T.cl_Ratio me_Ratio_set_lowest (hr.mono (by decide)) (pa_cons (pv 1) (pa_cons (pv 2) pa_nil)))))))), ?_⟩
    wtm_at "w0"
    wtm_at "wp"
    refine ⟨_, rfl, ht, ?_⟩
    wtm_at "wp"
    refine ⟨_, rfl, hb, ?_⟩
    wtm_at "wp"
    · exact divU hb0 (f300 hb) (by decide) (by decide)
    wtm_at "wp"
    rename_i H1 k1 e1 H2 k2 e2
    refine ⟨r, dx, t, b, _, _, rfl, e2, hb0, f300 hb, fun H3 k3 e3 => ?_⟩
    exact k _ (k1.trans (k2.trans k3)) e3
def spMade (C : Addr) : Sp := fun vs H Q _ => ∃ (t b : Int), vs = [.int t, .int b] ∧ b ≠ 0 ∧ b.natAbs < 2 ^ 2000 ∧
  ∀ r H', H r = none → Same H H' → RAt C H' r (Rat0.top t b) (Rat0.bot t b) → Q (.ref r) H'
theorem ok_made {f : Addr} {fd : FuncData} (F : Fun K "made_of" "made_of" s_made_of f fd) (T : Txt K mg C_Ratio) (mk_Ratio_1 : Mkr P w K mg base "Ratio" C_Ratio 3 ["self", "top", "bottom"] [.int 1] (spInit C_Ratio))
    (me_Ratio_set_lowest : Me P w K mg base C_Ratio "set_lowest" 2 ["self", "top", "bottom"] (spSet C_Ratio)) : FnOk P w K mg base CX0 5 f fd ["top", "bottom"] (spMade C_Ratio) := by
  have hc := T.cl_Ratio
  refine F.ok sc_made_of (fun vs H Q E h => ?_) (fun cdv A outer s H vs Q E hr h => ?_)
  · obtain ⟨t, b, rfl, _⟩ := h
    rfl
  · obtain ⟨t, b, rfl, hb0, hb, k⟩ := h
    refine ⟨_, (pss_cons (ps_set (i := 2) sc_made_of.nd rfl (.inl rfl) (pe_mkr mk_Ratio_1 (hr.mono (by decide)) rfl (pa_cons pe_int pa_nil)))
 (pss_cons (ps_expr (pe_me (pv 2) T.cl_Ratio me_Ratio_set_lowest (hr.mono (by decide)) (pa_cons (pv 0) (pa_cons (pv 1) pa_nil))))
 (pss_one (ps_ret (pv 2))))), ?_⟩
    wtm_at "w0"
    wtm_at "wp"
    rename_i r dr nr nd H1 s1 h1
    refine ⟨r, dr, 0, 1, rfl, h1, by decide +kernel, by decide +kernel, by decide, fun H2 k2 e2 => ⟨rfl, ?_⟩⟩
    wtm_at "wp"
    refine ⟨r, dr, t, b, _, _, rfl, e2, hb0, hb, fun H3 k3 e3 => ?_⟩
    wtm_at "wp"
    exact k r H3 nr ((k2.trans k3).same s1 nr) ⟨dr, e3⟩
/-- both together, multiplied, less -/
def spPlus (C : Addr) : Sp := fun vs H Q _ => ∃ (r r' : Addr) (a b c d : Int), vs = [.ref r, .ref r'] ∧ RAt C H r a b ∧ RAt C H r' c d ∧ b ≠ 0 ∧ d ≠ 0 ∧
  a.natAbs < 2 ^ 900 ∧ b.natAbs < 2 ^ 900 ∧ c.natAbs < 2 ^ 900 ∧ d.natAbs < 2 ^ 900 ∧
  ∀ q H', H q = none → Same H H' → RAt C H' q (Rat0.top (a * d + c * b) (b * d)) (Rat0.bot (a * d + c * b) (b * d)) → Q (.ref q) H'
def spTimes (C : Addr) : Sp := fun vs H Q _ => ∃ (r r' : Addr) (a b c d : Int), vs = [.ref r, .ref r'] ∧ RAt C H r a b ∧ RAt C H r' c d ∧ b ≠ 0 ∧ d ≠ 0 ∧
  a.natAbs < 2 ^ 900 ∧ b.natAbs < 2 ^ 900 ∧ c.natAbs < 2 ^ 900 ∧ d.natAbs < 2 ^ 900 ∧
  ∀ q H', H q = none → Same H H' → RAt C H' q (Rat0.top (a * c) (b * d)) (Rat0.bot (a * c) (b * d)) → Q (.ref q) H'
def spLess (C : Addr) : Sp := fun vs H Q _ => ∃ (r r' : Addr) (a b c d : Int), vs = [.ref r, .ref r'] ∧ RAt C H r a b ∧ RAt C H r' c d ∧
  a.natAbs < 2 ^ 900 ∧ b.natAbs < 2 ^ 900 ∧ c.natAbs < 2 ^ 900 ∧ d.natAbs < 2 ^ 900 ∧ Q (.bl (decide (a * d < c * b))) H
theorem mulB {i j : Int} (hi : i.natAbs < 2 ^ 900) (hj : j.natAbs < 2 ^ 900) : CMulU i j := mulW hi hj (by decide) (by decide) (by decide)
theorem ok_plus {f : Addr} {fd : FuncData} (F : Fun K "plus" "Ratio.plus" s_Ratio_plus f fd) (T : Txt K mg C_Ratio) (f_made_of : Fn P w K mg base "made_of" 5 ["top", "bottom"] (spMade C_Ratio)) : FnOk P w K mg base CX0 6 f fd ["self", "other"] (spPlus C_Ratio) := by
  have hc := T.cl_Ratio
  have h1 := T.na_Ratio_top
  have h2 := T.na_Ratio_bottom
  refine F.ok sc_Ratio_plus (fun vs H Q E h => ?_) (fun cdv A outer s H vs Q E hr h => ?_)
  · obtain ⟨r, r', a, b, c, d, rfl, _⟩ := h
    rfl
  · obtain ⟨r, r', a, b, c, d, rfl, ⟨d1, o1⟩, ⟨d2, o2⟩, hb, hd, la, lb, lc, ld, k⟩ := h
    refine ⟨_, (pss_one (ps_ret (pe_fn f_made_of (hr.mono (by decide)) rfl (pa_cons (pe_op op_add (pe_op op_mulU (pe_fld (pv 0) rfl) (pe_fld (pv 1) rfl)) (pe_op op_mulU (pe_fld (pv 1) rfl) (pe_fld (pv 0) rfl))) (pa_cons (pe_op op_mulU (pe_fld (pv 0) rfl) (pe_fld (pv 1) rfl)) pa_nil))))), ?_⟩
    wtm_at "w0"
    wtm_at "wp"
    · exact mulB la ld
    wtm_at "wp"
    · exact mulB lc lb
    wtm_at "wp"
    · exact mulB lb ld
    wtm_at "wp"
    refine ⟨_, _, rfl, Int.mul_ne_zero hb hd, Nat.lt_trans (wide_lt lb ld) (by decide +kernel), ?_⟩
    exact k
theorem ok_less {f : Addr} {fd : FuncData} (F : Fun K "is_less" "Ratio.is_less" s_Ratio_is_less f fd) (T : Txt K mg C_Ratio) : FnOk P w K mg base CX0 1 f fd ["self", "other"] (spLess C_Ratio) := by
  have hc := T.cl_Ratio
  have h1 := T.na_Ratio_top
  have h2 := T.na_Ratio_bottom
  refine F.ok sc_Ratio_is_less (fun vs H Q E h => ?_) (fun cdv A outer s H vs Q E hr h => ?_)
  · obtain ⟨r, r', a, b, c, d, rfl, _⟩ := h
    rfl
  · obtain ⟨r, r', a, b, c, d, rfl, ⟨d1, o1⟩, ⟨d2, o2⟩, la, lb, lc, ld, k⟩ := h
    refine ⟨_, (pss_one (ps_ret (pe_cmpR op_lt (pe_op op_mulU (pe_fld (pv 0) rfl) (pe_fld (pv 1) rfl)) (pe_op op_mulU (pe_fld (pv 1) rfl) (pe_fld (pv 0) rfl)) (nomark _)))), ?_⟩
    wtm_at "w0"
    wtm_at "wp"
    · exact mulB la ld
    wtm_at "wp"
    · exact mulB lc lb
    wtm_at "wp"
    exact k

abbrev s_law_low : Stmt := topS 16
theorem sc_law_low : FnScope ["_law_upper", "_law_lower", "_law_one", "_law_other"] ["_law_upper", "_law_lower"] (defScope s_law_low) := ⟨rfl, rfl, rfl, by decide +kernel, rfl, by decide +kernel, by decide +kernel⟩
/-! ### the law's own reckoning -/
def spLow (K : PySem.W.Frag) : Sp := fun vs H Q _ => ∃ (t b : Int), vs = [.int t, .int b] ∧ b ≠ 0 ∧ b.natAbs < 2 ^ 2000 ∧
  ∀ p H', H p = none → Same H H' → H' p = some (.tup [.int (Rat0.top t b), .int (Rat0.bot t b)]) → Q (.ref p) H'
theorem ok_low {f : Addr} {fd : FuncData} (F : Fun K "_law_low" "_law_low" s_law_low f fd) (T : Txt K mg C_Ratio) : FnOk P w K mg base CX0 1 f fd ["_law_upper", "_law_lower"] (spLow K) := by
  refine F.ok sc_law_low (fun vs H Q E h => ?_) (fun cdv A outer s H vs Q E hr h => ?_)
  · obtain ⟨a, b, rfl, _⟩ := h
    rfl
  · obtain ⟨a, b, rfl, hb, hb2, k⟩ := h
    refine ⟨_, (pss_cons (ps_par (i := 2) (j := 3) (by rfl) sc_law_low.nd rfl rfl (by decide) rfl rfl (pa_cons (pe_callB cl_abs (by rfl) T.n_abs PyProof.Rows.boot_abs (pa_cons (pv 0) pa_nil)) (pa_cons (pe_callB cl_abs (by rfl) T.n_abs PyProof.Rows.boot_abs (pa_cons (pv 1) pa_nil)) pa_nil)) (by rfl))
 (pss_cons (ps_while PassesOwn.never (pt_cmpR op_gt (pv 3) pe_int (nomark _))
 (pss_one (ps_par (i := 2) (j := 3) (by rfl) sc_law_low.nd rfl rfl (by decide) rfl rfl (pa_cons (pv 3) (pa_cons (pe_op op_mod (pv 2) (pv 3)) pa_nil)) (by rfl))))
 (pss_cons (ps_if (pt_cmpR op_lt (pv 1) pe_int (nomark _))
 (pss_one (ps_set (i := 2) sc_law_low.nd rfl (.inl rfl) (pe_op op_sub pe_int (pv 2))))
 pss_nil)
 (pss_one (ps_ret (pe_tup (pa_cons (pe_op op_fdivU (pv 0) (pv 2)) (pa_cons (pe_op op_fdivU (pv 1) (pv 2)) pa_nil)))))))), ?_⟩
    wtm_at "w0"
    wtm_at "wp"
    refine ⟨fun m σ H' => H' = H ∧ ∃ x y : Nat, σ = [some (.int a), some (.int b), some (.int x), some (.int y)] ∧ Nat.gcd x y = Int.gcd a b ∧ y = m, ⟨b.natAbs, rfl, a.natAbs, b.natAbs, rfl, rfl, rfl⟩, ?_⟩
    rintro m σ H' ⟨rfl, x, y, rfl, e, rfl⟩
    wtm_at "wp"
    cases y with
    | zero =>
      refine iteF ?_
      rw [Nat.gcd_zero_right] at e
      subst e
      wtm_at "wp"
      refine w_dec (fun h => ?_) (fun h => ?_)
      · have eb : Rat0.by_ a b = -(Int.gcd a b : Int) := if_pos h
        have eb' : Rat0.by_ a b = 0 - (Int.gcd a b : Int) := by omega
        have hd : ∀ i, CDivU i (0 - (Int.gcd a b : Int)) := fun i => eb' ▸ divBy hb hb2
        wtm_at "wp"
        · exact hd _
        wtm_at "wp"
        · exact hd _
        wtm_at "wp"
        rename_i pN nN HN sN hN
        refine k _ _ nN sN ?_
        rw [hN, Rat0.top, Rat0.bot, eb']
      · have eb : Rat0.by_ a b = (Int.gcd a b : Int) := if_neg h
        have hd : ∀ i, CDivU i (Int.gcd a b : Int) := fun i => eb ▸ divBy hb hb2
        wtm_at "wp"
        · exact hd _
        wtm_at "wp"
        · exact hd _
        wtm_at "wp"
        rename_i pN nN HN sN hN
        refine k _ _ nN sN ?_
        rw [hN, Rat0.top, Rat0.bot, eb]
    | succ y =>
      refine w_dec (fun _ => ?_) (fun n => absurd (by omega) n)
      refine w_loopT ?_
      wtm_at "wp"
      refine ⟨(x % (y + 1)), Nat.mod_lt _ (Nat.succ_pos _), rfl, y + 1, x % (y + 1), rfl, ?_, rfl⟩
      rw [← e, Nat.gcd_comm x, Nat.gcd_rec (y + 1) x, Nat.gcd_comm]

abbrev s_law_purse : Stmt := topS 14
theorem sc_law_purse : FnScope ["_law_script", "_law_at", "_law_cell", "_law_great"] ["_law_script", "_law_at"] (defScope s_law_purse) := ⟨rfl, rfl, rfl, by decide +kernel, rfl, by decide +kernel, by decide +kernel⟩
abbrev s_law_take : Stmt := topS 15
theorem sc_law_take : FnScope ["_law_purse_here", "_law_many", "_law_digit", "_law_one"] ["_law_purse_here", "_law_many"] (defScope s_law_take) := ⟨rfl, rfl, rfl, by decide +kernel, rfl, by decide +kernel, by decide +kernel⟩
/-! ### draws -/
/-- a purse at p: three numbers -/
def Purse (H : Hp) (p : Addr) (n : Nat) : Prop := ∃ a b c : Int, H p = some (.lst [.int a, .int b, .int c]) ∧ 0 ≤ a ∧ 0 ≤ b ∧ b < 10 ^ 30 ∧ 0 ≤ c ∧ c ≤ n
theorem Purse.mono {H H' : Hp} {p : Addr} {n n' : Nat} (h : Purse H p n) (e : Same H H') (hn : n ≤ n') : Purse H' p n' := by
  obtain ⟨a, b, c, h, h1, h2, h3, h4, h5⟩ := h
  exact ⟨a, b, c, e _ _ h, h1, h2, h3, h4, by omega⟩
def spTake : Sp := fun vs H Q _ => ∃ (p : Addr) (m : Int) (n : Nat), vs = [.ref p, .int m] ∧ Purse H p n ∧ n ≤ 10 ^ 9 ∧ 0 < m ∧ m ≤ 10 ^ 12 ∧
  ∀ (d : Int) H', 0 ≤ d → d < m → KB p H H' → Purse H' p (n + 1) → Q (.int d) H'
theorem ok_take {f : Addr} {fd : FuncData} (F : Fun K "_law_take" "_law_take" s_law_take f fd) : FnOk P w K mg base CX0 1 f fd ["_law_purse_here", "_law_many"] spTake := by
  refine F.ok sc_law_take (fun vs H Q E h => ?_) (fun cdv A outer s H vs Q E hr h => ?_)
  · obtain ⟨p, m, n, rfl, _⟩ := h
    rfl
  · obtain ⟨p, m, n, rfl, ⟨a, b, c, hp, ha, hb, hb2, hc, hc2⟩, hn, hm, hm2, k⟩ := h
    have hb2' : b < 1000000000000000000000000000000 := hb2
    have hn' : n ≤ 1000000000 := hn
    have hm2' : m ≤ 1000000000000 := hm2
    have hcc : (c + 1) * (c + 1) ≤ 1000000001 * 1000000001 := Int.mul_le_mul (by omega) (by omega) (by omega) (by omega)
    have hcc0 : 0 ≤ (c + 1) * (c + 1) := Int.mul_nonneg (by omega) (by omega)
    refine ⟨_, (pss_cons (ps_if (pt_cmpR op_gt (pe_ix ix_list (pv 0) pe_int (fun _ _ => rfl)) pe_int (nomark _))
 (pss_cons (ps_set (i := 2) sc_law_take.nd rfl (.inl rfl) (pe_op op_mod (pe_ix ix_list (pv 0) pe_int (fun _ _ => rfl)) (pv 1)))
 (pss_cons (ps_asg (pe_op op_fdivU (pe_ix ix_list (pv 0) pe_int (fun _ _ => rfl)) (pv 1)) (pg_sub (pv 0) pe_int set_list))
 (pss_one (ps_ret (pv 2)))))
 pss_nil)
 (pss_cons (ps_asg (pe_op op_add (pe_ix ix_list (pv 0) pe_int (fun _ _ => rfl)) pe_int) (pg_sub (pv 0) pe_int set_list))
 (pss_cons (ps_set (i := 3) sc_law_take.nd rfl (.inl rfl) (pe_op op_mod (pe_op op_powU (pe_op op_add (pe_ix ix_list (pv 0) pe_int (fun _ _ => rfl)) (pe_op op_mulU (pe_op op_mulU pe_int (pe_ix ix_list (pv 0) pe_int (fun _ _ => rfl))) (pe_ix ix_list (pv 0) pe_int (fun _ _ => rfl)))) pe_int) pe_int))
 (pss_one (ps_ret (pe_op op_mod (pe_op op_fdivU (pe_op op_mod (pe_op op_add (pe_op op_mulU (pv 3) (pe_op op_add (pv 3) pe_int)) (pe_ix ix_list (pv 0) pe_int (fun _ _ => rfl))) pe_int) pe_int) (pv 1))))))), ?_⟩
    wtm_at "w0"
    wtm_at "wp"
    refine w_dec (fun h0 => ?_) (fun h0 => ?_)
    · wtm_at "wp"
      rename_i H1 k1 e1
      refine k _ _ (Int.emod_nonneg _ (by omega)) (Int.emod_lt_of_pos _ hm) k1 ⟨_, _, _, e1, ?_, hb, hb2, hc, by omega⟩
      rw [Int.fdiv_eq_ediv_of_nonneg _ (Int.le_of_lt hm)]
      exact Int.ediv_nonneg ha (Int.le_of_lt hm)
    · wtm_at "wp"
      · refine powU (a := 200) ?_ (by decide) (by decide) (by decide)
        rw [Int.mul_assoc]
        omega
      wtm_at "wp"
      rename_i H1 k1 e1
      exact k _ _ (Int.emod_nonneg _ (by omega)) (Int.emod_lt_of_pos _ hm) k1 ⟨_, _, _, e1, ha, hb, hb2, by omega, by omega⟩
def spPurse (K : PySem.W.Frag) : Sp := fun vs H Q _ => ∃ (a : Addr) (ns : List Int) (j : Nat), vs = [.ref a, .int j] ∧ SqL K H a (ns.map V.int) ∧ j ≤ 63 ∧
  ∀ p H', H p = none → Same H H' → Purse H' p 0 → Q (.ref p) H'
theorem purse_num {c : Int} {j : Nat} (hj : j ≤ 63) : 0 ≤ c % 1000000000000000000 * 1000003 + 7919 * j + 17 ∧ c % 1000000000000000000 * 1000003 + 7919 * j + 17 < 10 ^ 30 := by
  have h1 := Int.emod_nonneg c (show (1000000000000000000 : Int) ≠ 0 by decide)
  have h2 := Int.emod_lt_of_pos c (show (0 : Int) < 1000000000000000000 by decide)
  constructor <;> omega
theorem ok_purse {f : Addr} {fd : FuncData} (F : Fun K "_law_purse" "_law_purse" s_law_purse f fd) (T : Txt K mg C_Ratio) : FnOk P w K mg base CX0 1 f fd ["_law_script", "_law_at"] (spPurse K) := by
  refine F.ok sc_law_purse (fun vs H Q E h => ?_) (fun cdv A outer s H vs Q E hr h => ?_)
  · obtain ⟨a, ns, j, rfl, _⟩ := h
    rfl
  · obtain ⟨a, ns, j, rfl, hS, hj, k⟩ := h
    refine ⟨_, (pss_cons (ps_set (i := 2) sc_law_purse.nd rfl (.inl rfl) pe_int)
 (pss_cons (ps_if (pt_cmpR op_lt (pv 1) (pe_callB cl_len (by rfl) T.n_len PySem.boot_len (pa_cons (pv 0) pa_nil)) (nomark _))
 (pss_one (ps_set (i := 2) sc_law_purse.nd rfl (.inl rfl) (pe_ix ix_list (pv 0) (pv 1) (fun _ _ => rfl))))
 pss_nil)
 (pss_cons (ps_set (i := 3) sc_law_purse.nd rfl (.inl rfl) (pe_op op_mulU (pe_callB cl_abs (by rfl) T.n_abs PyProof.Rows.boot_abs (pa_cons (pv 2) pa_nil)) (pe_callTy cl_int (by rfl) T.n_int PyProof.Rows.boot_int (pa_cons (pe_cmpR op_ge (pe_callB cl_abs (by rfl) T.n_abs PyProof.Rows.boot_abs (pa_cons (pv 2) pa_nil)) (pe_op op_powU pe_int pe_int) (nomark _)) pa_nil))))
 (pss_one (ps_ret (pe_lst (pa_cons (pv 3) (pa_cons (pe_op op_add (pe_op op_add (pe_op op_mulU (pe_op op_mod (pv 2) (pe_op op_powU pe_int pe_int)) pe_int) (pe_op op_mulU pe_int (pv 1))) pe_int) (pa_cons pe_int pa_nil))))))))), ?_⟩
    wtm_at "w0"
    wtm_at "wp"
    refine w_dec (fun h0 => ?_) (fun h0 => ?_)
    · have hl : j < ns.length := by
        rw [List.length_map] at h0
        omega
      have hx : atI (ns.map V.int) (j : Int) = some (.int ns[j]) := atI_nat (by rw [List.getElem?_map, List.getElem?_eq_getElem hl]; rfl)
      wtm_at "wp"
      rename_i p np H1 s1 hp
      exact k _ _ np s1 ⟨_, _, _, hp, Int.mul_nonneg (by omega) (by split <;> omega), (purse_num hj).1, (purse_num hj).2, by omega, by omega⟩
    · wtm_at "wp"
      rename_i p np H1 s1 hp
      exact k _ _ np s1 ⟨_, _, _, hp, Int.mul_nonneg (by omega) (by split <;> omega), (purse_num hj).1, (purse_num hj).2, by omega, by omega⟩

def spLPlus (K : PySem.W.Frag) : Sp := fun vs H Q _ => ∃ (p q : Addr) (a b c d : Int), vs = [.ref p, .ref q] ∧ SqT K H p [.int a, .int b] ∧ SqT K H q [.int c, .int d] ∧ b ≠ 0 ∧ d ≠ 0 ∧
  a.natAbs < 2 ^ 900 ∧ b.natAbs < 2 ^ 900 ∧ c.natAbs < 2 ^ 900 ∧ d.natAbs < 2 ^ 900 ∧
  ∀ o H', H o = none → Same H H' → H' o = some (.tup [.int (Rat0.top (a * d + c * b) (b * d)), .int (Rat0.bot (a * d + c * b) (b * d))]) → Q (.ref o) H'
def spLLess (K : PySem.W.Frag) : Sp := fun vs H Q _ => ∃ (p q : Addr) (a b c d : Int), vs = [.ref p, .ref q] ∧ SqT K H p [.int a, .int b] ∧ SqT K H q [.int c, .int d] ∧
  a.natAbs < 2 ^ 900 ∧ b.natAbs < 2 ^ 900 ∧ c.natAbs < 2 ^ 900 ∧ d.natAbs < 2 ^ 900 ∧ Q (.bl (decide (a * d < c * b))) H
theorem ok_lplus {f : Addr} {fd : FuncData} (F : Fun K "_law_plus" "_law_plus" s_law_plus f fd) (f__law_low : Fn P w K mg base "_law_low" 1 ["_law_upper", "_law_lower"] (spLow K)) : FnOk P w K mg base CX0 2 f fd ["_law_one", "_law_other"] (spLPlus K) := by
  refine F.ok sc_law_plus (fun vs H Q E h => ?_) (fun cdv A outer s H vs Q E hr h => ?_)
  · obtain ⟨r, r', a, b, c, d, rfl, _⟩ := h
    rfl
  · obtain ⟨r, r', a, b, c, d, rfl, o1, o2, hb, hd, la, lb, lc, ld, k⟩ := h
    refine ⟨_, (pss_one (ps_ret (pe_fn f__law_low (hr.mono (by decide)) rfl (pa_cons (pe_op op_add (pe_op op_mulU (pe_ix ix_tup (pv 0) pe_int (fun _ _ => rfl)) (pe_ix ix_tup (pv 1) pe_int (fun _ _ => rfl))) (pe_op op_mulU (pe_ix ix_tup (pv 1) pe_int (fun _ _ => rfl)) (pe_ix ix_tup (pv 0) pe_int (fun _ _ => rfl)))) (pa_cons (pe_op op_mulU (pe_ix ix_tup (pv 0) pe_int (fun _ _ => rfl)) (pe_ix ix_tup (pv 1) pe_int (fun _ _ => rfl))) pa_nil))))), ?_⟩
    wtm_at "w0"
    wtm_at "wp"
    · exact mulB la ld
    wtm_at "wp"
    · exact mulB lc lb
    wtm_at "wp"
    · exact mulB lb ld
    wtm_at "wp"
    refine ⟨_, _, rfl, Int.mul_ne_zero hb hd, Nat.lt_trans (wide_lt lb ld) (by decide +kernel), ?_⟩
    exact k
theorem ok_lless {f : Addr} {fd : FuncData} (F : Fun K "_law_less" "_law_less" s_law_less f fd) : FnOk P w K mg base CX0 1 f fd ["_law_one", "_law_other"] (spLLess K) := by
  refine F.ok sc_law_less (fun vs H Q E h => ?_) (fun cdv A outer s H vs Q E hr h => ?_)
  · obtain ⟨r, r', a, b, c, d, rfl, _⟩ := h
    rfl
  · obtain ⟨r, r', a, b, c, d, rfl, o1, o2, la, lb, lc, ld, k⟩ := h
    refine ⟨_, (pss_one (ps_ret (pe_cmpR op_lt (pe_op op_mulU (pe_ix ix_tup (pv 0) pe_int (fun _ _ => rfl)) (pe_ix ix_tup (pv 1) pe_int (fun _ _ => rfl))) (pe_op op_mulU (pe_ix ix_tup (pv 1) pe_int (fun _ _ => rfl)) (pe_ix ix_tup (pv 0) pe_int (fun _ _ => rfl))) (nomark _)))), ?_⟩
    wtm_at "w0"
    wtm_at "wp"
    · exact mulB la ld
    wtm_at "wp"
    · exact mulB lc lb
    wtm_at "wp"
    exact k
def spIsR (K : PySem.W.Frag) (C : Addr) : Sp := fun vs H Q _ => ∃ (r p : Addr) (a b : Int), vs = [.ref r, .ref p] ∧ RAt C H r a b ∧ SqT K H p [.int a, .int b] ∧ ∀ H', Same H H' → Q (.bl true) H'
theorem ok_isr {f : Addr} {fd : FuncData} (F : Fun K "_law_is_ratio" "_law_is_ratio" s_law_is_ratio f fd) (T : Txt K mg C_Ratio) : FnOk P w K mg base CX0 1 f fd ["_law_told", "_law_due"] (spIsR K C_Ratio) := by
  have hc := T.cl_Ratio
  have h1 := T.na_Ratio_top
  have h2 := T.na_Ratio_bottom
  refine F.ok sc_law_is_ratio (fun vs H Q E h => ?_) (fun cdv A outer s H vs Q E hr h => ?_)
  · obtain ⟨r, p, a, b, rfl, _⟩ := h
    rfl
  · obtain ⟨r, p, a, b, rfl, ⟨dx, ho⟩, hp, k⟩ := h
    refine ⟨_, (pss_cons (ps_for PassesOwn.never rfl (pi_tup (pe_tup (pa_cons (pe_fld (pv 0) rfl) (pa_cons (pe_fld (pv 0) rfl) pa_nil)))) (pg_name (i := 2) sc_law_is_ratio.nd rfl (.inl rfl))
 (pss_one (ps_if (PW.pt (pw_or (pt_not (pt_val (pe_callB call_isi (by rfl) T.n_isinstance PyProof.Rows.boot_isinstance (pa_cons (pv 2) (pa_cons (pe_bltn (v := .ty "int") (by rfl) T.n_int PyProof.Rows.boot_int rfl) pa_nil))))) (pw_or1 (pt_val (pe_callB call_isi (by rfl) T.n_isinstance PyProof.Rows.boot_isinstance (pa_cons (pv 2) (pa_cons (pe_bltn (v := .ty "bool") (by rfl) T.n_bool PyProof.Rows.boot_bool rfl) pa_nil)))))))
 (pss_one (ps_ret pe_bl))
 pss_nil)))
 (pss_one (ps_ret (pe_cmpR (op_eqD hr.units) (pe_tup (pa_cons (pe_fld (pv 0) rfl) (pa_cons (pe_fld (pv 0) rfl) pa_nil))) (pv 1) (nomark _))))), ?_⟩
    wtm_at "w0"
    wtm_at "wp"
    rename_i q nq H1 s1 hq
    refine for_tup (xs := [.int a, .int b]) (fun i σ H' => H' = H1 ∧ ∃ v, σ = [some (.ref r), some (.ref p), v]) ⟨rfl, _, rfl⟩ (fun i σ H' _ ⟨e, _⟩ => e ▸ SqT.of hq) ?_ ?_
    · rintro i x σ H' hx ⟨rfl, v, rfl⟩
      obtain ⟨n, rfl⟩ : ∃ n, x = V.int n := by
        have := List.mem_of_getElem? hx
        simp at this
        rcases this with e | e <;> exact ⟨_, e⟩
      wtm_at "wp"
      exact ⟨rfl, _, rfl⟩
    · rintro σ H' ⟨rfl, v, rfl⟩
      wtm_at "wp"
      rename_i q2 nq2 H2 s2 hq2
      refine w_eqD (dp_t2 (SqT.of hq2)) (dp_t2 (by wtm_at "seq")) (by wtm_at "shp") (by wtm_at "shp") (k := true) (by simp [PyData.eqv, PyData.eqvAll]) ?_
      exact k _ (s1.trans s2)

abbrev s_Ratio___eq__ : Stmt := inClass (topS 9) 2
theorem sc_Ratio___eq__ : FnScope ["self", "other"] ["self", "other"] (defScope s_Ratio___eq__) := ⟨rfl, rfl, rfl, by decide +kernel, rfl, by decide +kernel, by decide +kernel⟩
/-- how two are seen to be alike -/
def RqR (K : PySem.W.Frag) (C : Addr) : Addr → V → Hp → Bool → Prop := fun a y H b => ∃ t u, RAt C H a t u ∧ ((∃ r t' u', y = .ref r ∧ RAt C H r t' u' ∧ b = decide (t = t' ∧ u = u')) ∨ (NotC K H C y ∧ b = false))
theorem ok_req {f : Addr} {fd : FuncData} (F : Fun K "__eq__" "Ratio.__eq__" s_Ratio___eq__ f fd) (T : Txt K mg C_Ratio) (kl : Kls K C_Ratio) : FnOk P w K mg base CX0 1 f fd ["self", "other"] (spEqb (RqR K C_Ratio)) := by
  have hc := T.cl_Ratio
  have h1 := T.na_Ratio_top
  have h2 := T.na_Ratio_bottom
  refine F.ok sc_Ratio___eq__ (fun vs H Q E h => ?_) (fun cdv A outer s H vs Q E hr h => ?_)
  · obtain ⟨a, y, b, rfl, _⟩ := h
    rfl
  · obtain ⟨a, y, b, rfl, ⟨t, u, ⟨d1, o1⟩, hy⟩, k⟩ := h
    refine ⟨_, (pss_cons (ps_if (pt_not (pt_val (pe_callB call_isi (by rfl) T.n_isinstance PyProof.Rows.boot_isinstance (pa_cons (pv 1) (pa_cons (pe_gcls T.m_Ratio rfl) pa_nil)))))
 (pss_one (ps_ret pe_bl))
 pss_nil)
 (pss_one (ps_ret (pe_and (pe_cmpR op_eq (pe_fld (pv 0) rfl) (pe_fld (pv 1) rfl) (nomark _)) (pe_one (pe_cmpR op_eq (pe_fld (pv 0) rfl) (pe_fld (pv 1) rfl) (nomark _))))))), ?_⟩
    wtm_at "w0"
    wtm_at "wp"
    rcases hy with ⟨r, t', u', rfl, ⟨d2, o2⟩, rfl⟩ | ⟨⟨tv, ht, hk⟩, rfl⟩
    · refine w_isiO (kl.ty o2) kit_self ?_
      wtm_at "wp"
      refine w_dec (fun e1 => ?_) (fun e1 => ?_)
      · wtm_at "wp"
        have e : decide (V.int u = V.int u') = decide (t = t' ∧ u = u') := by
          rw [decide_eq_decide]
          exact ⟨fun z => ⟨V.int.inj e1, V.int.inj z⟩, fun z => by rw [z.2]⟩
        rw [e]
        exact k _ (.refl _)
      · have e : decide (t = t' ∧ u = u') = false := decide_eq_false fun z => e1 (by rw [z.1])
        rw [e] at k
        exact k _ (.refl _)
    · refine w_isiO ht hk ?_
      wtm_at "wp"
      exact k _ (.refl _)

end
end K33

namespace K33
abbrev s_total : Stmt := topS 11
theorem sc_total : FnScope ["ratios", "found", "ratio"] ["ratios"] (defScope s_total) := ⟨rfl, rfl, rfl, by decide +kernel, rfl, by decide +kernel, by decide +kernel⟩
abbrev s_greatest : Stmt := topS 12
theorem sc_greatest : FnScope ["ratios", "default", "found", "at", "ratio"] ["ratios", "default"] (defScope s_greatest) := ⟨rfl, rfl, rfl, by decide +kernel, rfl, by decide +kernel, by decide +kernel⟩
abbrev s_law_small_ratio : Stmt := topS 20
theorem sc_law_small_ratio : FnScope ["_law_purse_here", "_law_most", "_law_sign"] ["_law_purse_here"] (defScope s_law_small_ratio) := ⟨rfl, rfl, rfl, by decide +kernel, rfl, by decide +kernel, by decide +kernel⟩
section
variable {P : Program} {w : World} {K : PySem.W.Frag} {mg : Str → Option Value} {base : Heap} {C_Ratio : Addr}
/-! ### lists of ratios -/
abbrev PQ := Int × Int
def Rats (C : Addr) (H : Hp) (xs : List V) (qs : List PQ) : Prop := xs.length = qs.length ∧ ∀ (i : Nat) q, qs[i]? = some q → ∃ r, xs[i]? = some (.ref r) ∧ RAt C H r q.1 q.2
theorem Rats.same {C : Addr} {H H' : Hp} {xs : List V} {qs : List PQ} (h : Rats C H xs qs) (s : Same H H') : Rats C H' xs qs := ⟨h.1, fun i q hq => by
  obtain ⟨r, h1, h2⟩ := h.2 i q hq
  exact ⟨r, h1, h2.same s⟩⟩
theorem Rats.at {C : Addr} {H : Hp} {xs : List V} {qs : List PQ} (h : Rats C H xs qs) {i : Nat} {x : V} (hx : xs[i]? = some x) : ∃ q r, qs[i]? = some q ∧ x = .ref r ∧ RAt C H r q.1 q.2 := by
  have hi : i < xs.length := (List.getElem?_eq_some_iff.mp hx).1
  have hq : i < qs.length := by rw [← h.1]; exact hi
  obtain ⟨r, h1, h2⟩ := h.2 i _ (List.getElem?_eq_getElem hq)
  rw [hx] at h1
  exact ⟨_, r, List.getElem?_eq_getElem hq, Option.some.inj h1, h2⟩
/-- small ones, in lowest terms -/
def okQ (q : PQ) : Prop := Rat0.Low q.1 q.2 ∧ q.1.natAbs < 2 ^ 40 ∧ q.2.natAbs < 2 ^ 40
def okQs (qs : List PQ) : Prop := qs.length ≤ 12 ∧ ∀ q ∈ qs, okQ q
/-- the sum -/
def plusQ (s q : PQ) : PQ := (Rat0.top (s.1 * q.2 + q.1 * s.2) (s.2 * q.2), Rat0.bot (s.1 * q.2 + q.1 * s.2) (s.2 * q.2))
def sumQ (qs : List PQ) : PQ := qs.foldl plusQ (0, 1)
theorem sum_snoc (qs : List PQ) (q : PQ) : sumQ (qs ++ [q]) = plusQ (sumQ qs) q := by
  unfold sumQ
  rw [List.foldl_append]
  rfl
def smallQ (s : PQ) (n : Nat) : Prop := s.2 ≠ 0 ∧ s.1.natAbs < 2 ^ (50 * n + 50) ∧ s.2.natAbs < 2 ^ (50 * n + 50)
theorem plus_small {s q : PQ} {n : Nat} (hs : smallQ s n) (hq : okQ q) : smallQ (plusQ s q) (n + 1) := by
  obtain ⟨s1, s2, s3⟩ := hs
  obtain ⟨⟨q1, _⟩, q2, q3⟩ := hq
  have hne : s.2 * q.2 ≠ 0 := Int.mul_ne_zero s1 (by omega)
  have b1 : (s.1 * q.2).natAbs < 2 ^ (50 * n + 50 + 40) := wide_lt s2 q3
  have b2 : (q.1 * s.2).natAbs < 2 ^ (50 * n + 50 + 40) := by
    rw [Int.mul_comm]
    exact wide_lt s3 q2
  have b3 : (s.2 * q.2).natAbs < 2 ^ (50 * n + 50 + 40) := wide_lt s3 q3
  refine ⟨Int.ne_of_gt (Rat0.bot_pos hne), Nat.lt_of_le_of_lt (Rat0.top_le _ _) (Rat0.up_lt (Rat0.add_lt b1 b2) (by omega)), Nat.lt_of_le_of_lt (Rat0.bot_le _ _) (Rat0.up_lt b3 (by omega))⟩
theorem sum_small {qs : List PQ} (h : ∀ q ∈ qs, okQ q) : ∀ n, n ≤ qs.length → smallQ (sumQ (qs.take n)) n
  | 0, _ => by
    show smallQ (0, 1) 0
    exact ⟨by decide, by decide, by decide⟩
  | n + 1, hn => by
    have hq : qs[n]? = some (qs[n]'(by omega)) := List.getElem?_eq_getElem (by omega)
    rw [take_succL hq, sum_snoc]
    exact plus_small (sum_small h n (by omega)) (h _ (List.getElem_mem _))
theorem small900 {s : PQ} {n : Nat} (h : smallQ s n) (hn : n ≤ 16) : s.1.natAbs < 2 ^ 900 ∧ s.2.natAbs < 2 ^ 900 := ⟨Rat0.up_lt h.2.1 (by omega), Rat0.up_lt h.2.2 (by omega)⟩
theorem ok900 {q : PQ} (h : okQ q) : q.1.natAbs < 2 ^ 900 ∧ q.2.natAbs < 2 ^ 900 := ⟨Rat0.up_lt h.2.1 (by decide), Rat0.up_lt h.2.2 (by decide)⟩
def spTotal (K : PySem.W.Frag) (C : Addr) : Sp := fun vs H Q _ => ∃ (l : Addr) (xs : List V) (qs : List PQ), vs = [.ref l] ∧ H l = some (.lst xs) ∧ Rats C H xs qs ∧ okQs qs ∧ ∀ r H', Same H H' → RAt C H' r (sumQ qs).1 (sumQ qs).2 → Q (.ref r) H'
theorem ok_total {f : Addr} {fd : FuncData} (F : Fun K "total" "total" s_total f fd) (T : Txt K mg C_Ratio) (mk_Ratio_1 : Mkr P w K mg base "Ratio" C_Ratio 3 ["self", "top", "bottom"] [.int 1] (spInit C_Ratio)) (me_Ratio_plus : Me P w K mg base C_Ratio "plus" 6 ["self", "other"] (spPlus C_Ratio)) : FnOk P w K mg base CX0 7 f fd ["ratios"] (spTotal K C_Ratio) := by
  have hc := T.cl_Ratio
  refine F.ok sc_total (fun vs H Q E h => ?_) (fun cdv A outer s H vs Q E hr h => ?_)
  · obtain ⟨l, xs, qs, rfl, _⟩ := h
    rfl
  · obtain ⟨l, xs, qs, rfl, hl, hR, hq, k⟩ := h
    refine ⟨_, (pss_cons (ps_set (i := 1) sc_total.nd rfl (.inl rfl) (pe_mkr mk_Ratio_1 (hr.mono (by decide)) rfl (pa_cons pe_int pa_nil)))
 (pss_cons (ps_for PassesOwn.never rfl (pi_list (pv 0)) (pg_name (i := 2) sc_total.nd rfl (.inl rfl))
 (pss_one (ps_set (i := 1) sc_total.nd rfl (.inl rfl) (pe_me (pv 1) T.cl_Ratio me_Ratio_plus (hr.mono (by decide)) (pa_cons (pv 2) pa_nil)))))
 (pss_one (ps_ret (pv 1))))), ?_⟩
    wtm_at "w0"
    wtm_at "wp"
    rename_i r dr nr nd H1 s1 h1
    refine ⟨r, dr, 0, 1, rfl, h1, by decide +kernel, by decide +kernel, by decide, fun H2 k2 e2 => ⟨rfl, ?_⟩⟩
    have S2 := k2.same s1 nr
    wtm_at "wp"
    refine for_fin (fin_list (xs := xs)) (fun i σ H' => ∃ (v2 : Option V) (r : Addr), σ = [some (.ref l), some (.ref r), v2] ∧ Same H H' ∧ RAt C_Ratio H' r (sumQ (qs.take i)).1 (sumQ (qs.take i)).2) ⟨_, r, rfl, S2, ⟨dr, e2⟩⟩ (fun i σ H' _ h => by obtain ⟨_, _, _, h, _⟩ := h; exact .of (h _ _ hl)) ?_ ?_
    · rintro i x σ H3 H3' hi ⟨v2, r, rfl, s3, hr3⟩ ⟨rfl, hx⟩
      obtain ⟨q, r', hqi, rfl, hrq⟩ := hR.at hx
      have hm := List.mem_of_getElem? hqi
      have b1 := sum_small hq.2 i (by rw [← hR.1]; omega)
      have hl12 := hq.1
      have b2 := small900 b1 (by rw [hR.1] at hi; omega)
      have b3 := ok900 (hq.2 q hm)
      have hq0 := (hq.2 q hm).1.pos
      have hrq3 := hrq.same s3
      obtain ⟨d3, o3⟩ := id hr3
      wtm_at "wp"
      refine ⟨r, r', _, _, _, _, rfl, hr3, hrq3, b1.1, by omega, b2.1, b2.2, b3.1, b3.2, fun p H4 np s4 h4 => ?_⟩
      wtm_at "wp"
      refine ⟨_, p, rfl, s3.trans s4, ?_⟩
      rw [take_succL hqi, sum_snoc]
      exact h4
    · rintro σ H3 ⟨v2, r, rfl, s3, hr3⟩
      rw [hR.1, List.take_length] at hr3
      wtm_at "wp"
      exact k _ _ s3 hr3
/-- the greatest one -/
def maxQ (o : Option PQ) (q : PQ) : Option PQ := match o with
  | none => some q
  | some p => if p.1 * q.2 < q.1 * p.2 then some q else some p
def bestQ (qs : List PQ) : Option PQ := qs.foldl maxQ none
theorem best_snoc (qs : List PQ) (q : PQ) : bestQ (qs ++ [q]) = maxQ (bestQ qs) q := by
  unfold bestQ
  rw [List.foldl_append]
  rfl
theorem best_mem : ∀ {qs : List PQ} (n : Nat) {p : PQ}, bestQ (qs.take n) = some p → n ≤ qs.length → p ∈ qs
  | qs, 0, p, h, _ => by cases h
  | qs, n + 1, p, h, hn => by
    have hq : qs[n]? = some (qs[n]'(by omega)) := List.getElem?_eq_getElem (by omega)
    rw [take_succL hq, best_snoc] at h
    unfold maxQ at h
    cases hb : bestQ (qs.take n) with
    | none =>
      rw [hb] at h
      cases h
      exact List.getElem_mem _
    | some p' =>
      rw [hb] at h
      have := best_mem n hb (by omega)
      simp only at h
      split at h
      · cases h
        exact List.getElem_mem _
      · cases h
        exact this
theorem best_some {qs : List PQ} {n : Nat} (h : 0 < n) (hn : n ≤ qs.length) : ∃ p, bestQ (qs.take n) = some p := by
  obtain ⟨m, rfl⟩ : ∃ m, n = m + 1 := ⟨n - 1, by omega⟩
  have hq : qs[m]? = some (qs[m]'(by omega)) := List.getElem?_eq_getElem (by omega)
  rw [take_succL hq, best_snoc]
  unfold maxQ
  cases bestQ (qs.take m) with
  | none => exact ⟨_, rfl⟩
  | some p =>
    simp only
    split
    · exact ⟨_, rfl⟩
    · exact ⟨_, rfl⟩
def spGreat (K : PySem.W.Frag) (C : Addr) : Sp := fun vs H Q _ => ∃ (l : Addr) (v : V) (xs : List V) (qs : List PQ), vs = [.ref l, v] ∧ H l = some (.lst xs) ∧ Rats C H xs qs ∧ okQs qs ∧
  (qs = [] → ∀ H', Same H H' → Q v H') ∧ (∀ r q H', bestQ qs = some q → Same H H' → RAt C H' r q.1 q.2 → Q (.ref r) H')
theorem ok_great {f : Addr} {fd : FuncData} {kws : List (Str × V)} (F : FunD K "greatest" "greatest" (defArgs s_greatest) (defBody s_greatest) (defScope s_greatest) [] kws f fd) (T : Txt K mg C_Ratio) (me_Ratio_is_less : Me P w K mg base C_Ratio "is_less" 1 ["self", "other"] (spLess C_Ratio)) : FnOk P w K mg base CX0 2 f fd ["ratios", "default"] (spGreat K C_Ratio) := by
  have hc := T.cl_Ratio
  refine F.ok sc_greatest (fun vs H Q E h => ?_) (fun cdv A outer s H vs Q E hr h => ?_)
  · obtain ⟨l, v, xs, qs, rfl, _⟩ := h
    rfl
  · obtain ⟨l, v, xs, qs, rfl, hl, hR, hq, k0, k⟩ := h
    refine ⟨_, PSs.nox (pss_cons (ps_set (i := 2) sc_greatest.nd rfl (.inl rfl) (pv 1))
 (pss_cons (ps_for PassesOwn.never rfl (pi_enum (by rfl) T.n_enumerate (pa_cons (pv 0) pa_nil)) (pg_tup rfl (pgs_cons (pg_name (i := 3) sc_greatest.nd rfl (.inl rfl)) (pgs_cons (pg_name (i := 4) sc_greatest.nd rfl (.inl rfl)) pgs_nil)))
 (pss_one (ps_if (PW.pt (pw_or (pt_cmpR op_eq (pv 3) pe_int (nomark _)) (pw_or1 (pt_val (pe_me (pv 2) T.cl_Ratio me_Ratio_is_less (hr.mono (by decide)) (pa_cons (pv 4) pa_nil))))))
 (pss_one (ps_set (i := 2) sc_greatest.nd rfl (.inl rfl) (pv 4)))
 pss_nil)))
 (pss_one (ps_ret (pv 2))))), ?_⟩
    wtm_at "w0"
    wtm_at "wp"
    refine for_fin (fin_enum (xs := xs)) (fun i σ H' => ∃ (v3 v4 : Option V) (u : V), σ = [some (.ref l), some v, some u, v3, v4] ∧ Same H H' ∧ (i = 0 → u = v) ∧ (0 < i → ∃ r q, u = .ref r ∧ bestQ (qs.take i) = some q ∧ RAt C_Ratio H' r q.1 q.2)) ⟨_, _, v, rfl, .refl _, fun _ => rfl, fun z => absurd z (Nat.lt_irrefl _)⟩ (fun i σ H' _ h => by obtain ⟨_, _, _, _, h, _⟩ := h; exact .of (h _ _ hl)) ?_ ?_
    · rintro i x σ H3 H3' hi ⟨v3, v4, u, rfl, s3, hu0, hu1⟩ ⟨t, y, rfl, nt, st, ht, hy⟩
      obtain ⟨q, r', hqi, rfl, hrq⟩ := hR.at hy
      have S3 := s3.trans st
      have hrq3 := hrq.same S3
      have b3 := ok900 (hq.2 q (List.mem_of_getElem? hqi))
      have hiq : i < qs.length := by rw [← hR.1]; exact hi
      wtm_at "wp"
      by_cases h0 : i = 0
      · subst h0
        refine iteT' (decide_eq_true rfl) ?_
        wtm_at "wp"
        refine ⟨_, _, _, rfl, S3, fun z => absurd z (by decide), fun _ => ⟨r', q, rfl, ?_, hrq3⟩⟩
        rw [take_succL hqi]
        rfl
      · refine iteF' (decide_eq_false (fun z => h0 (by have := V.int.inj z; omega))) ?_
        obtain ⟨r, p, rfl, hb, hrp⟩ := hu1 (by omega)
        have hrp3 := hrp.same st
        have b2 := ok900 (hq.2 p (best_mem i hb (by omega)))
        obtain ⟨d3, o3⟩ := id hrp3
        wtm_at "wp"
        refine ⟨r, r', _, _, _, _, rfl, hrp3, hrq3, b2.1, b2.2, b3.1, b3.2, ?_⟩
        wtm_at "wp"
        refine w_dec (fun hlt => ?_) (fun hlt => ?_)
        · wtm_at "wp"
          refine ⟨_, _, _, rfl, S3, fun z => absurd z (by omega), fun _ => ⟨r', q, rfl, ?_, hrq3⟩⟩
          rw [take_succL hqi, best_snoc, hb]
          unfold maxQ
          simp only
          rw [if_pos hlt]
        · wtm_at "wp"
          refine ⟨_, _, _, rfl, S3, fun z => absurd z (by omega), fun _ => ⟨r, p, rfl, ?_, hrp3⟩⟩
          rw [take_succL hqi, best_snoc, hb]
          unfold maxQ
          simp only
          rw [if_neg hlt]
    · rintro σ H3 ⟨v3, v4, u, rfl, s3, hu0, hu1⟩
      wtm_at "wp"
      by_cases h0 : qs = []
      · rw [hu0 (by rw [hR.1, h0]; rfl)]
        exact k0 h0 _ s3
      · obtain ⟨r, p, rfl, hb, hrp⟩ := hu1 (by rw [hR.1]; exact List.length_pos_iff.mpr h0)
        rw [hR.1, List.take_length] at hb
        exact k _ _ _ hb s3 hrp
def spSmall (K : PySem.W.Frag) : Sp := fun vs H Q _ => ∃ (p : Addr) (n : Nat), vs = [.ref p] ∧ Purse H p n ∧ n ≤ 10 ^ 8 ∧ ∀ o (q : PQ) H', H o = none → okQ q → KB p H H' → Purse H' p (n + 4) → H' o = some (.tup [.int q.1, .int q.2]) → Q (.ref o) H'
theorem ok_small {f : Addr} {fd : FuncData} (F : Fun K "_law_small_ratio" "_law_small_ratio" s_law_small_ratio f fd) (T : Txt K mg C_Ratio) (f__law_take : Fn P w K mg base "_law_take" 1 ["_law_purse_here", "_law_many"] spTake) (f__law_low : Fn P w K mg base "_law_low" 1 ["_law_upper", "_law_lower"] (spLow K)) : FnOk P w K mg base CX0 2 f fd ["_law_purse_here"] (spSmall K) := by
  refine F.ok sc_law_small_ratio (fun vs H Q E h => ?_) (fun cdv A outer s H vs Q E hr h => ?_)
  · obtain ⟨p, n, rfl, _⟩ := h
    rfl
  · obtain ⟨p, n, rfl, hp, hn, k⟩ := h
    have hn' : n ≤ 100000000 := hn
    refine ⟨_, (pss_cons (ps_set (i := 1) sc_law_small_ratio.nd rfl (.inl rfl) (pe_ix ix_list (pe_lst (pa_cons pe_int (pa_cons (pe_op op_powU pe_int pe_int) pa_nil))) (pe_fn f__law_take (hr.mono (by decide)) rfl (pa_cons (pv 0) (pa_cons pe_int pa_nil))) (fun _ _ => rfl)))
 (pss_cons (ps_set (i := 2) sc_law_small_ratio.nd rfl (.inl rfl) (pe_op op_sub pe_int (pe_op op_mulU pe_int (pe_fn f__law_take (hr.mono (by decide)) rfl (pa_cons (pv 0) (pa_cons pe_int pa_nil))))))
 (pss_one (ps_ret (pe_fn f__law_low (hr.mono (by decide)) rfl (pa_cons (pe_op op_mulU (pv 2) (pe_fn f__law_take (hr.mono (by decide)) rfl (pa_cons (pv 0) (pa_cons (pv 1) pa_nil)))) (pa_cons (pe_op op_add pe_int (pe_fn f__law_take (hr.mono (by decide)) rfl (pa_cons (pv 0) (pa_cons (pv 1) pa_nil)))) pa_nil))))))), ?_⟩
    wtm_at "w0"
    wtm_at "wp"
    rename_i q1 n1 H1 s1 h1
    have hpx : ∃ xs, H p = some (.lst xs) := by obtain ⟨a, b, c, h, _⟩ := hp; exact ⟨_, h⟩
    obtain ⟨xs, hpx⟩ := hpx
    have nq1 : q1 ≠ p := (ne_of_none hpx n1).symm
    refine ⟨p, 2, n, rfl, hp.mono s1 (Nat.le_refl _), by omega, by decide, by decide, fun d2 H2 d20 d21 k2 p2 => ?_⟩
    have hat : ∃ m : Int, atI [V.int 4, V.int 10000000000] d2 = some (.int m) ∧ 4 ≤ m ∧ m ≤ 10000000000 := by
      have hd : d2 = 0 ∨ d2 = 1 := by omega
      rcases hd with rfl | rfl
      · exact ⟨_, rfl, by decide, by decide⟩
      · exact ⟨_, rfl, by decide, by decide⟩
    obtain ⟨m, hat, hm0, hm1⟩ := hat
    refine w_ixL (.of (k2 _ _ h1 nq1)) hat ?_
    wtm_at "wp"
    refine ⟨p, 2, _, rfl, p2, by omega, by decide, by decide, fun d3 H3 d30 d31 k3 p3 => ?_⟩
    wtm_at "wp"
    refine ⟨p, m, _, rfl, p3, by omega, by omega, by omega, fun d4 H4 d40 d41 k4 p4 => ?_⟩
    wtm_at "wp"
    refine ⟨p, m, _, rfl, p4, by omega, by omega, by omega, fun d5 H5 d50 d51 k5 p5 => ?_⟩
    wtm_at "wp"
    have hb0 : (1 + d5 : Int) ≠ 0 := by omega
    refine ⟨_, _, rfl, hb0, Nat.lt_trans (show (1 + d5).natAbs < 2 ^ 40 by omega) (by decide +kernel), fun o H6 no s6 h6 => ?_⟩
    have e3 : d3 = 0 ∨ d3 = 1 := by omega
    have l1 : ((1 - 2 * d3) * d4).natAbs < 2 ^ 40 := by
      rcases e3 with rfl | rfl <;> omega
    have KK : KB p H H5 := (KB.of s1).trans (k2.trans (k3.trans (k4.trans k5)))
    have hp5 : ∃ xs, H5 p = some (.lst xs) := by obtain ⟨a, b, c, h, _⟩ := p5; exact ⟨_, h⟩
    obtain ⟨ys, hp5⟩ := hp5
    exact k _ (_, _) _ (kb_newD KK hp5 no) ⟨Rat0.low_of hb0, Nat.lt_of_le_of_lt (Rat0.top_le _ _) l1, Nat.lt_of_le_of_lt (Rat0.bot_le _ _) (by omega)⟩ (KK.trans (KB.of s6)) (p5.mono s6 (by omega)) h6
end
end K33

namespace K33
abbrev s_law_right : Stmt := topS 21
theorem sc_law_right : FnScope ["_law_pairs", "_law_other", "_law_some", "_law_due", "_law_most", "_law_pair", "_law_top", "_law_bottom", "_law_one"] ["_law_pairs", "_law_other"] (defScope s_law_right) := ⟨rfl, rfl, rfl, by decide +kernel, rfl, by decide +kernel, by decide +kernel⟩
section
variable {P : Program} {w : World} {K : PySem.W.Frag} {mg : Str → Option Value} {base : Heap} {C_Ratio : Addr}
/-! ### lists of pairs -/
def Pairs (H : Hp) (ys : List V) (qs : List PQ) : Prop := ys.length = qs.length ∧ ∀ (i : Nat) q, qs[i]? = some q → ∃ t, ys[i]? = some (.ref t) ∧ H t = some (.tup [.int q.1, .int q.2])
theorem Pairs.same {H H' : Hp} {xs : List V} {qs : List PQ} (h : Pairs H xs qs) (s : Same H H') : Pairs H' xs qs := ⟨h.1, fun i q hq => by
  obtain ⟨r, h1, h2⟩ := h.2 i q hq
  exact ⟨r, h1, s _ _ h2⟩⟩
theorem Pairs.at {H : Hp} {xs : List V} {qs : List PQ} (h : Pairs H xs qs) {i : Nat} {x : V} (hx : xs[i]? = some x) : ∃ q t, qs[i]? = some q ∧ x = .ref t ∧ H t = some (.tup [.int q.1, .int q.2]) := by
  have hi : i < xs.length := (List.getElem?_eq_some_iff.mp hx).1
  have hq : i < qs.length := by rw [← h.1]; exact hi
  obtain ⟨r, h1, h2⟩ := h.2 i _ (List.getElem?_eq_getElem hq)
  rw [hx] at h1
  exact ⟨_, r, List.getElem?_eq_getElem hq, Option.some.inj h1, h2⟩
theorem Pairs.snoc {H : Hp} {xs : List V} {qs : List PQ} {t : Addr} {q : PQ} (h : Pairs H xs qs) (ht : H t = some (.tup [.int q.1, .int q.2])) : Pairs H (xs ++ [.ref t]) (qs ++ [q]) := by
  refine ⟨by simp [h.1], fun i p hp => ?_⟩
  rcases Nat.lt_or_ge i qs.length with hi | hi
  · rw [List.getElem?_append_left hi] at hp
    obtain ⟨r, h1, h2⟩ := h.2 i p hp
    exact ⟨r, by rw [List.getElem?_append_left (by rw [h.1]; exact hi)]; exact h1, h2⟩
  · rw [List.getElem?_append_right hi] at hp
    have hi0 : i - qs.length = 0 := by
      have := (List.getElem?_eq_some_iff.mp hp).1
      simp at this
      omega
    rw [hi0] at hp
    cases hp
    exact ⟨t, by rw [List.getElem?_append_right (by rw [h.1]; exact hi), h.1, hi0]; rfl, ht⟩
theorem Rats.snoc {C : Addr} {H : Hp} {xs : List V} {qs : List PQ} {t : Addr} {q : PQ} (h : Rats C H xs qs) (ht : RAt C H t q.1 q.2) : Rats C H (xs ++ [.ref t]) (qs ++ [q]) := by
  refine ⟨by simp [h.1], fun i p hp => ?_⟩
  rcases Nat.lt_or_ge i qs.length with hi | hi
  · rw [List.getElem?_append_left hi] at hp
    obtain ⟨r, h1, h2⟩ := h.2 i p hp
    exact ⟨r, by rw [List.getElem?_append_left (by rw [h.1]; exact hi)]; exact h1, h2⟩
  · rw [List.getElem?_append_right hi] at hp
    have hi0 : i - qs.length = 0 := by
      have := (List.getElem?_eq_some_iff.mp hp).1
      simp at this
      omega
    rw [hi0] at hp
    cases hp
    exact ⟨t, by rw [List.getElem?_append_right (by rw [h.1]; exact hi), h.1, hi0]; rfl, ht⟩
def qD (q : PQ) : PyData := .tuple [.int q.1, .int q.2]
theorem pairs_dp {H : Hp} {l : Addr} {xs : List V} {qs : List PQ} (hl : H l = some (.lst xs)) (h : Pairs H xs qs) : Dp K H (.ref l) (.list (qs.map qD)) := by
  refine .lst (.of hl) (dpAll_ix (by rw [List.length_map]; exact h.1) fun i x d hx hd => ?_)
  rw [List.getElem?_map] at hd
  obtain ⟨q, hq, rfl⟩ := Option.map_eq_some_iff.mp hd
  obtain ⟨t, h1, h2⟩ := h.2 i q hq
  rw [hx] at h1
  cases h1
  exact .tup (.of h2) (.cons (.int _) (.cons (.int _) .nil))
theorem qs_good (qs : List PQ) : GoodD (.list (qs.map qD)) 2 := good_list fun d hd => by
  obtain ⟨q, _, rfl⟩ := List.mem_map.mp hd
  exact good_tuple fun e he => by
    simp only [List.mem_cons, List.not_mem_nil, or_false] at he
    rcases he with rfl | rfl
    · exact good_int
    · exact good_int
/-- what may be handed in as default -/
def Oth (K : PySem.W.Frag) (C : Addr) (H : Hp) (v : V) : Prop := (∃ d n, Dp K H v d ∧ GoodD d n ∧ n ≤ 64) ∨ ∃ r t u, v = .ref r ∧ RAt C H r t u
theorem Oth.same {C : Addr} {H H' : Hp} {v : V} (h : Oth K C H v) (s : Same H H') : Oth K C H' v := by
  rcases h with ⟨d, n, h1, h2⟩ | ⟨r, t, u, e, h⟩
  · exact .inl ⟨d, n, same_dp s h1, h2⟩
  · exact .inr ⟨r, t, u, e, h.same s⟩
def spRight (K : PySem.W.Frag) (C : Addr) : Sp := fun vs H Q _ => ∃ (l : Addr) (v : V) (ys : List V) (qs : List PQ), vs = [.ref l, v] ∧ H l = some (.lst ys) ∧ Pairs H ys qs ∧ okQs qs ∧ Oth K C H v ∧ ∀ H', Same H H' → Q (.bl true) H'
theorem f40 {n : Nat} (h : n < 2 ^ 40) : n < 10 ^ 300 := Nat.lt_trans h (by decide +kernel)
theorem ok_right {f : Addr} {fd : FuncData} (F : Fun K "_law_right" "_law_right" s_law_right f fd) (T : Txt K mg C_Ratio) (mk_Ratio_2 : Mkr P w K mg base "Ratio" C_Ratio 3 ["self", "top", "bottom"] [] (spInit C_Ratio)) (f_total : Fn P w K mg base "total" 7 ["ratios"] (spTotal K C_Ratio))
    (f_greatest_1 : FnD P w K mg base CX0 "greatest" 2 ["ratios", "default"] [.non] (spGreat K C_Ratio)) (f_greatest_default : FnK P w K mg base CX0 "greatest" 2 ["ratios", "default"] 1 ["default"] (fun vs zs => vs ++ zs) (spGreat K C_Ratio))
    (f__law_plus : Fn P w K mg base "_law_plus" 2 ["_law_one", "_law_other"] (spLPlus K)) (f__law_less : Fn P w K mg base "_law_less" 1 ["_law_one", "_law_other"] (spLLess K)) (f__law_is_ratio : Fn P w K mg base "_law_is_ratio" 1 ["_law_told", "_law_due"] (spIsR K C_Ratio))
    (e_Ratio : EqO P w K mg base C_Ratio 1 ["self", "other"] (spEqb (RqR K C_Ratio))) : FnOk P w K mg base CX0 8 f fd ["_law_pairs", "_law_other"] (spRight K C_Ratio) := by
  have hc := T.cl_Ratio
  have h1 := T.na_Ratio_top
  have h2 := T.na_Ratio_bottom
  refine F.ok sc_law_right (fun vs H Q E h => ?_) (fun cdv A outer s H vs Q E hr h => ?_)
  · obtain ⟨l, v, ys, qs, rfl, _⟩ := h
    rfl
  · obtain ⟨l, v, ys, qs, rfl, hl, hP, hq, hv, k⟩ := h
    have hlen := hP.1
    have hq12 := hq.1
    refine ⟨_, (pss_cons (ps_setLc (i := 2) (own := [("_law_top", 6), ("_law_bottom", 7)]) (g := gTup K 2 (gCons (gName 6) (gCons (gName 7) gNil))) (tt := tYes) rfl sc_law_right.nd rfl rfl (sw_true rfl rfl rfl (by decide +kernel)) (show PI _ _ _ (iList K _) from (pi_list (pv 0))) (blkOk_by (own := [("_law_top", 6), ("_law_bottom", 7)]) (N := ["_law_pairs", "_law_other", "_law_some", "_law_due", "_law_most", "_law_pair", "_law_top", "_law_bottom", "_law_one"]) (sc := defScope s_law_right) (by decide +kernel)) (fun _ _ _ _ _ => (pg_tup rfl (pgs_cons (pg_name (i := 6) sc_law_right.nd rfl (.inl rfl)) (pgs_cons (pg_name (i := 7) sc_law_right.nd rfl (.inl rfl)) pgs_nil)))) (fun _ _ _ _ _ => pts_nil) (fun _ _ _ _ _ => (pe_mkr mk_Ratio_2 (hr.mono (by decide)) rfl (pa_cons (pv 6) (pa_cons (pv 7) pa_nil)))))
 (pss_cons (ps_asg (pe_tup (pa_cons (pe_tup (pa_cons pe_int (pa_cons pe_int pa_nil))) (pa_cons pe_non pa_nil))) (pg_tup rfl (pgs_cons (pg_name (i := 3) sc_law_right.nd rfl (.inl rfl)) (pgs_cons (pg_name (i := 4) sc_law_right.nd rfl (.inl rfl)) pgs_nil))))
 (pss_cons (ps_for PassesOwn.never rfl (pi_list (pv 0)) (pg_name (i := 5) sc_law_right.nd rfl (.inl rfl))
 (pss_cons (ps_set (i := 3) sc_law_right.nd rfl (.inl rfl) (pe_fn f__law_plus (hr.mono (by decide)) rfl (pa_cons (pv 3) (pa_cons (pv 5) pa_nil))))
 (pss_one (ps_if (PW.pt (pw_or (pt_cmpR op_is0 (pv 4) pe_non (nomark _)) (pw_or1 (pt_val (pe_fn f__law_less (hr.mono (by decide)) rfl (pa_cons (pv 4) (pa_cons (pv 5) pa_nil)))))))
 (pss_one (ps_set (i := 4) sc_law_right.nd rfl (.inl rfl) (pv 5)))
 pss_nil))))
 (pss_cons (ps_if (PW.pt (pw_or (pt_not (pt_val (pe_fn f__law_is_ratio (hr.mono (by decide)) rfl (pa_cons (pe_fn f_total (hr.mono (by decide)) rfl (pa_cons (pv 2) pa_nil)) (pa_cons (pv 3) pa_nil))))) (pw_or1 (pt_cmpR (op_neD hr.units) (pe_lc (own := [("_law_one", 8)]) (g := gName 8) (tt := tYes) rfl sc_law_right.nd (show PI _ _ _ (iList K _) from (pi_list (pv 2))) (blkOk_by (own := [("_law_one", 8)]) (N := ["_law_pairs", "_law_other", "_law_some", "_law_due", "_law_most", "_law_pair", "_law_top", "_law_bottom", "_law_one"]) (sc := defScope s_law_right) (by decide +kernel)) (fun _ _ _ _ _ => pg_name (i := 8) sc_law_right.nd rfl (Or.inl rfl)) (fun _ _ _ _ _ => pts_nil) (fun _ _ _ _ _ => (pe_tup (pa_cons (show PE _ _ (tFld K _ _) from (pe_fld (pv 8) rfl)) (pa_cons (show PE _ _ (tFld K _ _) from (pe_fld (pv 8) rfl)) pa_nil))))) (pv 0) (nomark _)))))
 (pss_one (ps_ret pe_bl))
 pss_nil)
 (pss_cons (ps_if (pt_cmpR (op_eqD hr.units) (pv 0) (pe_lst pa_nil) (nomark _))
 (pss_one (ps_ret (pe_and (pe_cmpR op_is0 (pe_fnd f_greatest_1 pass0 (hr.mono (by decide)) rfl (pa_cons (pv 2) pa_nil)) pe_non (nomark _)) (pe_one (pe_cmpR (op_or (op_eqD hr.units) (op_eqb (rcb_ins e_Ratio) (hr.mono (by decide)))) (pe_fnk f_greatest_default pass0 (hr.mono (by decide)) rfl (pa_cons (pv 2) pa_nil) (pk_cons (pv 1) pk_nil)) (pv 1) (nomark _))))))
 pss_nil)
 (pss_cons (ps_if (PW.pt (pw_or (pt_not (pt_val (pe_fn f__law_is_ratio (hr.mono (by decide)) rfl (pa_cons (pe_fnd f_greatest_1 pass0 (hr.mono (by decide)) rfl (pa_cons (pv 2) pa_nil)) (pa_cons (pv 4) pa_nil))))) (pw_or1 (pt_not (pt_val (pe_fn f__law_is_ratio (hr.mono (by decide)) rfl (pa_cons (pe_fnk f_greatest_default pass0 (hr.mono (by decide)) rfl (pa_cons (pv 2) pa_nil) (pk_cons (pv 1) pk_nil)) (pa_cons (pv 4) pa_nil))))))))
 (pss_one (ps_ret pe_bl))
 pss_nil)
 (pss_one (ps_ret (pe_cmpR (op_eqD hr.units) (pe_lc (own := [("_law_one", 8)]) (g := gName 8) (tt := tYes) rfl sc_law_right.nd (show PI _ _ _ (iList K _) from (pi_list (pv 2))) (blkOk_by (own := [("_law_one", 8)]) (N := ["_law_pairs", "_law_other", "_law_some", "_law_due", "_law_most", "_law_pair", "_law_top", "_law_bottom", "_law_one"]) (sc := defScope s_law_right) (by decide +kernel)) (fun _ _ _ _ _ => pg_name (i := 8) sc_law_right.nd rfl (Or.inl rfl)) (fun _ _ _ _ _ => pts_nil) (fun _ _ _ _ _ => (pe_tup (pa_cons (show PE _ _ (tFld K _ _) from (pe_fld (pv 8) rfl)) (pa_cons (show PE _ _ (tFld K _ _) from (pe_fld (pv 8) rfl)) pa_nil))))) (pv 0) (nomark _)))))))))), ?_⟩
    wtm_at "w0"
    wtm_at "wp"
    refine lc_fin (fin_list (xs := ys)) (fun i acc H' => Same H H' ∧ Rats C_Ratio H' acc (qs.take i)) (fun D H2 nD s2 hD => ⟨s2, rfl, fun i q h => by simp at h⟩) (fun i acc H2 _ h => .of (h.1 _ _ hl)) ?_ ?_
    · rintro D i x acc H3 H4 nD hi ha ⟨s3, hR3⟩ hD ⟨rfl, hx⟩
      obtain ⟨q, t, hqi, rfl, ht⟩ := hP.at hx
      obtain ⟨ql, q1, q2⟩ := hq.2 q (List.mem_of_getElem? hqi)
      have ht3 := s3 _ _ ht
      wtm_at "wp"
      refine ⟨rfl, ?_⟩
      wtm_at "wp"
      rename_i r dr nr nd H5 s5 h5
      refine ⟨r, dr, q.1, q.2, rfl, h5, f40 q1, f40 q2, Int.ne_of_gt ql.pos, fun H6 k6 e6 => ⟨rfl, ?_⟩⟩
      have S6 := k6.same s5 nr
      rw [ql.top, ql.bot] at e6
      refine w_acc (S6 _ _ hD) ha hi (sz (by omega)) (fun H7 k7 h7 => ⟨k7.same (s3.trans S6) nD, ?_⟩)
      rw [take_succL hqi]
      have nrD : r ≠ D := fun z => by rw [z, hD] at nr; cases nr
      refine Rats.snoc ?_ ⟨dr, k7 _ _ e6 nrD⟩
      refine ⟨hR3.1, fun j p hp => ?_⟩
      obtain ⟨r', g1, d', g2⟩ := hR3.2 j p hp
      exact ⟨r', g1, d', k7 _ _ (S6 _ _ g2) (fun z => by rw [z, hD] at g2; cases g2)⟩
    · rintro D acc H3 nD ⟨s3, hR3⟩ ha hD
      rw [hlen, List.take_length] at hR3
      wtm_at "wp"
      rename_i o1 n1 H3b s3b h3b o2' n2' H4 s4b h4b
      have s4 : Same H3 H4 := s3b.trans s4b
      have h4 := s4b _ _ h3b
      have S4 := s3.trans s4
      refine for_fin (fin_list (xs := ys)) (fun i σ H' => ∃ (v5 : Option V) (o : Addr) (u : V), σ = [some (.ref l), some v, some (.ref D), some (.ref o), some u, v5, none, none, none] ∧ Same H4 H' ∧ H' o = some (.tup [.int (sumQ (qs.take i)).1, .int (sumQ (qs.take i)).2]) ∧ (i = 0 → u = .non) ∧ (0 < i → ∃ t q, u = .ref t ∧ bestQ (qs.take i) = some q ∧ H' t = some (.tup [.int q.1, .int q.2]))) ⟨none, o1, .non, rfl, .refl _, h4, fun _ => rfl, fun z => absurd z (Nat.lt_irrefl _)⟩ (fun i σ H' _ h => by obtain ⟨_, _, _, _, h, _⟩ := h; exact .of (h _ _ (S4 _ _ hl))) ?_ ?_
      · rintro i x σ H5 H5' hi ⟨v5, o, u, rfl, s5, h5, hu0, hu1⟩ ⟨rfl, hx⟩
        obtain ⟨q, t, hqi, rfl, ht⟩ := hP.at hx
        have hqm := List.mem_of_getElem? hqi
        have ht5 := s5 _ _ (S4 _ _ ht)
        have b1 := sum_small hq.2 i (by omega)
        have b2 := small900 b1 (by omega)
        have b3 := ok900 (hq.2 q hqm)
        have hq0 := (hq.2 q hqm).1.pos
        wtm_at "wp"
        refine ⟨o, t, _, _, _, _, rfl, .of h5, .of ht5, b1.1, by omega, b2.1, b2.2, b3.1, b3.2, fun o2 H6 n6 s6 h6 => ?_⟩
        have ht6 := s6 _ _ ht5
        have e6 : sumQ (qs.take (i + 1)) = plusQ (sumQ (qs.take i)) q := by rw [take_succL hqi, sum_snoc]
        wtm_at "wp"
        by_cases h0 : i = 0
        · subst h0
          rw [hu0 rfl]
          refine iteT' (decide_eq_true rfl) ?_
          wtm_at "wp"
          refine ⟨_, o2, _, rfl, s5.trans s6, by rw [e6]; exact h6, fun z => absurd z (by decide), fun _ => ⟨t, q, rfl, ?_, ht6⟩⟩
          rw [take_succL hqi]
          rfl
        · obtain ⟨t', p, rfl, hb, hp'⟩ := hu1 (by omega)
          refine iteF' (decide_eq_false (fun z => by cases z)) ?_
          have b4 := ok900 (hq.2 p (best_mem i hb (by omega)))
          have hp6 := s6 _ _ hp'
          wtm_at "wp"
          refine ⟨t', t, _, _, _, _, rfl, .of hp6, .of ht6, b4.1, b4.2, b3.1, b3.2, ?_⟩
          wtm_at "wp"
          refine w_dec (fun hlt => ?_) (fun hlt => ?_)
          · wtm_at "wp"
            refine ⟨_, o2, _, rfl, s5.trans s6, by rw [e6]; exact h6, fun z => absurd z (by omega), fun _ => ⟨t, q, rfl, ?_, ht6⟩⟩
            rw [take_succL hqi, best_snoc, hb]
            unfold maxQ
            simp only
            rw [if_pos hlt]
          · wtm_at "wp"
            refine ⟨_, o2, _, rfl, s5.trans s6, by rw [e6]; exact h6, fun z => absurd z (by omega), fun _ => ⟨t', p, rfl, ?_, hp6⟩⟩
            rw [take_succL hqi, best_snoc, hb]
            unfold maxQ
            simp only
            rw [if_neg hlt]
      · rintro σ H5 ⟨v5, o, u, rfl, s5, h5, hu0, hu1⟩
        rw [hlen, List.take_length] at h5 hu1
        have S5 := S4.trans s5
        have hD5 := s5 _ _ (s4 _ _ hD)
        have hR5 := (hR3.same s4).same s5
        clear h4 n1 s4 S4 s5 s3
        -- the pairs told anew
        have tell : ∀ (H5 : Hp), Same H H5 → H5 D = some (.lst acc) → Rats C_Ratio H5 acc qs → True := fun _ _ _ _ => trivial
        wtm_at "wp"
        refine ⟨D, acc, qs, rfl, hD5, hR5, hq, fun r6 H6 s6 h6 => ?_⟩
        wtm_at "wp"
        refine ⟨r6, o, _, _, rfl, h6, .of (s6 _ _ h5), fun H7 s7 => ?_⟩
        have S7 := S5.trans (s6.trans s7)
        have hD7 := s7 _ _ (s6 _ _ hD5)
        have hR7 := (hR5.same s6).same s7
        wtm_at "wp"
        refine lc_fin (fin_list (xs := acc)) (fun i bcc H' => Same H7 H' ∧ Pairs H' bcc (qs.take i)) (fun D H2 nD s2 hD => ⟨s2, rfl, fun i q h => by simp at h⟩) (fun i acc H2 _ h => .of (h.1 _ _ hD7)) ?_ ?_
        · rintro D2 i x bcc H8 H9 nD2 hi ha2 ⟨s8, hP8⟩ hD2 ⟨rfl, hx⟩
          obtain ⟨q, r, hqi, rfl, dr, hr8⟩ := (hR7.same s8).at hx
          wtm_at "wp"
          refine ⟨rfl, ?_⟩
          wtm_at "wp"
          rename_i t9 n9 H9' s9 h9
          refine w_acc (s9 _ _ hD2) ha2 hi (sz (by have := hR7.1; omega)) (fun H10 k10 h10 => ⟨k10.same (s8.trans s9) nD2, ?_⟩)
          have nt : t9 ≠ D2 := fun z => by rw [z, hD2] at n9; cases n9
          rw [take_succL hqi]
          refine Pairs.snoc ⟨hP8.1, fun j p hp => ?_⟩ (k10 _ _ h9 nt)
          obtain ⟨r', g1, g2⟩ := hP8.2 j p hp
          exact ⟨r', g1, k10 _ _ (s9 _ _ g2) (fun z => by rw [z, hD2] at g2; cases g2)⟩
        · rintro D2 bcc H8 nD2 ⟨s8, hP8⟩ ha2 hD2
          rw [hR7.1, List.take_length] at hP8
          have S8 := S7.trans s8
          wtm_at "wp"
          refine w_neG (pairs_dp hD2 hP8) (pairs_dp (S8 _ _ hl) (hP.same S8)) (qs_good qs) (by decide) ?_
          wtm_at "wp"
          rename_i o9 n9 H9 s9 h9
          have S9 := S8.trans s9
          have hD9 := s9 _ _ (s8 _ _ hD7)
          have hR9 := (hR7.same s8).same s9
          have hv9 := hv.same S9
          refine w_eqNil (pairs_dp (S9 _ _ hl) (hP.same S9)) (.lst (.of h9) .nil) (qs_good qs) (by decide) ?_
          wtm_at "wp"
          cases hqe : qs with
          | nil =>
            subst hqe
            refine iteT ?_
            wtm_at "wp"
            refine w_callD ?_
            wtm_at "wp"
            refine ⟨D, .non, acc, [], rfl, hD9, hR9, hq, fun _ H10 s10 => ?_, fun r q H' hb => by cases hb⟩
            wtm_at "wp"
            refine w_callN ?_
            wtm_at "wp"
            refine w_nlen rfl rfl ?_
            refine ⟨D, v, acc, [], rfl, s10 _ _ hD9, hR9.same s10, hq, fun _ H11 s11 => ?_, fun r q H' hb => by cases hb⟩
            have S11 := S9.trans (s10.trans s11)
            wtm_at "wp"
            rcases hv.same S11 with ⟨d, n, g1, g2, g3⟩ | ⟨r, t, u', rfl, hr'⟩
            · exact .inl (w_eqG g1 g1 g2 g3 (k _ S11))
            · obtain ⟨d', o'⟩ := id hr'
              refine .inr (w_eqb (b := true) ⟨r, d', _, rfl, o', .own o', t, u', hr', .inl ⟨r, t, u', rfl, hr', (decide_eq_true ⟨rfl, rfl⟩).symm⟩⟩ (fun H' s' => k _ (S11.trans s')))
          | cons q0 qr =>
            rw [← hqe]
            have hbs : ∃ p, bestQ qs = some p := by
              have := best_some (qs := qs) (n := qs.length) (by rw [hqe]; simp) (Nat.le_refl _)
              rwa [List.take_length] at this
            obtain ⟨t, p, rfl, hb, hp5⟩ := hu1 (by rw [hqe]; simp)
            have hne : qs ≠ [] := by rw [hqe]; simp
            rw [hqe, List.map_cons]
            refine iteF ?_
            rw [← hqe] at *
            wtm_at "wp"
            refine w_callD ?_
            wtm_at "wp"
            refine ⟨D, .non, acc, qs, rfl, hD9, hR9, hq, fun z => absurd z hne, fun r10 q10 H10 hb10 s10 h10 => ?_⟩
            rw [hb] at hb10
            cases hb10
            have ht10 : H10 t = some (.tup [.int p.1, .int p.2]) := s10 _ _ (s9 _ _ (s8 _ _ (s7 _ _ (s6 _ _ hp5))))
            wtm_at "wp"
            refine ⟨r10, t, _, _, rfl, h10, .of ht10, fun H11 s11 => ?_⟩
            wtm_at "wp"
            refine w_callN ?_
            wtm_at "wp"
            refine w_nlen rfl rfl ?_
            refine ⟨D, v, acc, qs, rfl, s11 _ _ (s10 _ _ hD9), (hR9.same s10).same s11, hq, fun z => absurd z hne, fun r12 q12 H12 hb12 s12 h12 => ?_⟩
            rw [hb] at hb12
            cases hb12
            wtm_at "wp"
            refine ⟨r12, t, _, _, rfl, h12, .of (s12 _ _ (s11 _ _ ht10)), fun H13 s13 => ?_⟩
            have S13' := s10.trans (s11.trans (s12.trans s13))
            have S13 := S9.trans S13'
            have hD13 := S13' _ _ hD9
            have hR13 := hR9.same S13'
            wtm_at "wp"
            refine lc_fin (fin_list (xs := acc)) (fun i bcc H' => Same H13 H' ∧ Pairs H' bcc (qs.take i)) (fun D H2 nD s2 hD => ⟨s2, rfl, fun i q h => by simp at h⟩) (fun i acc H2 _ h => .of (h.1 _ _ hD13)) ?_ ?_
            · rintro D2 i x bcc H8 H9 nD2 hi ha2 ⟨s8, hP8⟩ hD2 ⟨rfl, hx⟩
              obtain ⟨q, r, hqi, rfl, dr, hr8⟩ := (hR13.same s8).at hx
              wtm_at "wp"
              refine ⟨rfl, ?_⟩
              wtm_at "wp"
              rename_i t9 n9 H9' s9 h9
              refine w_acc (s9 _ _ hD2) ha2 hi (sz (by have := hR13.1; omega)) (fun H10 k10 h10 => ⟨k10.same (s8.trans s9) nD2, ?_⟩)
              have nt : t9 ≠ D2 := fun z => by rw [z, hD2] at n9; cases n9
              rw [take_succL hqi]
              refine Pairs.snoc ⟨hP8.1, fun j p hp => ?_⟩ (k10 _ _ h9 nt)
              obtain ⟨r', g1, g2⟩ := hP8.2 j p hp
              exact ⟨r', g1, k10 _ _ (s9 _ _ g2) (fun z => by rw [z, hD2] at g2; cases g2)⟩
            · rintro D2 bcc H8 nD2 ⟨s8, hP8⟩ ha2 hD2
              rw [hR13.1, List.take_length] at hP8
              have S8 := S13.trans s8
              wtm_at "wp"
              exact w_eqG (pairs_dp hD2 hP8) (pairs_dp (S8 _ _ hl) (hP.same S8)) (qs_good qs) (by decide) (k _ S8)
end
end K33

namespace K33
abbrev s_law : Stmt := topS 22
theorem sc_law : FnScope ["_law_script", "_law_at", "_law_purse_here", "_law_many", "_law_other", "_law_pairs", "_law_turn", "_law_nth"] ["_law_script"] (defScope s_law) := ⟨rfl, rfl, rfl, by decide +kernel, rfl, by decide +kernel, by decide +kernel⟩
section
variable {P : Program} {w : World} {K : PySem.W.Frag} {mg : Str → Option Value} {base : Heap} {C_Ratio : Addr}
theorem Purse.at {H : Hp} {p : Addr} {n : Nat} (h : Purse H p n) : ∃ xs, H p = some (.lst xs) := by
  obtain ⟨a, b, c, h, _⟩ := h
  exact ⟨_, h⟩
theorem Purse.kb {p D : Addr} {H4 H5 : Hp} {n : Nat} (h : Purse H4 p n) (b : KB D H4 H5) (ne : p ≠ D) : Purse H5 p n := by
  obtain ⟨x, y, z, h, r⟩ := h
  exact ⟨x, y, z, b _ _ h ne, r⟩
theorem Pairs.kb {p : Addr} {H H' : Hp} {xs ys : List V} {qs : List PQ} (h : Pairs H ys qs) (k : KB p H H') (hp : H p = some (.lst xs)) : Pairs H' ys qs := ⟨h.1, fun i q hq => by
  obtain ⟨r, h1, h2⟩ := h.2 i q hq
  exact ⟨r, h1, k _ _ h2 (fun z => by rw [z, hp] at h2; cases h2)⟩⟩
def Oth1 (C : Addr) (H : Hp) (v : V) : Prop := (∃ i, v = .int i) ∨ v = .str "none" ∨ v = .bl false ∨ (∃ t, v = .ref t ∧ H t = some (.tup [])) ∨ ∃ r t u, v = .ref r ∧ RAt C H r t u
theorem Oth1.kb {C p : Addr} {H H' : Hp} {xs : List V} {v : V} (h : Oth1 C H v) (k : KB p H H') (hp : H p = some (.lst xs)) : Oth1 C H' v := by
  rcases h with h | h | h | ⟨t, e, h⟩ | ⟨r, t, u, e, d, h⟩
  · exact .inl h
  · exact .inr (.inl h)
  · exact .inr (.inr (.inl h))
  · exact .inr (.inr (.inr (.inl ⟨t, e, k _ _ h (fun z => by rw [z, hp] at h; cases h)⟩)))
  · exact .inr (.inr (.inr (.inr ⟨r, t, u, e, d, k _ _ h (fun z => by rw [z, hp] at h; cases h)⟩)))
theorem Oth1.oth {C : Addr} {H : Hp} {v : V} (h : Oth1 C H v) : Oth K C H v := by
  rcases h with ⟨i, rfl⟩ | rfl | rfl | ⟨t, rfl, h⟩ | h
  · exact .inl ⟨_, 0, .int i, good_int, by decide⟩
  · exact .inl ⟨_, 0, .str _, good_str (by decide +kernel), by decide⟩
  · exact .inl ⟨_, 0, .bl _, good_bool, by decide⟩
  · exact .inl ⟨_, 1, .tup (.of h) .nil, good_tuple (fun d hd => absurd hd (by simp)), by decide⟩
  · exact .inr h
theorem Pairs.get {H : Hp} {ys : List V} {qs : List PQ} (h : Pairs H ys qs) {j : Nat} (hj : j < qs.length) : ∃ t, ys[j]? = some (.ref t) ∧ H t = some (.tup [.int (qs[j]'hj).1, .int (qs[j]'hj).2]) := h.2 j _ (List.getElem?_eq_getElem hj)
theorem Pairs.set {H : Hp} {ys : List V} {qs : List PQ} {t : Addr} {q : PQ} {j : Nat} (h : Pairs H ys qs) (ht : H t = some (.tup [.int q.1, .int q.2])) : Pairs H (ys.set j (.ref t)) (qs.set j q) := by
  refine ⟨by simp [h.1], fun i p hp => ?_⟩
  by_cases hij : j = i
  · subst hij
    have hlt : j < qs.length := by
      have := (List.getElem?_eq_some_iff.mp hp).1
      simpa using this
    rw [List.getElem?_set_self hlt] at hp
    cases hp
    exact ⟨t, by rw [List.getElem?_set_self (by rw [h.1]; exact hlt)], ht⟩
  · rw [List.getElem?_set_ne hij] at hp
    obtain ⟨r, h1, h2⟩ := h.2 i p hp
    exact ⟨r, by rw [List.getElem?_set_ne hij]; exact h1, h2⟩
theorem Pairs.rev {H : Hp} {ys : List V} {qs : List PQ} (h : Pairs H ys qs) : Pairs H ys.reverse qs.reverse := by
  refine ⟨by simp [h.1], fun i p hp => ?_⟩
  have hi : i < qs.length := by
    have := (List.getElem?_eq_some_iff.mp hp).1
    simpa using this
  rw [List.getElem?_reverse hi] at hp
  obtain ⟨r, h1, h2⟩ := h.2 _ p hp
  exact ⟨r, by rw [List.getElem?_reverse (by rw [h.1]; exact hi), h.1]; exact h1, h2⟩
theorem okQs.rev {qs : List PQ} (h : okQs qs) : okQs qs.reverse := ⟨by simpa using h.1, fun q hq => h.2 q (List.mem_reverse.mp hq)⟩
theorem ok53 : okQ (-5, 3) := ⟨⟨by decide, by decide⟩, by decide, by decide⟩
theorem ok11 : okQ (100000000000, 1) := ⟨⟨by decide, by decide⟩, by decide, by decide⟩
def spLaw (K : PySem.W.Frag) : Sp := fun vs H Q _ => ∃ (a : Addr) (ns : List Int), vs = [.ref a] ∧ SqL K H a (ns.map V.int) ∧ ns.length ≤ 63 ∧ ∀ H', Q (.bl true) H'
theorem ok_law {f : Addr} {fd : FuncData} (F : Fun K "law" "law" s_law f fd) (T : Txt K mg C_Ratio) (f__law_purse : Fn P w K mg base "_law_purse" 1 ["_law_script", "_law_at"] (spPurse K)) (f__law_take : Fn P w K mg base "_law_take" 1 ["_law_purse_here", "_law_many"] spTake)
    (f__law_small_ratio : Fn P w K mg base "_law_small_ratio" 2 ["_law_purse_here"] (spSmall K)) (f__law_right : Fn P w K mg base "_law_right" 8 ["_law_pairs", "_law_other"] (spRight K C_Ratio)) (f__law_is_ratio : Fn P w K mg base "_law_is_ratio" 1 ["_law_told", "_law_due"] (spIsR K C_Ratio)) (f_total : Fn P w K mg base "total" 7 ["ratios"] (spTotal K C_Ratio))
    (mk_Ratio_1 : Mkr P w K mg base "Ratio" C_Ratio 3 ["self", "top", "bottom"] [.int 1] (spInit C_Ratio)) (mk_Ratio_2 : Mkr P w K mg base "Ratio" C_Ratio 3 ["self", "top", "bottom"] [] (spInit C_Ratio)) : FnOk P w K mg base CX0 9 f fd ["_law_script"] (spLaw K) := by
  have hc := T.cl_Ratio
  refine F.ok sc_law (fun vs H Q E h => ?_) (fun cdv A outer s H vs Q E hr h => ?_)
  · obtain ⟨a, ns, rfl, _⟩ := h
    rfl
  · obtain ⟨a, ns, rfl, hS, hlen, k⟩ := h
    refine ⟨_, (pss_cons (ps_for PassesOwn.never rfl (pi_range1 (by rfl) T.n_range (pa_cons (pe_callB (cl_max rfl) (by rfl) T.n_max PyProof.Rows.boot_max (pa_cons pe_int (pa_cons (pe_callB (cl_min rfl) (by rfl) T.n_min PyProof.Rows.boot_min (pa_cons (pe_callB cl_len (by rfl) T.n_len PySem.boot_len (pa_cons (pv 0) pa_nil)) (pa_cons pe_int pa_nil))) pa_nil))) pa_nil)) (pg_name (i := 1) sc_law.nd rfl (.inl rfl))
 (pss_cons (ps_set (i := 2) sc_law.nd rfl (.inr rfl) (pe_fn f__law_purse (hr.mono (by decide)) rfl (pa_cons (pv 0) (pa_cons (pv 1) pa_nil))))
 (pss_cons (ps_set (i := 3) sc_law.nd rfl (.inl rfl) (pe_fn f__law_take (hr.mono (by decide)) rfl (pa_cons (pv 2) (pa_cons pe_int pa_nil))))
 (pss_cons (ps_set (i := 4) sc_law.nd rfl (.inl rfl) (pe_ix ix_list (pe_lst (pa_cons pe_int (pa_cons pe_str (pa_cons (pe_tup pa_nil) (pa_cons (pe_mkr mk_Ratio_1 (hr.mono (by decide)) rfl (pa_cons (pe_op op_powU pe_int pe_int) pa_nil)) (pa_cons pe_bl (pa_cons (pe_mkr mk_Ratio_2 (hr.mono (by decide)) rfl (pa_cons pe_int (pa_cons pe_int pa_nil))) pa_nil))))))) (pe_fn f__law_take (hr.mono (by decide)) rfl (pa_cons (pv 2) (pa_cons pe_int pa_nil))) (fun _ _ => rfl)))
 (pss_cons (ps_setLc (i := 5) (own := [("_law_nth", 7)]) (g := gName 7) (tt := tYes) rfl sc_law.nd rfl rfl (sw_true rfl rfl rfl (by decide +kernel)) (pi_range1 (by rfl) T.n_range (pa_cons (pv 3) pa_nil)) (blkOk_by (own := [("_law_nth", 7)]) (N := ["_law_script", "_law_at", "_law_purse_here", "_law_many", "_law_other", "_law_pairs", "_law_turn", "_law_nth"]) (sc := defScope s_law) (by decide +kernel)) (fun _ _ _ _ _ => pg_name (i := 7) sc_law.nd rfl (Or.inl rfl)) (fun _ _ _ _ _ => pts_nil) (fun _ _ _ _ _ => (pe_fn f__law_small_ratio (hr.mono (by decide)) rfl (pa_cons (pv 2) pa_nil))))
 (pss_cons (ps_if (PW.pt (pw_and (pt_cmpR op_gt (pv 3) pe_int (nomark _)) (pw_and1 (pt_cmpR op_eq (pe_fn f__law_take (hr.mono (by decide)) rfl (pa_cons (pv 2) (pa_cons pe_int pa_nil))) pe_int (nomark _)))))
 (pss_one (ps_asg (pe_ix ix_list (pv 5) (pe_fn f__law_take (hr.mono (by decide)) rfl (pa_cons (pv 2) (pa_cons (pv 3) pa_nil))) (fun _ _ => rfl)) (pg_sub (pv 5) (pe_un un_neg pe_int) set_list)))
 pss_nil)
 (pss_cons (ps_for PassesOwn.never rfl (pi_range1 (by rfl) T.n_range (pa_cons pe_int pa_nil)) (pg_name (i := 6) sc_law.nd rfl (.inl rfl))
 (pss_cons (ps_if (pt_not (pt_val (pe_fn f__law_right (hr.mono (by decide)) rfl (pa_cons (pv 5) (pa_cons (pv 4) pa_nil)))))
 (pss_one (ps_ret pe_bl))
 pss_nil)
 (pss_one (ps_set (i := 5) sc_law.nd rfl (.inl rfl) (pe_op op_cat (pe_revL (pv 5)) (pe_op op_rep (pe_lst (pa_cons (pe_tup (pa_cons (pe_op op_sub pe_int pe_int) (pa_cons pe_int pa_nil))) pa_nil)) (pv 6)))))))
 (pss_one (ps_if (pt_not (pt_val (pe_fn f__law_right (hr.mono (by decide)) rfl (pa_cons (pe_op op_cat (pv 5) (pe_lst (pa_cons (pe_tup (pa_cons (pe_op op_powU pe_int pe_int) (pa_cons pe_int pa_nil))) pa_nil))) (pa_cons (pv 4) pa_nil)))))
 (pss_one (ps_ret pe_bl))
 pss_nil)))))))))
 (pss_one (ps_ret (pe_fn f__law_is_ratio (hr.mono (by decide)) rfl (pa_cons (pe_fn f_total (hr.mono (by decide)) rfl (pa_cons (pe_lst pa_nil) pa_nil)) (pa_cons (pe_tup (pa_cons pe_int (pa_cons pe_int pa_nil))) pa_nil)))))), ?_⟩
    wtm_at "w0"
    wtm_at "wp"
    rw [List.length_map]
    refine ⟨_, rfl, by omega, by omega, for_fin (n := (max (2 : Int) (min (ns.length : Int) 8)).toNat) fin_rng (fun i σ H' => ∃ v1 v2 v3 v4 v5 v6 v7 : Option V, σ = [some (.ref a), v1, v2, v3, v4, v5, v6, v7] ∧ Same H H') ?_ (fun _ _ _ _ _ => trivial) ?_ ?_⟩
    · exact ⟨_, _, _, _, _, _, _, rfl, Same.refl _⟩
    · rintro i x σ H0 H0' hi ⟨v1, v2, v3, v4, v5, v6, v7, rfl, s0⟩ ⟨rfl, rfl⟩
      wtm_at "wp"
      rw [Int.zero_add]
      refine ⟨a, ns, i, rfl, Same.seq s0 hS, by omega, fun p H1 np s1 p1 => ?_⟩
      wtm_at "wp"
      refine ⟨p, 9, _, rfl, p1, by omega, by decide, by decide, fun many H2 m0 m1 k2 p2 => ?_⟩
      have S2 : Same H0' H2 := k2.same s1 np
      wtm_at "wp"
      rename_i t3 n3 H3 s3 h3 r4 d4 nr4 nd4 H4 s4 h4
      refine ⟨r4, d4, _, 1, rfl, h4, by decide +kernel, by decide +kernel, by decide, fun H5 k5 e5 => ⟨rfl, ?_⟩⟩
      have s5 : Same H3 H5 := k5.same s4 nr4
      wtm_at "wp"
      rename_i r6 d6 nr6 nd6 H6 s6 h6
      refine ⟨r6, d6, 1, 3, rfl, h6, by decide +kernel, by decide +kernel, by decide, fun H7 k7 e7 => ⟨rfl, ?_⟩⟩
      have s7 : Same H5 H7 := k7.same s6 nr6
      wtm_at "wp"
      rename_i q8 n8 H8 s8 h8
      have S8 : Same H2 H8 := s3.trans (s5.trans (s7.trans s8))
      obtain ⟨xs2, hp2⟩ := p2.at
      refine ⟨p, 6, _, rfl, p2.mono S8 (Nat.le_refl _), by omega, by decide, by decide, fun d9 H9 d90 d91 k9 p9 => ?_⟩
      have nq8 : q8 ≠ p := (ne_of_none (s7 _ _ (s5 _ _ (s3 _ _ hp2))) n8).symm
      have hat : ∃ v, atI [V.int 7, V.str "none", V.ref t3, V.ref r4, V.bl false, V.ref r6] d9 = some v ∧ Oth1 C_Ratio H8 v := by
        have hd : d9 = 0 ∨ d9 = 1 ∨ d9 = 2 ∨ d9 = 3 ∨ d9 = 4 ∨ d9 = 5 := by omega
        rcases hd with rfl | rfl | rfl | rfl | rfl | rfl
        · exact ⟨_, rfl, .inl ⟨_, rfl⟩⟩
        · exact ⟨_, rfl, .inr (.inl rfl)⟩
        · exact ⟨_, rfl, .inr (.inr (.inr (.inl ⟨t3, rfl, s8 _ _ (s7 _ _ (s5 _ _ h3))⟩)))⟩
        · exact ⟨_, rfl, .inr (.inr (.inr (.inr ⟨r4, _, _, rfl, d4, s8 _ _ (s7 _ _ e5)⟩)))⟩
        · exact ⟨_, rfl, .inr (.inr (.inl rfl))⟩
        · exact ⟨_, rfl, .inr (.inr (.inr (.inr ⟨r6, _, _, rfl, d6, s8 _ _ e7⟩)))⟩
      obtain ⟨v, hat, hv8⟩ := hat
      have hv9 := hv8.kb k9 (S8 _ _ hp2)
      refine w_ixL (.of (k9 _ _ h8 nq8)) hat ?_
      have KK9 : KB p H1 H9 := k2.trans ((KB.of S8).trans k9)
      clear s3 s4 s5 s6 s7 s8 S8 h3 h4 e5 h6 e7 k5 k7 n3 nr4 nd4 nr6 nd6 n8 h8 hv8
      obtain ⟨xs9, hp9⟩ := p9.at
      wtm_at "wp"
      refine ⟨_, rfl, by omega, by omega, ?_⟩
      refine lc_fin (n := many.toNat) fin_rng (fun j acc H' => KB p H9 H' ∧ Purse H' p (10 + 4 * j) ∧ ∃ qs : List PQ, Pairs H' acc qs ∧ qs.length = j ∧ ∀ q ∈ qs, okQ q) (fun D H3 nD s3 hD => ⟨KB.of s3, p9.mono s3 (by omega), [], ⟨rfl, fun i q h => by simp at h⟩, rfl, by simp⟩) (fun _ _ _ _ _ => trivial) ?_ ?_
      · rintro D j x acc H10 H11 nD hj ha ⟨k10, p10, qs, hP, hql, hqs⟩ hD ⟨rfl, rfl⟩
        wtm_at "wp"
        refine ⟨rfl, ?_⟩
        wtm_at "wp"
        have nDp : D ≠ p := (ne_of_none hp9 nD).symm
        obtain ⟨xs10, hp10⟩ := p10.at
        refine ⟨p, _, rfl, p10, by omega, fun o q H12 no hq k12 p12 h12 => ?_⟩
        have hD12 := k12 _ _ hD nDp
        have noD : o ≠ D := fun z => by rw [z, hD] at no; cases no
        refine w_acc hD12 ha hj (sz (by omega)) (fun H13 k13 h13 => ⟨kb2 (k10.trans k12) k13 nD, (p12.kb k13 nDp.symm).mono (.refl _) (by omega), qs ++ [q], Pairs.snoc ((hP.kb k12 hp10).kb k13 hD12) (k13 _ _ h12 noD), by simp [hql], fun q' hq' => ?_⟩)
        rcases List.mem_append.mp hq' with h | h
        · exact hqs q' h
        · rw [List.mem_singleton.mp h]
          exact hq
      · rintro D acc H10 nD ⟨k10, p10, qs, hP, hql, hqs⟩ ha hD
        have nDp : D ≠ p := (ne_of_none hp9 nD).symm
        have hv10 := hv9.kb k10 hp9
        have hlen10 := hP.1
        obtain ⟨xs10, hp10⟩ := p10.at
        have S10 : Same H0' H10 := (KK9.trans k10).same s1 np
        have nD0 : H0' D = none := same_free s1 (kb_newD KK9 hp9 nD)
        wtm_at "wp"
        refine w_decR (fun σ H' => ∃ (v6 v7 : Option V) (ys : List V) (qs : List PQ), σ = [some (.ref a), some (.int i), some (.ref p), some (.int many), some v, some (.ref D), v6, v7] ∧ H' D = some (.lst ys) ∧ Pairs H' ys qs ∧ qs.length ≤ 8 ∧ (∀ q ∈ qs, okQ q) ∧ Oth1 C_Ratio H' v ∧ Same H0' H') (fun _ => ⟨_, _, acc, qs, rfl, hD, hP, by omega, hqs, hv10, S10⟩) (fun go hc => ?_) ?_
        · wtm_at "wp"
          refine ⟨p, 2, _, rfl, p10, by omega, by decide, by decide, fun d11 H11 d110 d111 k11 p11 => ?_⟩
          obtain ⟨xs11, hp11⟩ := p11.at
          have hD11 := k11 _ _ hD nDp
          have hP11 := hP.kb k11 hp10
          have hv11 := hv10.kb k11 hp10
          have S11 : Same H0' H11 := ((KK9.trans k10).trans k11).same s1 np
          wtm_at "wp"
          refine w_dec (fun h11 => ?_) (fun h11 => ?_)
          · wtm_at "wp"
            refine ⟨p, many, _, rfl, p11, by omega, by omega, by omega, fun d12 H12 d120 d121 k12 p12 => ?_⟩
            have hD12 := k12 _ _ hD11 nDp
            have hP12 := hP11.kb k12 hp11
            have hv12 := hv11.kb k12 hp11
            have S12 : Same H0' H12 := (((KK9.trans k10).trans k11).trans k12).same s1 np
            obtain ⟨j, rfl⟩ := Int.eq_ofNat_of_zero_le d120
            have hj : j < qs.length := by omega
            obtain ⟨t, ht1, ht2⟩ := hP12.get hj
            refine w_ixL (.of hD12) (atI_nat ht1) ?_
            wtm_at "wp"
            have hix : ixN acc.length (-1) = some (acc.length - 1) := by
              unfold ixN
              rw [if_neg (by decide), if_pos (by omega)]
              congr 1
              omega
            refine w_setL hD12 hix (fun H13 k13 h13 => ?_)
            refine go _ _ ⟨_, _, _, qs.set (acc.length - 1) qs[j], rfl, h13, (hP12.set ht2).kb k13 hD12, by simp; omega, fun q hq => ?_, hv12.kb k13 hD12, k13.same S12 nD0⟩
            rcases List.mem_or_eq_of_mem_set hq with h | h
            · exact hqs q h
            · rw [h]
              exact hqs _ (List.getElem_mem _)
          · exact go _ _ ⟨_, _, acc, qs, rfl, hD11, hP11, by omega, hqs, hv11, S11⟩
        · rintro σ H11 ⟨w6, w7, ys, qs, rfl, hD11, hP11, hq8, hqs, hv11, S11⟩
          clear p10 hp10 hlen10 hv10 S10 hP hql ha hD k10 nDp nD nD0 hp9 p9 hv9 KK9 k9 k2 p2 hp2 S2
          wtm_at "wp"
          refine ⟨2, rfl, by decide, by decide, ?_⟩
          refine for_fin (n := 2) fin_rng (fun j σ H' => ∃ (v6 v7 : Option V) (l : Addr) (ys : List V) (qs : List PQ), σ = [some (.ref a), some (.int i), some (.ref p), some (.int many), some v, some (.ref l), v6, v7] ∧ H' l = some (.lst ys) ∧ Pairs H' ys qs ∧ qs.length ≤ 8 + j ∧ (∀ q ∈ qs, okQ q) ∧ Same H11 H') ⟨_, _, D, ys, qs, rfl, hD11, hP11, by omega, hqs, .refl _⟩ (fun _ _ _ _ _ => trivial) ?_ ?_
          · rintro j x σ H12 H12' hj ⟨w6, w7, l, ys, qs, rfl, hl, hP, hq, hqs, s12⟩ ⟨rfl, rfl⟩
            have hv12 : Oth K C_Ratio H12' v := hv11.oth.same s12
            wtm_at "wp"
            refine ⟨l, v, ys, qs, rfl, hl, hP, ⟨by omega, hqs⟩, hv12, fun H13 s13 => ?_⟩
            have hl13 := s13 _ _ hl
            have hP13 := hP.same s13
            wtm_at "wp"
            refine w_revE ?_
            wtm_at "wp"
            refine ⟨l, ys, rfl, .of hl13, fun l2 n14 => ?_⟩
            generalize eN : upd H13 l2 _ = H14
            have s14 := same_gen n14 eN
            have h14 := at_gen eN
            clear eN
            wtm_at "wp"
            rename_i t15 n15 H15 s15 h15 l16 n16 H16 s16 h16
            refine w_rep h16 (by omega) (by omega) (by simp; omega) (fun l17 H17 n17 s17 h17 => ?_)
            have h17b : H17 l2 = some (.lst ys.reverse) := s17 _ _ (s16 _ _ (s15 _ _ h14))
            have hyl := hP13.1
            have h15b := s17 _ _ (s16 _ _ h15)
            have hj2 : j = 0 ∨ j = 1 := by omega
            have S17 : Same H13 H17 := s14.trans (s15.trans (s16.trans s17))
            refine w_cat h17b h17 (sz ?_) (fun l18 H18 n18 s18 h18 => ?_)
            · rcases hj2 with rfl | rfl
              · simp
                omega
              · simp
                omega
            wtm_at "wp"
            have hP18 := ((hP13.rev).same S17).same s18
            rcases hj2 with rfl | rfl
            · refine ⟨_, _, l18, _, qs.reverse, rfl, h18, ?_, by simp; omega, fun q hq => hqs q (List.mem_reverse.mp hq), s12.trans (s13.trans (S17.trans s18))⟩
              simpa using hP18
            · refine ⟨_, _, l18, _, qs.reverse ++ [(-5, 3)], rfl, h18, ?_, by simp; omega, fun q hq => ?_, s12.trans (s13.trans (S17.trans s18))⟩
              · have e : ys.reverse ++ (List.replicate (0 + ((1 : Nat) : Int)).toNat [V.ref t15]).flatten = ys.reverse ++ [V.ref t15] := rfl
                rw [e]
                exact hP18.snoc (s18 _ _ h15b)
              · rcases List.mem_append.mp hq with h | h
                · exact hqs q (List.mem_reverse.mp h)
                · rw [List.mem_singleton.mp h]
                  exact ok53
          · rintro σ H12 ⟨w6, w7, l, ys, qs, rfl, hl, hP, hq, hqs, s12⟩
            wtm_at "wp"
            rename_i t13 n13 H13 s13 h13 l14 n14 H14 s14 h14
            have hyl := hP.1
            refine w_cat (s14 _ _ (s13 _ _ hl)) h14 (sz (by simp; omega)) (fun l15 H15 n15 s15 h15 => ?_)
            have S15 := s13.trans (s14.trans s15)
            wtm_at "wp"
            refine ⟨l15, v, _, qs ++ [(100000000000, 1)], rfl, h15, (hP.same S15).snoc (s15 _ _ (s14 _ _ h13)), ⟨by simp; omega, fun q hq => ?_⟩, (hv11.oth.same s12).same S15, fun H16 s16 => ?_⟩
            · rcases List.mem_append.mp hq with h | h
              · exact hqs q h
              · rw [List.mem_singleton.mp h]
                exact ok11
            wtm_at "wp"
            exact ⟨_, _, _, _, _, _, _, rfl, s0.trans (S11.trans (s12.trans (S15.trans s16)))⟩
    · rintro σ H1 ⟨v1, v2, v3, v4, v5, v6, v7, rfl, s1⟩
      wtm_at "wp"
      rename_i l2 n2 H2 s2 h2
      refine ⟨l2, [], [], rfl, h2, ⟨rfl, fun i q h => by simp at h⟩, ⟨by simp, fun q hq => absurd hq (by simp)⟩, fun r H3 s3 h3 => ?_⟩
      wtm_at "wp"
      rename_i t4 n4 H4 s4 h4
      exact ⟨r, t4, _, _, rfl, h3.same s4, .of h4, fun H' _ => k _⟩
end
end K33

namespace K33
theorem all_mk {l : PySem.W.OpenLaw} {w : World} {K : PySem.W.Frag} {h : Heap} {mg : Str → Option Value} {fa : Addr} (X : K.In h) (G : h.Ns mainGlobals mg) (hfa : mg "law" = some (.ref fa))
    {C_Ratio : Addr}
    {f_Ratio_set_lowest : Addr} {od_Ratio_set_lowest an_Ratio_set_lowest : Option Addr} {sl_Ratio_set_lowest : Array (Option Value)} {oc_Ratio_set_lowest kV_Ratio_set_lowest dc_Ratio_set_lowest pm_Ratio_set_lowest cd_Ratio_set_lowest ct_Ratio_set_lowest : Value}
    {f_Ratio_plus : Addr} {od_Ratio_plus an_Ratio_plus : Option Addr} {sl_Ratio_plus : Array (Option Value)} {oc_Ratio_plus kV_Ratio_plus dc_Ratio_plus pm_Ratio_plus cd_Ratio_plus ct_Ratio_plus : Value}
    {f_Ratio_is_less : Addr} {od_Ratio_is_less an_Ratio_is_less : Option Addr} {sl_Ratio_is_less : Array (Option Value)} {oc_Ratio_is_less kV_Ratio_is_less dc_Ratio_is_less pm_Ratio_is_less cd_Ratio_is_less ct_Ratio_is_less : Value}
    {f_Ratio___eq__ : Addr} {od_Ratio___eq__ an_Ratio___eq__ : Option Addr} {sl_Ratio___eq__ : Array (Option Value)} {oc_Ratio___eq__ kV_Ratio___eq__ dc_Ratio___eq__ pm_Ratio___eq__ cd_Ratio___eq__ ct_Ratio___eq__ : Value}
    {T_Ratio : Addr} {ocT_Ratio : Value} {odT_Ratio : Option Addr} {nT_Ratio : Nat} {slT_Ratio : Array (Option Value)} {tk0_Ratio : Tok}
    {f_Ratio___init__ : Addr} {od_Ratio___init__ an_Ratio___init__ : Option Addr} {sl_Ratio___init__ : Array (Option Value)} {oc_Ratio___init__ kV_Ratio___init__ dc_Ratio___init__ pm_Ratio___init__ cd_Ratio___init__ ct_Ratio___init__ : Value}
    {f_common_part : Addr} {od_common_part an_common_part : Option Addr} {sl_common_part : Array (Option Value)} {oc_common_part kV_common_part dc_common_part pm_common_part cd_common_part ct_common_part : Value}
    {f_is_figured : Addr} {od_is_figured an_is_figured : Option Addr} {sl_is_figured : Array (Option Value)} {oc_is_figured kV_is_figured dc_is_figured pm_is_figured cd_is_figured ct_is_figured : Value}
    {f_made_of : Addr} {od_made_of an_made_of : Option Addr} {sl_made_of : Array (Option Value)} {oc_made_of kV_made_of dc_made_of pm_made_of cd_made_of ct_made_of : Value}
    {f_total : Addr} {od_total an_total : Option Addr} {sl_total : Array (Option Value)} {oc_total kV_total dc_total pm_total cd_total ct_total : Value}
    {Dk_greatest : Addr} 
    {f_greatest : Addr} {od_greatest an_greatest : Option Addr} {sl_greatest : Array (Option Value)} {oc_greatest  dc_greatest pm_greatest cd_greatest ct_greatest : Value}
    {f_law_low : Addr} {od_law_low an_law_low : Option Addr} {sl_law_low : Array (Option Value)} {oc_law_low kV_law_low dc_law_low pm_law_low cd_law_low ct_law_low : Value}
    {f_law_plus : Addr} {od_law_plus an_law_plus : Option Addr} {sl_law_plus : Array (Option Value)} {oc_law_plus kV_law_plus dc_law_plus pm_law_plus cd_law_plus ct_law_plus : Value}
    {f_law_less : Addr} {od_law_less an_law_less : Option Addr} {sl_law_less : Array (Option Value)} {oc_law_less kV_law_less dc_law_less pm_law_less cd_law_less ct_law_less : Value}
    {f_law_is_ratio : Addr} {od_law_is_ratio an_law_is_ratio : Option Addr} {sl_law_is_ratio : Array (Option Value)} {oc_law_is_ratio kV_law_is_ratio dc_law_is_ratio pm_law_is_ratio cd_law_is_ratio ct_law_is_ratio : Value}
    {f_law_take : Addr} {od_law_take an_law_take : Option Addr} {sl_law_take : Array (Option Value)} {oc_law_take kV_law_take dc_law_take pm_law_take cd_law_take ct_law_take : Value}
    {f_law_purse : Addr} {od_law_purse an_law_purse : Option Addr} {sl_law_purse : Array (Option Value)} {oc_law_purse kV_law_purse dc_law_purse pm_law_purse cd_law_purse ct_law_purse : Value}
    {f_law_small_ratio : Addr} {od_law_small_ratio an_law_small_ratio : Option Addr} {sl_law_small_ratio : Array (Option Value)} {oc_law_small_ratio kV_law_small_ratio dc_law_small_ratio pm_law_small_ratio cd_law_small_ratio ct_law_small_ratio : Value}
    {f_law_right : Addr} {od_law_right an_law_right : Option Addr} {sl_law_right : Array (Option Value)} {oc_law_right kV_law_right dc_law_right pm_law_right cd_law_right ct_law_right : Value}
    {f_law : Addr} {od_law an_law : Option Addr} {sl_law : Array (Option Value)} {oc_law kV_law dc_law pm_law cd_law ct_law : Value}
    {tc_FARTHEST : Tok}
    (aC_Ratio : PySem.W.nsIn K mainGlobals "Ratio" = some (some (.ref C_Ratio)))
    (pg_Ratio : PySem.W.plainGet K C_Ratio Str.empty = true)
    (hd_Ratio : PySem.W.hasDictIn K C_Ratio = true)
    (po_Ratio : PySem.W.plainOver K C_Ratio = true)
    (sa_Ratio : PySem.W.findIn K (.ref C_Ratio) "__setattr__" = some (some (.builtin "object.__setattr__")))
    (na_Ratio_top : PySem.W.findIn K (.ref C_Ratio) "top" = some none)
    (na_Ratio_bottom : PySem.W.findIn K (.ref C_Ratio) "bottom" = some none)
    (ka_Ratio : PySem.W.findIn K (.ref C_Ratio) "__class__" = some (some (.builtin "object.__class__")))
    (kn_Ratio : PySem.W.specialIn K (.builtin "object.__class__") "__get__" = some (some (.builtin "getset_descriptor.__get__")))
    (kt_Ratio : PySem.W.takesIn K (.builtin "object.__class__") = some true)
    (km_Ratio : PySem.W.mroIn K C_Ratio (.type "object") = some true)
    (a_Ratio_set_lowest : PySem.W.findIn K (.ref C_Ratio) "set_lowest" = some (some (.ref f_Ratio_set_lowest)))
    (i_Ratio_set_lowest : PySem.W.isFn K (.ref f_Ratio_set_lowest) = true)
    (l_Ratio_set_lowest : K.lookup f_Ratio_set_lowest = some ⟨oc_Ratio_set_lowest, od_Ratio_set_lowest, .func (PySem.W.fnOf "set_lowest" "Ratio.set_lowest" (defArgs s_Ratio_set_lowest) (defBody s_Ratio_set_lowest) (defScope s_Ratio_set_lowest) .none kV_Ratio_set_lowest dc_Ratio_set_lowest pm_Ratio_set_lowest an_Ratio_set_lowest cd_Ratio_set_lowest ct_Ratio_set_lowest), sl_Ratio_set_lowest⟩)
    (c_Ratio_set_lowest : PySem.W.codeIn K cd_Ratio_set_lowest "Ratio.set_lowest" = true)
    (k_Ratio_set_lowest : PySem.W.keepIn K (.ref f_Ratio_set_lowest) = true)
    (a_Ratio_plus : PySem.W.findIn K (.ref C_Ratio) "plus" = some (some (.ref f_Ratio_plus)))
    (i_Ratio_plus : PySem.W.isFn K (.ref f_Ratio_plus) = true)
    (l_Ratio_plus : K.lookup f_Ratio_plus = some ⟨oc_Ratio_plus, od_Ratio_plus, .func (PySem.W.fnOf "plus" "Ratio.plus" (defArgs s_Ratio_plus) (defBody s_Ratio_plus) (defScope s_Ratio_plus) .none kV_Ratio_plus dc_Ratio_plus pm_Ratio_plus an_Ratio_plus cd_Ratio_plus ct_Ratio_plus), sl_Ratio_plus⟩)
    (c_Ratio_plus : PySem.W.codeIn K cd_Ratio_plus "Ratio.plus" = true)
    (k_Ratio_plus : PySem.W.keepIn K (.ref f_Ratio_plus) = true)
    (a_Ratio_is_less : PySem.W.findIn K (.ref C_Ratio) "is_less" = some (some (.ref f_Ratio_is_less)))
    (i_Ratio_is_less : PySem.W.isFn K (.ref f_Ratio_is_less) = true)
    (l_Ratio_is_less : K.lookup f_Ratio_is_less = some ⟨oc_Ratio_is_less, od_Ratio_is_less, .func (PySem.W.fnOf "is_less" "Ratio.is_less" (defArgs s_Ratio_is_less) (defBody s_Ratio_is_less) (defScope s_Ratio_is_less) .none kV_Ratio_is_less dc_Ratio_is_less pm_Ratio_is_less an_Ratio_is_less cd_Ratio_is_less ct_Ratio_is_less), sl_Ratio_is_less⟩)
    (c_Ratio_is_less : PySem.W.codeIn K cd_Ratio_is_less "Ratio.is_less" = true)
    (k_Ratio_is_less : PySem.W.keepIn K (.ref f_Ratio_is_less) = true)
    (a_Ratio___eq__ : PySem.W.findIn K (.ref C_Ratio) "__eq__" = some (some (.ref f_Ratio___eq__)))
    (i_Ratio___eq__ : PySem.W.isFn K (.ref f_Ratio___eq__) = true)
    (l_Ratio___eq__ : K.lookup f_Ratio___eq__ = some ⟨oc_Ratio___eq__, od_Ratio___eq__, .func (PySem.W.fnOf "__eq__" "Ratio.__eq__" (defArgs s_Ratio___eq__) (defBody s_Ratio___eq__) (defScope s_Ratio___eq__) .none kV_Ratio___eq__ dc_Ratio___eq__ pm_Ratio___eq__ an_Ratio___eq__ cd_Ratio___eq__ ct_Ratio___eq__), sl_Ratio___eq__⟩)
    (c_Ratio___eq__ : PySem.W.codeIn K cd_Ratio___eq__ "Ratio.__eq__" = true)
    (k_Ratio___eq__ : PySem.W.keepIn K (.ref f_Ratio___eq__) = true)
    (a_Ratio___init__ : PySem.W.findIn K (.ref C_Ratio) "__init__" = some (some (.ref f_Ratio___init__)))
    (i_Ratio___init__ : PySem.W.isFn K (.ref f_Ratio___init__) = true)
    (l_Ratio___init__ : K.lookup f_Ratio___init__ = some ⟨oc_Ratio___init__, od_Ratio___init__, .func (PySem.W.fnOf "__init__" "Ratio.__init__" (defArgs s_Ratio___init__) (defBody s_Ratio___init__) (defScope s_Ratio___init__) (.ref T_Ratio) kV_Ratio___init__ dc_Ratio___init__ pm_Ratio___init__ an_Ratio___init__ cd_Ratio___init__ ct_Ratio___init__), sl_Ratio___init__⟩)
    (c_Ratio___init__ : PySem.W.codeIn K cd_Ratio___init__ "Ratio.__init__" = true)
    (k_Ratio___init__ : PySem.W.keepIn K (.ref f_Ratio___init__) = true)
    (lT_Ratio : K.lookup T_Ratio = some ⟨ocT_Ratio, odT_Ratio, .seq (List.toArray [.int 1 tk0_Ratio]) nT_Ratio, slT_Ratio⟩)
    (mk_Ratio : PySem.W.makesIn K C_Ratio = true)
    (kc_Ratio : PySem.W.keepIn K (.ref C_Ratio) = true)
    (a_common_part : PySem.W.nsIn K mainGlobals "common_part" = some (some (.ref f_common_part)))
    (l_common_part : K.lookup f_common_part = some ⟨oc_common_part, od_common_part, .func (PySem.W.fnOf "common_part" "common_part" (defArgs s_common_part) (defBody s_common_part) (defScope s_common_part) .none kV_common_part dc_common_part pm_common_part an_common_part cd_common_part ct_common_part), sl_common_part⟩)
    (c_common_part : PySem.W.codeIn K cd_common_part "common_part" = true)
    (k_common_part : PySem.W.keepIn K (.ref f_common_part) = true)
    (a_is_figured : PySem.W.nsIn K mainGlobals "is_figured" = some (some (.ref f_is_figured)))
    (l_is_figured : K.lookup f_is_figured = some ⟨oc_is_figured, od_is_figured, .func (PySem.W.fnOf "is_figured" "is_figured" (defArgs s_is_figured) (defBody s_is_figured) (defScope s_is_figured) .none kV_is_figured dc_is_figured pm_is_figured an_is_figured cd_is_figured ct_is_figured), sl_is_figured⟩)
    (c_is_figured : PySem.W.codeIn K cd_is_figured "is_figured" = true)
    (k_is_figured : PySem.W.keepIn K (.ref f_is_figured) = true)
    (a_made_of : PySem.W.nsIn K mainGlobals "made_of" = some (some (.ref f_made_of)))
    (l_made_of : K.lookup f_made_of = some ⟨oc_made_of, od_made_of, .func (PySem.W.fnOf "made_of" "made_of" (defArgs s_made_of) (defBody s_made_of) (defScope s_made_of) .none kV_made_of dc_made_of pm_made_of an_made_of cd_made_of ct_made_of), sl_made_of⟩)
    (c_made_of : PySem.W.codeIn K cd_made_of "made_of" = true)
    (k_made_of : PySem.W.keepIn K (.ref f_made_of) = true)
    (a_total : PySem.W.nsIn K mainGlobals "total" = some (some (.ref f_total)))
    (l_total : K.lookup f_total = some ⟨oc_total, od_total, .func (PySem.W.fnOf "total" "total" (defArgs s_total) (defBody s_total) (defScope s_total) .none kV_total dc_total pm_total an_total cd_total ct_total), sl_total⟩)
    (c_total : PySem.W.codeIn K cd_total "total" = true)
    (k_total : PySem.W.keepIn K (.ref f_total) = true)
    (a_greatest : PySem.W.nsIn K mainGlobals "greatest" = some (some (.ref f_greatest)))
    (l_greatest : K.lookup f_greatest = some ⟨oc_greatest, od_greatest, .func (PySem.W.fnOf "greatest" "greatest" (defArgs s_greatest) (defBody s_greatest) (defScope s_greatest) .none (.ref Dk_greatest) dc_greatest pm_greatest an_greatest cd_greatest ct_greatest), sl_greatest⟩)
    (kw_greatest_default : PySem.W.nsIn K Dk_greatest "default" = some (some (.none)))
    (c_greatest : PySem.W.codeIn K cd_greatest "greatest" = true)
    (k_greatest : PySem.W.keepIn K (.ref f_greatest) = true)
    (a_law_low : PySem.W.nsIn K mainGlobals "_law_low" = some (some (.ref f_law_low)))
    (l_law_low : K.lookup f_law_low = some ⟨oc_law_low, od_law_low, .func (PySem.W.fnOf "_law_low" "_law_low" (defArgs s_law_low) (defBody s_law_low) (defScope s_law_low) .none kV_law_low dc_law_low pm_law_low an_law_low cd_law_low ct_law_low), sl_law_low⟩)
    (c_law_low : PySem.W.codeIn K cd_law_low "_law_low" = true)
    (k_law_low : PySem.W.keepIn K (.ref f_law_low) = true)
    (a_law_plus : PySem.W.nsIn K mainGlobals "_law_plus" = some (some (.ref f_law_plus)))
    (l_law_plus : K.lookup f_law_plus = some ⟨oc_law_plus, od_law_plus, .func (PySem.W.fnOf "_law_plus" "_law_plus" (defArgs s_law_plus) (defBody s_law_plus) (defScope s_law_plus) .none kV_law_plus dc_law_plus pm_law_plus an_law_plus cd_law_plus ct_law_plus), sl_law_plus⟩)
    (c_law_plus : PySem.W.codeIn K cd_law_plus "_law_plus" = true)
    (k_law_plus : PySem.W.keepIn K (.ref f_law_plus) = true)
    (a_law_less : PySem.W.nsIn K mainGlobals "_law_less" = some (some (.ref f_law_less)))
    (l_law_less : K.lookup f_law_less = some ⟨oc_law_less, od_law_less, .func (PySem.W.fnOf "_law_less" "_law_less" (defArgs s_law_less) (defBody s_law_less) (defScope s_law_less) .none kV_law_less dc_law_less pm_law_less an_law_less cd_law_less ct_law_less), sl_law_less⟩)
    (c_law_less : PySem.W.codeIn K cd_law_less "_law_less" = true)
    (k_law_less : PySem.W.keepIn K (.ref f_law_less) = true)
    (a_law_is_ratio : PySem.W.nsIn K mainGlobals "_law_is_ratio" = some (some (.ref f_law_is_ratio)))
    (l_law_is_ratio : K.lookup f_law_is_ratio = some ⟨oc_law_is_ratio, od_law_is_ratio, .func (PySem.W.fnOf "_law_is_ratio" "_law_is_ratio" (defArgs s_law_is_ratio) (defBody s_law_is_ratio) (defScope s_law_is_ratio) .none kV_law_is_ratio dc_law_is_ratio pm_law_is_ratio an_law_is_ratio cd_law_is_ratio ct_law_is_ratio), sl_law_is_ratio⟩)
    (c_law_is_ratio : PySem.W.codeIn K cd_law_is_ratio "_law_is_ratio" = true)
    (k_law_is_ratio : PySem.W.keepIn K (.ref f_law_is_ratio) = true)
    (a_law_take : PySem.W.nsIn K mainGlobals "_law_take" = some (some (.ref f_law_take)))
    (l_law_take : K.lookup f_law_take = some ⟨oc_law_take, od_law_take, .func (PySem.W.fnOf "_law_take" "_law_take" (defArgs s_law_take) (defBody s_law_take) (defScope s_law_take) .none kV_law_take dc_law_take pm_law_take an_law_take cd_law_take ct_law_take), sl_law_take⟩)
    (c_law_take : PySem.W.codeIn K cd_law_take "_law_take" = true)
    (k_law_take : PySem.W.keepIn K (.ref f_law_take) = true)
    (a_law_purse : PySem.W.nsIn K mainGlobals "_law_purse" = some (some (.ref f_law_purse)))
    (l_law_purse : K.lookup f_law_purse = some ⟨oc_law_purse, od_law_purse, .func (PySem.W.fnOf "_law_purse" "_law_purse" (defArgs s_law_purse) (defBody s_law_purse) (defScope s_law_purse) .none kV_law_purse dc_law_purse pm_law_purse an_law_purse cd_law_purse ct_law_purse), sl_law_purse⟩)
    (c_law_purse : PySem.W.codeIn K cd_law_purse "_law_purse" = true)
    (k_law_purse : PySem.W.keepIn K (.ref f_law_purse) = true)
    (a_law_small_ratio : PySem.W.nsIn K mainGlobals "_law_small_ratio" = some (some (.ref f_law_small_ratio)))
    (l_law_small_ratio : K.lookup f_law_small_ratio = some ⟨oc_law_small_ratio, od_law_small_ratio, .func (PySem.W.fnOf "_law_small_ratio" "_law_small_ratio" (defArgs s_law_small_ratio) (defBody s_law_small_ratio) (defScope s_law_small_ratio) .none kV_law_small_ratio dc_law_small_ratio pm_law_small_ratio an_law_small_ratio cd_law_small_ratio ct_law_small_ratio), sl_law_small_ratio⟩)
    (c_law_small_ratio : PySem.W.codeIn K cd_law_small_ratio "_law_small_ratio" = true)
    (k_law_small_ratio : PySem.W.keepIn K (.ref f_law_small_ratio) = true)
    (a_law_right : PySem.W.nsIn K mainGlobals "_law_right" = some (some (.ref f_law_right)))
    (l_law_right : K.lookup f_law_right = some ⟨oc_law_right, od_law_right, .func (PySem.W.fnOf "_law_right" "_law_right" (defArgs s_law_right) (defBody s_law_right) (defScope s_law_right) .none kV_law_right dc_law_right pm_law_right an_law_right cd_law_right ct_law_right), sl_law_right⟩)
    (c_law_right : PySem.W.codeIn K cd_law_right "_law_right" = true)
    (k_law_right : PySem.W.keepIn K (.ref f_law_right) = true)
    (a_law : PySem.W.nsIn K mainGlobals "law" = some (some (.ref f_law)))
    (l_law : K.lookup f_law = some ⟨oc_law, od_law, .func (PySem.W.fnOf "law" "law" (defArgs s_law) (defBody s_law) (defScope s_law) .none kV_law dc_law pm_law an_law cd_law ct_law), sl_law⟩)
    (c_law : PySem.W.codeIn K cd_law "law" = true)
    (k_law : PySem.W.keepIn K (.ref f_law) = true)
    (z_isinstance : PySem.W.nsIn K mainGlobals "isinstance" = some none)
    (z_bool : PySem.W.nsIn K mainGlobals "bool" = some none)
    (z_int : PySem.W.nsIn K mainGlobals "int" = some none)
    (z_list : PySem.W.nsIn K mainGlobals "list" = some none)
    (z_tuple : PySem.W.nsIn K mainGlobals "tuple" = some none)
    (z_len : PySem.W.nsIn K mainGlobals "len" = some none)
    (z_max : PySem.W.nsIn K mainGlobals "max" = some none)
    (z_min : PySem.W.nsIn K mainGlobals "min" = some none)
    (z_range : PySem.W.nsIn K mainGlobals "range" = some none)
    (z_abs : PySem.W.nsIn K mainGlobals "abs" = some none)
    (z_enumerate : PySem.W.nsIn K mainGlobals "enumerate" = some none)
    (g_FARTHEST : PySem.W.nsIn K mainGlobals "FARTHEST" = some (some (.int (10 ^ 300) tc_FARTHEST))) :
    ∃ fd : FuncData, (∀ (s : Shared) (v : Value), BindsTo s fd ⟨[v], []⟩ [("_law_script", v)]) ∧ ∀ base : Heap, K.In base → base.Ns mainGlobals mg → FnOk l.prog w K mg base CX0 9 fa fd ["_law_script"] (spLaw K) := by
  have e := hfa.symm.trans (PySem.W.mg_of X G a_law)
  cases e
  have T : Txt K mg C_Ratio := ⟨⟨pg_Ratio, hd_Ratio, po_Ratio, sa_Ratio⟩, PySem.W.mg_of X G aC_Ratio, na_Ratio_top, na_Ratio_bottom, ⟨_, PySem.W.mg_of X G g_FARTHEST⟩, PySem.W.mg_none_of X G z_isinstance, PySem.W.mg_none_of X G z_bool, PySem.W.mg_none_of X G z_int, PySem.W.mg_none_of X G z_list, PySem.W.mg_none_of X G z_tuple, PySem.W.mg_none_of X G z_len, PySem.W.mg_none_of X G z_max, PySem.W.mg_none_of X G z_min, PySem.W.mg_none_of X G z_range, PySem.W.mg_none_of X G z_abs, PySem.W.mg_none_of X G z_enumerate⟩
  have F_Ratio_set_lowest := fun_mk (st := s_Ratio_set_lowest) l_Ratio_set_lowest c_Ratio_set_lowest k_Ratio_set_lowest
  have b_Ratio_set_lowest := F_Ratio_set_lowest.binds (ps := ["self", "top", "bottom"]) fun _ _ _ _ _ _ us hl => match us, hl with | [_, _, _], _ => rfl
  have F_Ratio_plus := fun_mk (st := s_Ratio_plus) l_Ratio_plus c_Ratio_plus k_Ratio_plus
  have b_Ratio_plus := F_Ratio_plus.binds (ps := ["self", "other"]) fun _ _ _ _ _ _ us hl => match us, hl with | [_, _], _ => rfl
  have F_Ratio_is_less := fun_mk (st := s_Ratio_is_less) l_Ratio_is_less c_Ratio_is_less k_Ratio_is_less
  have b_Ratio_is_less := F_Ratio_is_less.binds (ps := ["self", "other"]) fun _ _ _ _ _ _ us hl => match us, hl with | [_, _], _ => rfl
  have F_Ratio___eq__ := fun_mk (st := s_Ratio___eq__) l_Ratio___eq__ c_Ratio___eq__ k_Ratio___eq__
  have b_Ratio___eq__ := F_Ratio___eq__.binds (ps := ["self", "other"]) fun _ _ _ _ _ _ us hl => match us, hl with | [_, _], _ => rfl
  have F_common_part := fun_mk (st := s_common_part) l_common_part c_common_part k_common_part
  have b_common_part := F_common_part.binds (ps := ["one", "other"]) fun _ _ _ _ _ _ us hl => match us, hl with | [_, _], _ => rfl
  have F_is_figured := fun_mk (st := s_is_figured) l_is_figured c_is_figured k_is_figured
  have b_is_figured := F_is_figured.binds (ps := ["thing"]) fun _ _ _ _ _ _ us hl => match us, hl with | [_], _ => rfl
  have F_made_of := fun_mk (st := s_made_of) l_made_of c_made_of k_made_of
  have b_made_of := F_made_of.binds (ps := ["top", "bottom"]) fun _ _ _ _ _ _ us hl => match us, hl with | [_, _], _ => rfl
  have F_total := fun_mk (st := s_total) l_total c_total k_total
  have b_total := F_total.binds (ps := ["ratios"]) fun _ _ _ _ _ _ us hl => match us, hl with | [_], _ => rfl
  have F_greatest : FunD K "greatest" "greatest" (defArgs s_greatest) (defBody s_greatest) (defScope s_greatest) [] [("default", .non)] f_greatest _ := ⟨⟨_, _, _, _, _, _, _, _, _, _, rfl, l_greatest, c_greatest, .inl ⟨rfl, rfl⟩, .inr ⟨_, rfl, fun q hq => by
    simp only [List.mem_cons, List.not_mem_nil, or_false] at hq
    rcases hq with rfl
    · exact ⟨_, kw_greatest_default, by first | exact ⟨_, rfl⟩ | rfl⟩⟩⟩, k_greatest⟩
  have F_law_low := fun_mk (st := s_law_low) l_law_low c_law_low k_law_low
  have b_law_low := F_law_low.binds (ps := ["_law_upper", "_law_lower"]) fun _ _ _ _ _ _ us hl => match us, hl with | [_, _], _ => rfl
  have F_law_plus := fun_mk (st := s_law_plus) l_law_plus c_law_plus k_law_plus
  have b_law_plus := F_law_plus.binds (ps := ["_law_one", "_law_other"]) fun _ _ _ _ _ _ us hl => match us, hl with | [_, _], _ => rfl
  have F_law_less := fun_mk (st := s_law_less) l_law_less c_law_less k_law_less
  have b_law_less := F_law_less.binds (ps := ["_law_one", "_law_other"]) fun _ _ _ _ _ _ us hl => match us, hl with | [_, _], _ => rfl
  have F_law_is_ratio := fun_mk (st := s_law_is_ratio) l_law_is_ratio c_law_is_ratio k_law_is_ratio
  have b_law_is_ratio := F_law_is_ratio.binds (ps := ["_law_told", "_law_due"]) fun _ _ _ _ _ _ us hl => match us, hl with | [_, _], _ => rfl
  have F_law_take := fun_mk (st := s_law_take) l_law_take c_law_take k_law_take
  have b_law_take := F_law_take.binds (ps := ["_law_purse_here", "_law_many"]) fun _ _ _ _ _ _ us hl => match us, hl with | [_, _], _ => rfl
  have F_law_purse := fun_mk (st := s_law_purse) l_law_purse c_law_purse k_law_purse
  have b_law_purse := F_law_purse.binds (ps := ["_law_script", "_law_at"]) fun _ _ _ _ _ _ us hl => match us, hl with | [_, _], _ => rfl
  have F_law_small_ratio := fun_mk (st := s_law_small_ratio) l_law_small_ratio c_law_small_ratio k_law_small_ratio
  have b_law_small_ratio := F_law_small_ratio.binds (ps := ["_law_purse_here"]) fun _ _ _ _ _ _ us hl => match us, hl with | [_], _ => rfl
  have F_law_right := fun_mk (st := s_law_right) l_law_right c_law_right k_law_right
  have b_law_right := F_law_right.binds (ps := ["_law_pairs", "_law_other"]) fun _ _ _ _ _ _ us hl => match us, hl with | [_, _], _ => rfl
  have F_law := fun_mk (st := s_law) l_law c_law k_law
  have kl_Ratio : Kls K C_Ratio := ⟨⟨pg_Ratio, hd_Ratio, po_Ratio, sa_Ratio⟩, ka_Ratio, kn_Ratio, kt_Ratio, km_Ratio⟩
  have F_init : FunD K "__init__" "Ratio.__init__" (defArgs s_Ratio___init__) (defBody s_Ratio___init__) (defScope s_Ratio___init__) [.int 1] [] f_Ratio___init__ _ := ⟨⟨_, _, _, _, _, _, _, _, _, _, rfl, l_Ratio___init__, c_Ratio___init__, .inr ⟨by simp, _, _, _, _, rfl, lT_Ratio, rfl, .cons ⟨_, rfl⟩ .nil⟩, .inl rfl⟩, k_Ratio___init__⟩
  obtain ⟨d1, hd1, hb1⟩ := F_init.binds1 (ps := ["self", "top", "bottom"]) 2 0 (by simp) rfl (fun T kV doc pm an cdv ct us its h1 h2 => match us, its, h1, h2 with | [_, _], [_], _, _ => ⟨_, rfl, rfl⟩)
  obtain ⟨d2, hd2, hb2⟩ := F_init.binds1 (ps := ["self", "top", "bottom"]) 3 1 (by simp) rfl (fun T kV doc pm an cdv ct us its h1 h2 => match us, its, h1, h2 with | [_, _, _], [_], _, _ => ⟨_, rfl, rfl⟩)
  refine ⟨PySem.W.fnOf "law" "law" (defArgs s_law) (defBody s_law) (defScope s_law) .none kV_law dc_law pm_law an_law cd_law ct_law, fun s v => .of_eq rfl, fun base _ _ => ?_⟩
  have f_common_part : Fn l.prog w K mg base "common_part" _ _ _ := ⟨_, _, ok_common F_common_part T, PySem.W.mg_of X G a_common_part, k_common_part, b_common_part⟩
  have f_is_figured : Fn l.prog w K mg base "is_figured" _ _ _ := ⟨_, _, ok_fig F_is_figured T, PySem.W.mg_of X G a_is_figured, k_is_figured, b_is_figured⟩
  have me_Ratio_set_lowest : Me l.prog w K mg base C_Ratio "set_lowest" _ _ _ := ⟨_, _, ok_set F_Ratio_set_lowest T f_common_part, ⟨a_Ratio_set_lowest, i_Ratio_set_lowest, k_Ratio_set_lowest⟩, b_Ratio_set_lowest⟩
  have G_init := ok_init (P := l.prog) (w := w) (base := base) F_init T f_is_figured me_Ratio_set_lowest
  have mk_Ratio_1 : Mkr l.prog w K mg base "Ratio" C_Ratio _ _ [.int 1] _ := ⟨_, _, _, ⟨mk_Ratio, a_Ratio___init__, i_Ratio___init__, kc_Ratio⟩, G_init, PySem.W.mg_of X G aC_Ratio, hb1, hd1⟩
  have mk_Ratio_2 : Mkr l.prog w K mg base "Ratio" C_Ratio _ _ [] _ := ⟨_, _, _, ⟨mk_Ratio, a_Ratio___init__, i_Ratio___init__, kc_Ratio⟩, G_init, PySem.W.mg_of X G aC_Ratio, hb2, hd2⟩
  have f_made_of : Fn l.prog w K mg base "made_of" _ _ _ := ⟨_, _, ok_made F_made_of T mk_Ratio_1 me_Ratio_set_lowest, PySem.W.mg_of X G a_made_of, k_made_of, b_made_of⟩
  have me_Ratio_plus : Me l.prog w K mg base C_Ratio "plus" _ _ _ := ⟨_, _, ok_plus F_Ratio_plus T f_made_of, ⟨a_Ratio_plus, i_Ratio_plus, k_Ratio_plus⟩, b_Ratio_plus⟩
  have me_Ratio_is_less : Me l.prog w K mg base C_Ratio "is_less" _ _ _ := ⟨_, _, ok_less F_Ratio_is_less T, ⟨a_Ratio_is_less, i_Ratio_is_less, k_Ratio_is_less⟩, b_Ratio_is_less⟩
  have f_total : Fn l.prog w K mg base "total" _ _ _ := ⟨_, _, ok_total F_total T mk_Ratio_1 me_Ratio_plus, PySem.W.mg_of X G a_total, k_total, b_total⟩
  have e_Ratio : EqO l.prog w K mg base C_Ratio _ _ _ := ⟨_, _, ok_req F_Ratio___eq__ T kl_Ratio, a_Ratio___eq__, i_Ratio___eq__, b_Ratio___eq__⟩
  have G_great := ok_great (P := l.prog) (w := w) (base := base) F_greatest T me_Ratio_is_less
  obtain ⟨d3, hd3, hb3⟩ := F_greatest.binds0 (ps := ["ratios", "default"]) 1 (by simp) rfl (fun D doc pm an cdv ct us ks h1 h2 => match us, ks, h1, h2 with | [_], [_], _, _ => ⟨_, _, _, _, _, _, rfl, rfl, rfl⟩)
  obtain ⟨mv, hb4⟩ := F_greatest.kbinds0 (ps := ["ratios", "default"]) 1 ["default"] [] (fun us _ ws => us ++ ws) (by simp) (by simp) (fun a b c => a.append c) (fun D doc pm an cdv ct us mv ws h1 h2 h3 => match us, mv, ws, h1, h2, h3 with | [_], [], [_], _, _, _ => rfl)
  have f_greatest_1 : FnD l.prog w K mg base CX0 "greatest" _ _ [.non] _ := ⟨_, _, _, G_great, PySem.W.mg_of X G a_greatest, k_greatest, hb3, hd3⟩
  have f_greatest_default : FnK l.prog w K mg base CX0 "greatest" _ _ 1 ["default"] (fun vs zs => vs ++ zs) _ := ⟨_, _, _, G_great, PySem.W.mg_of X G a_greatest, k_greatest, hb4⟩
  have f__law_low : Fn l.prog w K mg base "_law_low" _ _ _ := ⟨_, _, ok_low F_law_low T, PySem.W.mg_of X G a_law_low, k_law_low, b_law_low⟩
  have f__law_plus : Fn l.prog w K mg base "_law_plus" _ _ _ := ⟨_, _, ok_lplus F_law_plus f__law_low, PySem.W.mg_of X G a_law_plus, k_law_plus, b_law_plus⟩
  have f__law_less : Fn l.prog w K mg base "_law_less" _ _ _ := ⟨_, _, ok_lless F_law_less , PySem.W.mg_of X G a_law_less, k_law_less, b_law_less⟩
  have f__law_is_ratio : Fn l.prog w K mg base "_law_is_ratio" _ _ _ := ⟨_, _, ok_isr F_law_is_ratio T, PySem.W.mg_of X G a_law_is_ratio, k_law_is_ratio, b_law_is_ratio⟩
  have f__law_take : Fn l.prog w K mg base "_law_take" _ _ _ := ⟨_, _, ok_take F_law_take , PySem.W.mg_of X G a_law_take, k_law_take, b_law_take⟩
  have f__law_purse : Fn l.prog w K mg base "_law_purse" _ _ _ := ⟨_, _, ok_purse F_law_purse T, PySem.W.mg_of X G a_law_purse, k_law_purse, b_law_purse⟩
  have f__law_small_ratio : Fn l.prog w K mg base "_law_small_ratio" _ _ _ := ⟨_, _, ok_small F_law_small_ratio T f__law_take f__law_low, PySem.W.mg_of X G a_law_small_ratio, k_law_small_ratio, b_law_small_ratio⟩
  have f__law_right : Fn l.prog w K mg base "_law_right" _ _ _ := ⟨_, _, ok_right F_law_right T mk_Ratio_2 f_total f_greatest_1 f_greatest_default f__law_plus f__law_less f__law_is_ratio e_Ratio, PySem.W.mg_of X G a_law_right, k_law_right, b_law_right⟩
  exact ok_law F_law T f__law_purse f__law_take f__law_small_ratio f__law_right f__law_is_ratio f_total mk_Ratio_1 mk_Ratio_2
end K33

open PySem PySem.W PyProof.Rows
set_option maxRecDepth 100000 in
set_option maxHeartbeats 0 in
theorem PySem.Challenge.cw_blocksearch_k33_sums_and_greatest_holds : PySem.Challenge.rw_blocksearch_k33_sums_and_greatest.Holds := by
  w_on; o_law; k_head; (case hw => w_witness2)
  k_fill
  refine L2.walk_of (l := PySem.Challenge.rw_blocksearch_k33_sums_and_greatest) (n := 63) (k := 9) (x := "_law_script") (CX := fun _ => L2.CX0) (sp := fun w => K33.spLaw _) rfl (by decide) rfl ⟨rfl, by decide, by decide⟩ (fun w h Y => PySem.W.kIn_of Y) ?F (fun _ _ a ns hl _ hS => ⟨a, ns, rfl, hS, hl, fun _ => rfl⟩) (fun _ _ _ _ _ h => h)
  case F =>
    intro w mg fa h KX G hmg
    refine' K33.all_mk KX G hmg ?aC_Ratio ?pg_Ratio ?hd_Ratio ?po_Ratio ?sa_Ratio ?na_Ratio_top ?na_Ratio_bottom ?ka_Ratio ?kn_Ratio ?kt_Ratio ?km_Ratio ?a_Ratio_set_lowest ?i_Ratio_set_lowest ?l_Ratio_set_lowest ?c_Ratio_set_lowest ?k_Ratio_set_lowest ?a_Ratio_plus ?i_Ratio_plus ?l_Ratio_plus ?c_Ratio_plus ?k_Ratio_plus ?a_Ratio_is_less ?i_Ratio_is_less ?l_Ratio_is_less ?c_Ratio_is_less ?k_Ratio_is_less ?a_Ratio___eq__ ?i_Ratio___eq__ ?l_Ratio___eq__ ?c_Ratio___eq__ ?k_Ratio___eq__ ?a_Ratio___init__ ?i_Ratio___init__ ?l_Ratio___init__ ?c_Ratio___init__ ?k_Ratio___init__ ?lT_Ratio ?mk_Ratio ?kc_Ratio ?a_common_part ?l_common_part ?c_common_part ?k_common_part ?a_is_figured ?l_is_figured ?c_is_figured ?k_is_figured ?a_made_of ?l_made_of ?c_made_of ?k_made_of ?a_total ?l_total ?c_total ?k_total ?a_greatest ?l_greatest ?kw_greatest_default ?c_greatest ?k_greatest ?a_law_low ?l_law_low ?c_law_low ?k_law_low ?a_law_plus ?l_law_plus ?c_law_plus ?k_law_plus ?a_law_less ?l_law_less ?c_law_less ?k_law_less ?a_law_is_ratio ?l_law_is_ratio ?c_law_is_ratio ?k_law_is_ratio ?a_law_take ?l_law_take ?c_law_take ?k_law_take ?a_law_purse ?l_law_purse ?c_law_purse ?k_law_purse ?a_law_small_ratio ?l_law_small_ratio ?c_law_small_ratio ?k_law_small_ratio ?a_law_right ?l_law_right ?c_law_right ?k_law_right ?a_law ?l_law ?c_law ?k_law ?z_isinstance ?z_bool ?z_int ?z_list ?z_tuple ?z_len ?z_max ?z_min ?z_range ?z_abs ?z_enumerate ?g_FARTHEST
    (case aC_Ratio => k_is); (case pg_Ratio => k_is); (case hd_Ratio => k_is); (case po_Ratio => k_is); (case sa_Ratio => k_is); (case na_Ratio_top => k_is); (case na_Ratio_bottom => k_is); (case ka_Ratio => k_is); (case kn_Ratio => k_is); (case kt_Ratio => k_is); (case km_Ratio => k_is); (case a_Ratio_set_lowest => k_is); (case i_Ratio_set_lowest => k_is); (case l_Ratio_set_lowest => k_is); (case c_Ratio_set_lowest => k_is); (case k_Ratio_set_lowest => k_is); (case a_Ratio_plus => k_is); (case i_Ratio_plus => k_is); (case l_Ratio_plus => k_is); (case c_Ratio_plus => k_is); (case k_Ratio_plus => k_is); (case a_Ratio_is_less => k_is); (case i_Ratio_is_less => k_is); (case l_Ratio_is_less => k_is); (case c_Ratio_is_less => k_is); (case k_Ratio_is_less => k_is); (case a_Ratio___eq__ => k_is); (case i_Ratio___eq__ => k_is); (case l_Ratio___eq__ => k_is); (case c_Ratio___eq__ => k_is); (case k_Ratio___eq__ => k_is); (case a_Ratio___init__ => k_is); (case i_Ratio___init__ => k_is); (case l_Ratio___init__ => k_is); (case c_Ratio___init__ => k_is); (case k_Ratio___init__ => k_is); (case lT_Ratio => k_is); (case mk_Ratio => k_is); (case kc_Ratio => k_is); (case a_common_part => k_is); (case l_common_part => k_is); (case c_common_part => k_is); (case k_common_part => k_is); (case a_is_figured => k_is); (case l_is_figured => k_is); (case c_is_figured => k_is); (case k_is_figured => k_is); (case a_made_of => k_is); (case l_made_of => k_is); (case c_made_of => k_is); (case k_made_of => k_is); (case a_total => k_is); (case l_total => k_is); (case c_total => k_is); (case k_total => k_is); (case a_greatest => k_is); (case l_greatest => k_is); (case kw_greatest_default => k_is); (case c_greatest => k_is); (case k_greatest => k_is); (case a_law_low => k_is); (case l_law_low => k_is); (case c_law_low => k_is); (case k_law_low => k_is); (case a_law_plus => k_is); (case l_law_plus => k_is); (case c_law_plus => k_is); (case k_law_plus => k_is); (case a_law_less => k_is); (case l_law_less => k_is); (case c_law_less => k_is); (case k_law_less => k_is); (case a_law_is_ratio => k_is); (case l_law_is_ratio => k_is); (case c_law_is_ratio => k_is); (case k_law_is_ratio => k_is); (case a_law_take => k_is); (case l_law_take => k_is); (case c_law_take => k_is); (case k_law_take => k_is); (case a_law_purse => k_is); (case l_law_purse => k_is); (case c_law_purse => k_is); (case k_law_purse => k_is); (case a_law_small_ratio => k_is); (case l_law_small_ratio => k_is); (case c_law_small_ratio => k_is); (case k_law_small_ratio => k_is); (case a_law_right => k_is); (case l_law_right => k_is); (case c_law_right => k_is); (case k_law_right => k_is); (case a_law => k_is); (case l_law => k_is); (case c_law => k_is); (case k_law => k_is); (case z_isinstance => k_is); (case z_bool => k_is); (case z_int => k_is); (case z_list => k_is); (case z_tuple => k_is); (case z_len => k_is); (case z_max => k_is); (case z_min => k_is); (case z_range => k_is); (case z_abs => k_is); (case z_enumerate => k_is); (case g_FARTHEST => k_is)

