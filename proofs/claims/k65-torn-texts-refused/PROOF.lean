import PyProof.Rows.All
import Wide.All
import OpenK.AllK
import Wide.FinOn
import KE.OsRunLaw
import HandS.EndTab
import HandS.HeadWalk
import HandS.ForMost
import HandS.Evl
import HandS.Wide
import HandS.IsInst
import HandS.Exc
import HandS.Defaults
import HandS.TryMany
import HandS.ExcOwn
import HandS.ExcIs
import HandS.HotCalls
import HandS.ExcField
import HandS.Lambda
import HandS.ExcInit
import HandS.WordsExc
import HandS.Deep
import KE.KExcIs
import KE.DataFind
import HandS.Small
import HandS.RaiseMore
import HandS.Steps
import PyProof.CollectIter
import PyProof.WalksMore
import HandS.More
import HandS.WideBits
import HandS.Replace
import HandS.Style
import HandS.SetKeys
import HandS.MakeKwOnly
import HandS.IntHex
import HandS.StrMore
import HandS.Rindex
import PyProof.Rows.StrNews2
import PyProof.StrLawsLast
import HandS.OwnEq
import HandS.FStr
import OpenK.KOps
import KE.KCallOwn
import HandS.CallLocal
import HandS.SuiteRaise
import HandS.RaiseFrom
import HandS.Hot
import PyProof.ExcBaseAll.RuntimeError
import PyProof.ExcBaseAll.LookupError
import PySem.Challenge.RW_blocksearch_k65_torn_texts_refused
set_option Elab.async false
set_option linter.all false
set_option maxRecDepth 100000
set_option maxHeartbeats 4000000
set_option autoImplicit false
section HeadRun
open PySem PySem.W PySem.Calls PyProof.Rows
set_option maxRecDepth 100000 in
set_option maxHeartbeats 0 in
open_top topK65 for PySem.Challenge.rw_blocksearch_k65_torn_texts_refused
end HeadRun

/-! The layer of this work: bundles of defs, readings as steps. -/
namespace Bw
open PySem PySem.Spec L2

/-! ### a def that lets nothing out, as its callers want it -/
structure Fn (P : Program) (w : World) (K : PySem.W.Frag) (mg : Str → Option Value) (base : Heap) (x : Str) (k : Nat) (ps : List Str) (sp : Sp) : Prop where
  ex : ∃ (f : Addr) (fd : FuncData), FnOk P w K mg base CX0 k f fd ps sp ∧ mg x = some (.ref f) ∧ PySem.W.keepIn K (.ref f) = true ∧ Binds K fd ps []
section
variable {X : Cx}
theorem pe_fn {x : Str} {k : Nat} {ps : List Str} {sp : Sp} {e : Expr} {es : List Expr} {t : TA} {p pos : Pos} (F : Fn X.prog X.w X.K X.mg X.base x k ps sp) (hr : Room k X.A) (hg : Gl X x) (ha : PA X (e :: es) t)
    (hdb : (x == ("__debug__" : Str)) = false := by decide) (he : starEach (e :: es) X.env = (false, eval e X.env) :: starEach es X.env := by rfl) (hpl : (backTo pos (starEach es X.env)).any (·.1) = false := by rfl) :
    PE X (.Call (.Name x p) (e :: es) [] pos) (tCall sp [] E0 t) := by
  obtain ⟨f, fd, G, hm, hk, hb⟩ := F.ex
  exact pe_call G hr hg hm hk hb .nil pass0 ha hdb he hpl
theorem pe_fn0 {x : Str} {k : Nat} {ps : List Str} {sp : Sp} {p pos : Pos} (F : Fn X.prog X.w X.K X.mg X.base x k ps sp) (hr : Room k X.A) (hg : Gl X x)
    (hdb : (x == ("__debug__" : Str)) = false := by decide) : PE X (.Call (.Name x p) [] [] pos) (tCall sp [] E0 tNil) := by
  obtain ⟨f, fd, G, hm, hk, hb⟩ := F.ex
  exact pe_call0 G hr hg hm hk hb .nil pass0 hdb
end
/-! ### methods and makers as their callers want them -/
structure Me (P : Program) (w : World) (K : PySem.W.Frag) (mg : Str → Option Value) (base : Heap) (C : Addr) (m : Str) (k : Nat) (ps : List Str) (sp : Sp) : Prop where
  ex : ∃ (f : Addr) (fd : FuncData), FnOk P w K mg base CX0 k f fd ps sp ∧ Meth K C m f ∧ Binds K fd ps []
structure Mkr (P : Program) (w : World) (K : PySem.W.Frag) (mg : Str → Option Value) (base : Heap) (x : Str) (C : Addr) (k : Nat) (ps : List Str) (dvs : List V) (sp : Sp) : Prop where
  ex : ∃ (f : Addr) (fd : FuncData) (ds : List Value), Mk K C f ∧ FnOk P w K mg base CX0 k f fd ps sp ∧ mg x = some (.ref C) ∧ Binds K fd ps ds ∧ Vals dvs ds
section
variable {X : Cx}
theorem pe_me {pl : Sem Bool} {C : Addr} {m : Str} {k : Nat} {ps : List Str} {sp : Sp} {o e : Expr} {es : List Expr} {t : TA} {ta : TE} {apos pos : Pos} (he : PE X o ta) (c : Cls X.K C) (M : Me X.prog X.w X.K X.mg X.base C m k ps sp) (hr : Room k X.A) (ha : PA X (e :: es) t)
    (hst : starEach (e :: es) X.env = (false, eval e X.env) :: starEach es X.env := by rfl) (hpl : (backTo pos (starEach es X.env)).any (·.1) = false := by rfl)
    (ht : eval (.Call (.Attribute o m apos) (e :: es) [] pos) X.env = (do
      let ov ← eval o X.env
      standAt apos.atName
      let (f, first) ← holding [ov] (getMethod ov m pl)
      callWith pos f first (backTo pos (starEach (e :: es) X.env)) (backToKw pos (keywordEach [] X.env))) := by rfl) :
    PE X (.Call (.Attribute o m apos) (e :: es) [] pos) (tMeth C m sp [] E0 ta t) := by
  obtain ⟨f, fd, G, hm, hb⟩ := M.ex
  exact pe_meth he c hm G hr hb .nil pass0 ha hst hpl ht
theorem pe_me0 {pl : Sem Bool} {C : Addr} {m : Str} {k : Nat} {ps : List Str} {sp : Sp} {o : Expr} {ta : TE} {apos pos : Pos} (he : PE X o ta) (c : Cls X.K C) (M : Me X.prog X.w X.K X.mg X.base C m k ps sp) (hr : Room k X.A)
    (ht : eval (.Call (.Attribute o m apos) [] [] pos) X.env = (do
      let ov ← eval o X.env
      standAt apos.atName
      let (f, first) ← holding [ov] (getMethod ov m pl)
      callWith pos f first (backTo pos (starEach [] X.env)) (backToKw pos (keywordEach [] X.env))) := by rfl) :
    PE X (.Call (.Attribute o m apos) [] [] pos) (tMeth C m sp [] E0 ta tNil) := by
  obtain ⟨f, fd, G, hm, hb⟩ := M.ex
  exact pe_meth0 he c hm G hr hb .nil pass0 ht
theorem pe_mkr {x : Str} {C : Addr} {k : Nat} {ps : List Str} {dvs : List V} {sp : Sp} {e : Expr} {es : List Expr} {t : TA} {p pos : Pos} (M : Mkr X.prog X.w X.K X.mg X.base x C k ps dvs sp) (hr : Room (k + 1) X.A) (hg : Gl X x) (ha : PA X (e :: es) t)
    (hdb : (x == ("__debug__" : Str)) = false := by decide) (he : starEach (e :: es) X.env = (false, eval e X.env) :: starEach es X.env := by rfl) (hpl : (backTo pos (starEach es X.env)).any (·.1) = false := by rfl) :
    PE X (.Call (.Name x p) (e :: es) [] pos) (tMake C sp dvs E0 t) := by
  obtain ⟨f, fd, ds, M, G, hm, hb, hd⟩ := M.ex
  exact pe_make M G hr hg hm hb hd pass0 ha hdb he hpl
theorem pe_gint {x : Str} {n : Int} {p : Pos} (h : ∃ t, X.mg x = some (.int n t)) (hg : Gl X x) (hd : (x == ("__debug__" : Str)) = false := by decide) : PE X (.Name x p) (tC (.int n)) := by
  obtain ⟨t, h⟩ := h
  exact pe_glob hg h ⟨t, rfl⟩ hd
theorem pe_gstr {x : Str} {z : Str} {p : Pos} (h : ∃ t, X.mg x = some (.str z t)) (hg : Gl X x) (hd : (x == ("__debug__" : Str)) = false := by decide) : PE X (.Name x p) (tC (.str z)) := by
  obtain ⟨t, h⟩ := h
  exact pe_glob hg h ⟨t, rfl⟩ hd
end
section
variable {X : Cx}
/-! ### an attribute as a target -/
def gFld (K : PySem.W.Frag) (to : TE) (f : Str) : TG := fun v σ H Q => to σ H fun x H1 => ∃ a C dx fs, x = .ref a ∧ H1 a = some (.ins C dx fs) ∧ Cls K C ∧ NoAttr K C f ∧ fs.length < 1000 ∧ Q σ (upd H1 a (.ins C dx (putF f v fs)))
theorem pg_fld {o : Expr} {f : Str} {pos : Pos} {to : TE} (ho : PE X o to) : PG X (.Attribute o f pos) (gFld X.K to f) := by
  refine ⟨fun pins s σ H v u Q I r h => ?_⟩
  rw [assign_Attribute]
  refine wpAny_bind (wpAny_holding (thn (ho.run pins s σ H _ I h) fun ov s1 ⟨x, H1, I1, r1, a, C, dx, fs, ex, ea, c, n, l, q1⟩ => ?_))
  subst ex
  obtain rfl : ov = Value.ref a := r1
  refine wpAny_bind (wpAny_standAt (wpAny_bind (wpAny_holding (setattr_ok I1 ea c n l r fun s3 I3 => ?_))))
  exact wpAny_release ⟨σ, _, I3, q1⟩

/-! ### ints of any size -/
def CDivU (_ j : Int) : Prop := j ≠ 0 ∧ j.natAbs.log2 < 9000
theorem op_fdivU : OpR X (binaryOp .FloorDiv) (rI CDivU fun i j => .int (i.fdiv j)) := opI fun i j _ _ _ _ _ hc q =>
  PyProof.Rows.floordiv_int hc.1 q (.inl (PyProof.noPylong_of_log2 hc.2))
def CMulU (i j : Int) : Prop := IntMulOk i j
theorem op_mulU : OpR X (binaryOp .Mult) (rI CMulU fun i j => .int (i * j)) := opI fun _ _ _ _ _ _ _ hc q => PyProof.Rows.mul_int q hc
def CPowU (i j : Int) : Prop := 0 ≤ j ∧ (Builtin.Int.intBits i : Int) * j ≤ 2 ^ 27
theorem op_powU : OpR X (binaryOp .Pow) (rI CPowU fun i j => .int (i ^ j.toNat)) := opI fun _ _ _ _ _ _ _ hc q => PyProof.Rows.pow_int hc.1 hc.2 q
end
theorem bits_le {x : Int} {a : Nat} (h : x.natAbs < 2 ^ a) (h0 : 0 < a) : Builtin.Int.intBits x ≤ a := by
  unfold Builtin.Int.intBits
  split
  · omega
  · exact PySem.Flt.log2_lt_of h0 h
theorem powU {i j : Int} {a : Nat} (h : i.natAbs < 2 ^ a) (h0 : 0 < a) (hj : 0 ≤ j) (hs : (a : Int) * j ≤ 2 ^ 27) : CPowU i j := by
  refine ⟨hj, Int.le_trans (Int.mul_le_mul_of_nonneg_right (Int.ofNat_le.mpr (bits_le h h0)) hj) hs⟩
theorem divU {i j : Int} {b : Nat} (h : j ≠ 0) (hb : j.natAbs < 2 ^ b) (h0 : 0 < b) (h9 : b ≤ 9000) : CDivU i j := ⟨h, Nat.lt_of_lt_of_le (PySem.Flt.log2_lt_of h0 hb) h9⟩

/-! ### named readings of calls -/
section
variable {X : Cx}
theorem callR_imp {f : Value} {r r' : List V → Hp → VK → Prop} (h : CallR X f r) (i : ∀ xs H Q, r' xs H Q → r xs H Q) : CallR X f r' :=
  fun pins s σ H xs us Q I rv q => h pins s σ H xs us Q I rv (i _ _ _ q)
theorem opR_imp {f : Value → Value → Sem Value} {r r' : R2} (h : OpR X f r) (i : ∀ x y H Q, r' x y H Q → r x y H Q) : OpR X f r' :=
  fun pins s σ H x y v u Q I rx ry q => h pins s σ H x y v u Q I rx ry (i _ _ _ _ q)
def rAbs : List V → Hp → VK → Prop := fun xs H Q => ∃ i : Int, xs = [.int i] ∧ Q (.int i.natAbs) H
theorem cl_abs : CallR X (.builtin "abs") rAbs := callR_imp call_abs fun xs H Q ⟨i, e, q⟩ => ⟨i, e, by
  have : (if i < 0 then -i else i) = (i.natAbs : Int) := by split <;> omega
  rw [this]; exact q⟩
def rMaxI : List V → Hp → VK → Prop := fun xs H Q => ∃ i j : Int, xs = [.int i, .int j] ∧ Q (.int (max i j)) H
def rMinI : List V → Hp → VK → Prop := fun xs H Q => ∃ i j : Int, xs = [.int i, .int j] ∧ Q (.int (min i j)) H
theorem cl_max (hc : X.calm = true) : CallR X (.builtin "max") rMaxI := callR_imp (call_max2 hc) fun xs H Q ⟨i, j, e, q⟩ => ⟨i, j, e, by
  have : (if j > i then j else i) = max i j := by split <;> omega
  rw [this]; exact q⟩
theorem cl_min (hc : X.calm = true) : CallR X (.builtin "min") rMinI := callR_imp (call_min2 hc) fun xs H Q ⟨i, j, e, q⟩ => ⟨i, j, e, by
  have : (if j < i then j else i) = min i j := by split <;> omega
  rw [this]; exact q⟩
def rIntOf : List V → Hp → VK → Prop := fun xs H Q => (∃ i, xs = [.int i] ∧ Q (.int i) H) ∨ ∃ k : Bool, xs = [.bl k] ∧ Q (.int (if k then 1 else 0)) H
theorem cl_int : CallR X (.type "int") rIntOf := call_int1
def rLen (K : PySem.W.Frag) : List V → Hp → VK → Prop := fun xs H Q => ∃ x n, xs = [x] ∧ LenV K x H n ∧ Q (.int n) H
theorem cl_len : CallR X (.builtin "len") (rLen X.K) := call_len
def rStrI : List V → Hp → VK → Prop := fun xs H Q => ∃ i : Int, xs = [.int i] ∧ i.natAbs.log2 < 1920 ∧ Q (.str (toString i)) H
theorem cl_str : CallR X (.type "str") rStrI := call_str_int
def rOrd : List V → Hp → VK → Prop := fun xs H Q => ∃ x, xs = [.str x] ∧ x.length = 1 ∧ Q (.int (x.cps.getD 0 0 : Nat)) H
theorem cl_ord : CallR X (.builtin "ord") rOrd := call_ord
def rAddS : R2 := fun x y H Q => ∃ i j, x = .str i ∧ y = .str j ∧ i.length + j.length ≤ sizeLine ∧ Q (.str (i ++ j)) H
theorem op_addS : OpR X (binaryOp .Add) rAddS := op_add_str
def rIs0 : R2 := fun x y H Q => y = .non ∧ Q (.bl (decide (x = .non))) H
def rIsNot0 : R2 := fun x y H Q => y = .non ∧ Q (.bl (!decide (x = .non))) H
theorem op_is0 : OpR X (compareOp .Is) rIs0 := op_isN
theorem op_isnot0 : OpR X (compareOp .IsNot) rIsNot0 := op_notN
end

/-! ### readings, step by step -/
section
variable {σ : St} {H H' : Hp} {i : Nat} {v x y z : V} {ta tb te tv tc : TE} {b : Bool} {K : PySem.W.Frag} {Q : VK} {QB : Bool → Hp → Prop} {D : Ends} {t u : TS} {tt tu : TT} {a : Addr} {r r' : R2}
theorem w_seq (h : t { D with nx := u D } σ H) : tSeq t u D σ H := h
theorem w_next (h : D.nx σ H) : tNext D σ H := h
theorem w_set (h : te σ H fun x H1 => D.nx (σ.set i (some x)) H1) : tAsg te (gName i) D σ H := h
theorem w_asg {g : TG} (h : te σ H fun x H1 => g x σ H1 D.nx) : tAsg te g D σ H := h
theorem w_par {j : Nat} {tA : TA} (h : tA σ H fun vs H1 => ∃ v w, vs = [v, w] ∧ D.nx ((σ.set i (some v)).set j (some w)) H1) : tPar i j tA D σ H := h
theorem w_ret (h : te σ H D.rt) : tRet te D σ H := h
theorem w_retN (h : D.rt .non H) : tRetN D σ H := h
theorem w_drop (h : te σ H fun _ H1 => D.nx σ H1) : tDrop te D σ H := h
theorem w_if (h : tt σ H fun b H1 => if b = true then t D σ H1 else u D σ H1) : tIfS tt t u D σ H := h
theorem w_ifE (h : tt σ H fun b H1 => if b = true then ta σ H1 Q else tb σ H1 Q) : tIf tt ta tb σ H Q := h
theorem w_var (h : σ[i]? = some (some v)) (q : Q v H) : tVar i σ H Q := ⟨v, h, q⟩
theorem w_c (q : Q v H) : tC v σ H Q := q
theorem w_op (h : ta σ H fun x H1 => tb σ H1 fun y H2 => r x y H2 Q) : tOp r ta tb σ H Q := h
theorem w_un {r : V → Hp → VK → Prop} (h : ta σ H fun x H1 => r x H1 Q) : tUn r ta σ H Q := h
theorem w_I0 {g : Int → Int → V} {m n : Int} (q : Q (g m n) H) : rI0 g (.int m) (.int n) H Q := ⟨m, n, rfl, rfl, q⟩
theorem w_I {C : Int → Int → Prop} {g : Int → Int → V} {m n : Int} (hc : C m n) (q : Q (g m n) H) : rI C g (.int m) (.int n) H Q := ⟨m, n, rfl, rfl, hc, q⟩
theorem w_U {g : Int → V} {m : Int} (q : Q (g m) H) : rU g (.int m) H Q := ⟨m, rfl, q⟩
theorem w_eq (h : scal x y = true) (q : Q (.bl (decide (x = y))) H) : rEq x y H Q := ⟨h, q⟩
theorem w_ne (h : scal x y = true) (q : Q (.bl (!decide (x = y))) H) : rNe x y H Q := ⟨h, q⟩
theorem w_is0 (q : Q (.bl (decide (x = .non))) H) : rIs0 x .non H Q := ⟨rfl, q⟩
theorem w_isnot0 (q : Q (.bl (!decide (x = .non))) H) : rIsNot0 x .non H Q := ⟨rfl, q⟩
theorem w_test (h : te σ H fun x H' => ∃ k, x = .bl k ∧ QB k H') : tTest te σ H QB := h
theorem w_tB (h : te σ H fun x H' => ∃ k, x = .bl k ∧ QB k H') : tB te σ H QB := h
theorem w_bl {R : Bool → Prop} (q : R b) : ∃ k, V.bl b = .bl k ∧ R k := ⟨b, rfl, q⟩
theorem w_and (h : tt σ H fun c H1 => if c = true then tu σ H1 QB else QB false H1) : tAnd tt tu σ H QB := h
theorem w_or (h : tt σ H fun c H1 => if c = true then QB true H1 else tu σ H1 QB) : tOr tt tu σ H QB := h
theorem w_not (h : tt σ H fun c H1 => QB (!c) H1) : tNot tt σ H QB := h
theorem w_andV (h : ta σ H fun x H1 => ∃ c, x = .bl c ∧ if c = true then tb σ H1 Q else Q (.bl false) H1) : tAndV ta tb σ H Q := h
theorem w_orV (h : ta σ H fun x H1 => ∃ c, x = .bl c ∧ if c = true then Q (.bl true) H1 else tb σ H1 Q) : tOrV ta tb σ H Q := h
theorem w_notV (h : ta σ H fun x H1 => ∃ c, x = .bl c ∧ Q (.bl (!c)) H1) : tNotV ta σ H Q := h
theorem w_chain (h : ta σ H fun x H1 => tb σ H1 fun y H2 => r x y H2 fun z H3 => ∃ k, z = .bl k ∧ (if k = true then tc σ H3 fun w' H4 => r' y w' H4 Q else Q (.bl false) H3)) : tChain r r' ta tb tc σ H Q := h
theorem w_cons {tr : TA} {QA : List V → Hp → Prop} (h : ta σ H fun x H1 => tr σ H1 fun xs H2 => QA (x :: xs) H2) : tCons ta tr σ H QA := h
theorem w_nil {QA : List V → Hp → Prop} (q : QA [] H) : tNil σ H QA := q
theorem w_call {sp : Sp} {tA : TA} {E : XK} (h : tA σ H fun vs H1 => sp (vs ++ []) H1 Q E) : tCall sp [] E tA σ H Q := h
theorem w_cb {r : List V → Hp → VK → Prop} {tA : TA} (h : tA σ H fun vs H1 => r vs H1 Q) : tCB r tA σ H Q := h

/-! ### new objects: the heap as a letter -/
theorem same_new {p : Addr} {o : HO} (h : H p = none) : Same H (upd H p o) := fun c w e => by
  rw [upd_ne (ne_of_none e h)]
  exact e
theorem w_tup {tA : TA} (h : tA σ H fun xs H1 => xs.length ≤ sizeLine ∧ ∀ p H2, H1 p = none → Same H1 H2 → H2 p = some (.tup xs) → Q (.ref p) H2) (mono : ∀ σ H (Q Q' : List V → Hp → Prop), (∀ xs H, Q xs H → Q' xs H) → tA σ H Q → tA σ H Q') : tTup tA σ H Q :=
  mono _ _ _ _ (fun xs H1 ⟨l, k⟩ => ⟨l, fun p hp => k p _ hp (same_new hp) upd_same⟩) h
theorem w_newT {xs : List V} {H1 : Hp} (hl : xs.length ≤ sizeLine) (k : ∀ p H2, H1 p = none → Same H1 H2 → H2 p = some (.tup xs) → Q (.ref p) H2) : xs.length ≤ sizeLine ∧ ∀ p, H1 p = none → Q (.ref p) (upd H1 p (.tup xs)) :=
  ⟨hl, fun p hp => k p _ hp (same_new hp) upd_same⟩
theorem w_newL {xs : List V} {H1 : Hp} (hl : xs.length ≤ sizeLine) (k : ∀ p H2, H1 p = none → Same H1 H2 → H2 p = some (.lst xs) → Q (.ref p) H2) : xs.length ≤ sizeLine ∧ ∀ p, H1 p = none → Q (.ref p) (upd H1 p (.lst xs)) :=
  ⟨hl, fun p hp => k p _ hp (same_new hp) upd_same⟩
theorem w_tupE {tA : TA} (h : tA σ H fun xs H1 => xs.length ≤ sizeLine ∧ ∀ p, H1 p = none → Q (.ref p) (upd H1 p (.tup xs))) : tTup tA σ H Q := h
theorem w_lstE {tA : TA} (h : tA σ H fun xs H1 => xs.length ≤ sizeLine ∧ ∀ p, H1 p = none → Q (.ref p) (upd H1 p (.lst xs))) : tLst tA σ H Q := h
/-! ### calls of built-ins, subscripts -/
theorem w_abs {m : Int} (q : Q (.int m.natAbs) H) : rAbs [.int m] H Q := ⟨m, rfl, q⟩
theorem w_max {m n : Int} (q : Q (.int (max m n)) H) : rMaxI [.int m, .int n] H Q := ⟨m, n, rfl, q⟩
theorem w_min {m n : Int} (q : Q (.int (min m n)) H) : rMinI [.int m, .int n] H Q := ⟨m, n, rfl, q⟩
theorem w_intI {m : Int} (q : Q (.int m) H) : rIntOf [.int m] H Q := .inl ⟨m, rfl, q⟩
theorem w_intB {k : Bool} (q : Q (.int (if k then 1 else 0)) H) : rIntOf [.bl k] H Q := .inr ⟨k, rfl, q⟩
theorem w_lenL {p : Addr} {xs : List V} (h : SqL K H p xs) (q : Q (.int xs.length) H) : rLen K [.ref p] H Q := ⟨_, _, rfl, .inl ⟨xs, h, rfl⟩, q⟩
theorem w_lenT {p : Addr} {xs : List V} (h : SqT K H p xs) (q : Q (.int xs.length) H) : rLen K [.ref p] H Q := ⟨_, _, rfl, .inr ⟨xs, h, rfl⟩, q⟩
theorem w_lenS {w : Str} (h : w.length ≤ sizeLine) (q : Q (.int w.length) H) : rLen K [.str w] H Q := ⟨_, _, rfl, ⟨h, rfl⟩, q⟩
theorem w_ixL {p : Addr} {xs : List V} {m : Int} (h : SqL K H p xs) (ha : atI xs m = some v) (q : Q v H) : rIxL K (.ref p) (.int m) H Q := ⟨p, xs, m, v, rfl, rfl, h, ha, q⟩
theorem w_ixT {p : Addr} {xs : List V} {m : Int} (h : SqT K H p xs) (ha : atI xs m = some v) (q : Q v H) : rIxT K (.ref p) (.int m) H Q := ⟨p, xs, m, v, rfl, rfl, h, ha, q⟩
theorem w_ixS {w : Str} {m : Int} {c : Nat} (h : w.length ≤ sizeLine) (ha : atI w.cps.toList m = some c) (q : Q (.str ⟨#[c]⟩) H) : rIxS (.str w) (.int m) H Q := ⟨w, m, c, rfl, rfl, h, ha, q⟩
theorem w_isi {c : V} {tv cv : Value} {k : Bool} (hc : ClsV c cv) (ht : TyX K H x tv) (hk : PySem.W.kitOne K tv cv = some k) (q : Q (.bl k) H) : rIsi K [x, c] H Q := ⟨x, c, tv, cv, k, rfl, hc, ht, hk, q⟩
theorem w_gname {Q2 : L2.St → Hp → Prop} (q : Q2 (σ.set i (some v)) H) : gName i v σ H Q2 := q
theorem w_gsub {to ti : TE} {ts : TSet} {Q2 : L2.St → Hp → Prop} (h : to σ H fun o H1 => ti σ H1 fun i H2 => ts o i v H2 fun H3 => Q2 σ H3) : gSub to ti ts v σ H Q2 := h
theorem w_fld {C dx : Addr} {fs : List (Str × V)} {f : Str} {R : V → Prop} (ho : H a = some (.ins C dx fs)) (hc : Cls K C) (hn : NoAttr K C f) (hl : fs.lookup f = some v) (q : R v) : ∃ a' C dx fs v, V.ref a = .ref a' ∧ H a' = some (.ins C dx fs) ∧ Cls K C ∧ NoAttr K C f ∧ fs.lookup f = some v ∧ R v := ⟨a, C, dx, fs, v, rfl, ho, hc, hn, hl, q⟩
theorem w_fldE {f : Str} (h : ta σ H fun x H1 => ∃ a C dx fs v, x = .ref a ∧ H1 a = some (.ins C dx fs) ∧ Cls K C ∧ NoAttr K C f ∧ fs.lookup f = some v ∧ Q v H1) : tFld K ta f σ H Q := h
end

section
variable {σ : L2.St} {H H' : Hp} {i : Nat} {v x y z : V} {ta tb te tv tc : TE} {b : Bool} {K : PySem.W.Frag} {Q : VK} {QB : Bool → Hp → Prop} {D : Ends} {a C dx : Addr} {fs : List (Str × V)} {f m : Str}
theorem w_two {R : V → V → Prop} (q : R x y) : ∃ v w, [x, y] = [v, w] ∧ R v w := ⟨x, y, rfl, q⟩
theorem w_methE {sp : Sp} {dvs : List V} {E : XK} {t : TA} (h : ta σ H fun x H1 => ∃ a dx fs, x = .ref a ∧ H1 a = some (.ins C dx fs) ∧ fs.lookup m = none ∧ t σ H1 fun vs H2 => sp (x :: (vs ++ dvs)) H2 Q E) : tMeth C m sp dvs E ta t σ H Q := h
theorem w_meth {R : Prop} (ho : H a = some (.ins C dx fs)) (hl : fs.lookup m = none) (q : R) : ∃ a' dx fs, V.ref a = .ref a' ∧ H a' = some (.ins C dx fs) ∧ fs.lookup m = none ∧ R := ⟨a, dx, fs, rfl, ho, hl, q⟩
theorem w_makeE {sp : Sp} {dvs : List V} {E : XK} {t : TA} (h : t σ H fun vs H1 => ∀ x dx, H1 x = none → H1 dx = none → dx ≠ x →
  sp (.ref x :: (vs ++ dvs)) (upd (upd H1 dx (.own x)) x (.ins C dx [])) (fun v H2 => v = .non ∧ Q (.ref x) H2) E) : tMake C sp dvs E t σ H Q := h
theorem w_make {sp : Sp} {vs : List V} {E : XK} {H1 : Hp} (k : ∀ r dr H2, H1 r = none → H1 dr = none → Same H1 H2 → H2 r = some (.ins C dr []) → sp (.ref r :: vs) H2 (fun v H3 => v = .non ∧ Q (.ref r) H3) E) :
    ∀ x dx, H1 x = none → H1 dx = none → dx ≠ x → sp (.ref x :: vs) (upd (upd H1 dx (.own x)) x (.ins C dx [])) (fun v H2 => v = .non ∧ Q (.ref x) H2) E := by
  intro r dr nr nd ne
  refine k r dr _ nr nd (fun c o e => ?_) upd_same
  rw [upd_ne (ne_of_none e nr), upd_ne (ne_of_none e nd)]
  exact e
theorem w_isiB {tx tn : String} {k : Bool} (ht : TyX K H x (.type tx)) (hk : kitB tx tn = some k) (q : Q (.bl k) H) : rIsi K [x, .ty tn] H Q := ⟨x, .ty tn, _, _, k, rfl, .ty tn, ht, kit_ty hk, q⟩
theorem w_sfld {D : Ends} (h : tv σ H fun y H1 => ta σ H1 fun x H2 => ∃ a C dx fs, x = .ref a ∧ H2 a = some (.ins C dx fs) ∧ Cls K C ∧ NoAttr K C f ∧ fs.length < 1000 ∧ D.nx σ (upd H2 a (.ins C dx (putF f y fs)))) : sFld K ta tv f D σ H := h
theorem w_gfldE {to : TE} {Q2 : L2.St → Hp → Prop} (h : to σ H fun x H1 => ∃ a C dx fs, x = .ref a ∧ H1 a = some (.ins C dx fs) ∧ Cls K C ∧ NoAttr K C f ∧ fs.length < 1000 ∧ Q2 σ (upd H1 a (.ins C dx (putF f v fs)))) : gFld K to f v σ H Q2 := h
/-- a store to an attribute: the heap as a letter -/
def KB (p : Addr) (H H' : Hp) : Prop := ∀ c o, H c = some o → c ≠ p → H' c = some o
theorem KB.refl {p : Addr} : KB p H H := fun _ _ h _ => h
theorem KB.trans {p : Addr} {H1 H2 : Hp} (e : KB p H H1) (e' : KB p H1 H2) : KB p H H2 := fun c o h n => e' c o (e c o h n) n
theorem KB.of {p : Addr} (e : Same H H') : KB p H H' := fun c o h _ => e c o h
theorem KB.same {p : Addr} {H0 : Hp} (e : KB p H H') (e0 : Same H0 H) (n : H0 p = none) : Same H0 H' := fun c o h => e c o (e0 c o h) (ne_of_none h n)
theorem kb_upd {p : Addr} {o : HO} : KB p H (upd H p o) := fun c u h n => by rw [upd_ne n]; exact h
theorem w_st {R : Addr → Addr → Addr → List (Str × V) → Prop} (ho : H a = some (.ins C dx fs)) (hc : Cls K C) (hn : NoAttr K C f) (hl : fs.length < 1000) (q : R a C dx fs) :
    ∃ a' C dx fs, V.ref a = .ref a' ∧ H a' = some (.ins C dx fs) ∧ Cls K C ∧ NoAttr K C f ∧ fs.length < 1000 ∧ R a' C dx fs := ⟨a, C, dx, fs, rfl, ho, hc, hn, hl, q⟩
theorem w_setL {p : Addr} {xs : List V} {m : Int} {j : Nat} {QH : Hp → Prop} (h : H p = some (.lst xs)) (hj : ixN xs.length m = some j) (k : ∀ H2, KB p H H2 → H2 p = some (.lst (xs.set j v)) → QH H2) : rSetL (.ref p) (.int m) v H QH := ⟨p, xs, m, j, rfl, rfl, h, hj, k _ kb_upd upd_same⟩
theorem w_gtup {n : Nat} {t : TGs} {xs : List V} {Q2 : L2.St → Hp → Prop} (h : SqT K H a xs) (hn : xs.length = n) (q : t xs σ H Q2) : gTup K n t (.ref a) σ H Q2 := ⟨a, xs, rfl, h, hn, q⟩
theorem w_gcons {g : TG} {t : TGs} {r : List V} {Q2 : L2.St → Hp → Prop} (q : g v σ H fun σ' H' => t r σ' H' Q2) : gCons g t (v :: r) σ H Q2 := ⟨v, r, rfl, q⟩
theorem w_gnil {Q2 : L2.St → Hp → Prop} (q : Q2 σ H) : gNil [] σ H Q2 := ⟨rfl, q⟩
theorem lk_hit {r : List (Str × V)} : List.lookup f ((f, x) :: r) = some x := by simp [List.lookup]
theorem lk_miss {g : Str} {r : List (Str × V)} {o : Option V} (h : (f == g) = false) (e : List.lookup f r = o) : List.lookup f ((g, x) :: r) = o := by simp only [List.lookup, h]; exact e
theorem pf_hit {r : List (Str × V)} : putF f v ((f, x) :: r) = (f, v) :: r := by simp [putF]
theorem pf_miss {g : Str} {r : List (Str × V)} (h : (g == f) = false) : putF f v ((g, x) :: r) = (g, x) :: putF f v r := by
  have : ¬ g = f := beq_eq_false_iff_ne.mp h
  simp [putF, this]
theorem pf_nil : putF f v [] = [(f, v)] := rfl
/-- kept at another place -/
theorem kb_at {p q : Addr} {o : HO} (e : KB p H H') (h : H q = some o) (n : q ≠ p) : H' q = some o := e q o h n
end

/-- while, by a word that falls -/
theorem w_while {σ : L2.St} {H : Hp} {D : Ends} {c : TT} {tb : TS} (W : Nat → L2.St → Hp → Prop) (m0 : Nat) (h0 : W m0 σ H)
    (hs : ∀ m σ H, W m σ H → c σ H fun b H1 => if b = true then tb { D with nx := fun σ' H' => ∃ m', m' < m ∧ W m' σ' H', ct := fun σ' H' => ∃ m', m' < m ∧ W m' σ' H', bk := D.nx } σ H1 else D.nx σ H1)
    (mono : ∀ σ H (Q Q' : Bool → Hp → Prop), (∀ b H, Q b H → Q' b H) → c σ H Q → c σ H Q' ) : tWhile c tb D σ H :=
  ⟨W, ⟨m0, h0⟩, fun m σ H w => mono _ _ _ _ (fun b H1 q => by
    cases b with
    | true =>
      rw [if_pos rfl] at q ⊢
      exact ⟨_, fun _ _ h => h, q⟩
    | false =>
      rw [if_neg Bool.false_ne_true] at q ⊢
      exact q) (hs m σ H w)⟩
theorem w_loopT {D : Ends} {W : Nat → L2.St → Hp → Prop} {m : Nat} {tb : TS} {σ : L2.St} {H : Hp} (h : tb { D with nx := fun σ' H' => ∃ m', m' < m ∧ W m' σ' H', ct := fun σ' H' => ∃ m', m' < m ∧ W m' σ' H', bk := D.nx } σ H) :
    ∃ N : L2.St → Hp → Prop, (∀ σ' H', N σ' H' → ∃ m', m' < m ∧ W m' σ' H') ∧ tb { D with nx := N, ct := N, bk := D.nx } σ H := ⟨_, fun _ _ h => h, h⟩

theorem same_gen {H H2 : Hp} {p : Addr} {o : HO} (n : H p = none) (e : upd H p o = H2) : Same H H2 := e ▸ same_new n
theorem at_gen {H H2 : Hp} {p : Addr} {o : HO} (e : upd H p o = H2) : H2 p = some o := e ▸ upd_same
theorem kb_gen {H H2 : Hp} {p : Addr} {o : HO} (e : upd H p o = H2) : KB p H H2 := e ▸ kb_upd
theorem same_make {H H2 : Hp} {x dx : Addr} {o u : HO} (nx : H x = none) (nd : H dx = none) (e : upd (upd H dx u) x o = H2) : Same H H2 := fun c w h => by
  rw [← e, upd_ne (ne_of_none h nx), upd_ne (ne_of_none h nd)]
  exact h
theorem makeG {H1 : Hp} {R : Addr → Addr → Prop} (k : ∀ x dx, H1 x = none → H1 dx = none → dx ≠ x → R x dx) : ∀ x dx, H1 x = none → H1 dx = none → dx ≠ x → R x dx := k
theorem newL {n : Nat} {R : Addr → Prop} {H : Hp} (hl : n ≤ sizeLine) (k : ∀ p, H p = none → R p) : n ≤ sizeLine ∧ ∀ p, H p = none → R p := ⟨hl, k⟩
theorem kit_int_int : kitB "int" "int" = some true := by decide +kernel
theorem kit_int_bool : kitB "int" "bool" = some false := by decide +kernel
theorem kit_int_str : kitB "int" "str" = some false := by decide +kernel
theorem kit_int_list : kitB "int" "list" = some false := by decide +kernel
theorem kit_int_tuple : kitB "int" "tuple" = some false := by decide +kernel
theorem kit_int_dict : kitB "int" "dict" = some false := by decide +kernel
theorem kit_bool_int : kitB "bool" "int" = some true := by decide +kernel
theorem kit_bool_bool : kitB "bool" "bool" = some true := by decide +kernel
theorem kit_bool_str : kitB "bool" "str" = some false := by decide +kernel
theorem kit_bool_list : kitB "bool" "list" = some false := by decide +kernel
theorem kit_bool_tuple : kitB "bool" "tuple" = some false := by decide +kernel
theorem kit_bool_dict : kitB "bool" "dict" = some false := by decide +kernel
theorem kit_str_int : kitB "str" "int" = some false := by decide +kernel
theorem kit_str_bool : kitB "str" "bool" = some false := by decide +kernel
theorem kit_str_str : kitB "str" "str" = some true := by decide +kernel
theorem kit_str_list : kitB "str" "list" = some false := by decide +kernel
theorem kit_str_tuple : kitB "str" "tuple" = some false := by decide +kernel
theorem kit_str_dict : kitB "str" "dict" = some false := by decide +kernel
theorem kit_list_int : kitB "list" "int" = some false := by decide +kernel
theorem kit_list_bool : kitB "list" "bool" = some false := by decide +kernel
theorem kit_list_str : kitB "list" "str" = some false := by decide +kernel
theorem kit_list_list : kitB "list" "list" = some true := by decide +kernel
theorem kit_list_tuple : kitB "list" "tuple" = some false := by decide +kernel
theorem kit_list_dict : kitB "list" "dict" = some false := by decide +kernel
theorem kit_tuple_int : kitB "tuple" "int" = some false := by decide +kernel
theorem kit_tuple_bool : kitB "tuple" "bool" = some false := by decide +kernel
theorem kit_tuple_str : kitB "tuple" "str" = some false := by decide +kernel
theorem kit_tuple_list : kitB "tuple" "list" = some false := by decide +kernel
theorem kit_tuple_tuple : kitB "tuple" "tuple" = some true := by decide +kernel
theorem kit_tuple_dict : kitB "tuple" "dict" = some false := by decide +kernel
theorem kit_NoneType_int : kitB "NoneType" "int" = some false := by decide +kernel
theorem kit_NoneType_bool : kitB "NoneType" "bool" = some false := by decide +kernel
theorem kit_NoneType_str : kitB "NoneType" "str" = some false := by decide +kernel
theorem kit_NoneType_list : kitB "NoneType" "list" = some false := by decide +kernel
theorem kit_NoneType_tuple : kitB "NoneType" "tuple" = some false := by decide +kernel
theorem kit_NoneType_dict : kitB "NoneType" "dict" = some false := by decide +kernel
theorem kit_dict_int : kitB "dict" "int" = some false := by decide +kernel
theorem kit_dict_bool : kitB "dict" "bool" = some false := by decide +kernel
theorem kit_dict_str : kitB "dict" "str" = some false := by decide +kernel
theorem kit_dict_list : kitB "dict" "list" = some false := by decide +kernel
theorem kit_dict_tuple : kitB "dict" "tuple" = some false := by decide +kernel
theorem kit_dict_dict : kitB "dict" "dict" = some true := by decide +kernel

section
variable {σ : L2.St} {H : Hp} {K : PySem.W.Frag} {D : Ends} {a : Addr}
theorem w_forE {wi : TI} {g : TG} {tb : TS} (h : wi σ H fun J H1 => ∃ W : Nat → Nat → L2.St → Hp → Prop, (∃ m, W 0 m σ H1) ∧ ∀ i m σ H, W i m σ H →
  (J.stop i H ∧ D.nx σ H) ∨ (J.go i H ∧ ∃ N : L2.St → Hp → Prop, (∀ σ' H', N σ' H' → ∃ m', m' < m ∧ W (i + 1) m' σ' H') ∧ ∀ x H', J.yld i H x H' → g x σ H' fun σ2 H2 => tb { D with nx := N, ct := N, bk := D.nx } σ2 H2)) : tFor wi g tb D σ H := h
theorem w_iTup {tl : TE} {R : It → Hp → Prop} (h : tl σ H fun x H1 => ∃ a, x = .ref a ∧ (∃ xs, SqT K H1 a xs) ∧ R (Itt K a) H1) : iTup K tl σ H R := h
theorem w_iList {tl : TE} {R : It → Hp → Prop} (h : tl σ H fun x H1 => ∃ a, x = .ref a ∧ (∃ xs, SqL K H1 a xs) ∧ R (Itl K a) H1) : iList K tl σ H R := h
theorem w_iRng1 {ta : TA} {R : It → Hp → Prop} (h : ta σ H fun vs H1 => ∃ j : Int, vs = [.int j] ∧ -(2 ^ 62) ≤ j ∧ j < 2 ^ 62 ∧ R (Itr 0 j.toNat) H1) : iRng1 ta σ H R := h
theorem w_iRng2 {ta : TA} {R : It → Hp → Prop} (h : ta σ H fun vs H1 => ∃ i j : Int, vs = [.int i, .int j] ∧ (-(2 ^ 62) ≤ i ∧ i < 2 ^ 62 ∧ -(2 ^ 62) ≤ j ∧ j < 2 ^ 62) ∧ R (Itr i (j - i).toNat) H1) : iRng2 ta σ H R := h
theorem w_itT {R : Addr → Prop} {xs : List V} (h : SqT K H a xs) (q : R a) : ∃ a', V.ref a = .ref a' ∧ (∃ xs, SqT K H a' xs) ∧ R a' := ⟨a, rfl, ⟨xs, h⟩, q⟩
theorem w_itL {R : Addr → Prop} {xs : List V} (h : SqL K H a xs) (q : R a) : ∃ a', V.ref a = .ref a' ∧ (∃ xs, SqL K H a' xs) ∧ R a' := ⟨a, rfl, ⟨xs, h⟩, q⟩
/-- == of data -/
theorem w_eqD {x y : V} {Q : VK} {d e : PyData} {k : Bool} (hx : Dp K H x d) (hy : Dp K H y e) (sd : SeqAt.shaped d = true) (se : SeqAt.shaped e = true) (hk : PyData.eqv d e = k) (q : Q (.bl k) H) : rEqD K x y H Q := ⟨d, e, hx, hy, sd, se, hk ▸ q⟩
theorem w_neD {x y : V} {Q : VK} {d e : PyData} {k : Bool} (hx : Dp K H x d) (hy : Dp K H y e) (sd : SeqAt.shaped d = true) (se : SeqAt.shaped e = true) (hk : PyData.eqv d e = k) (q : Q (.bl (!k)) H) : rNeD K x y H Q := ⟨d, e, hx, hy, sd, se, hk ▸ q⟩
theorem dp_t2 {p : Addr} {m n : Int} (h : SqT K H p [.int m, .int n]) : Dp K H (.ref p) (.tuple [.int m, .int n]) := .tup h (.cons (.int m) (.cons (.int n) .nil))
end
theorem mulW {i j : Int} {a b : Nat} (ha : i.natAbs < 2 ^ a) (hb : j.natAbs < 2 ^ b) (h0 : 0 < a) (h1 : 0 < b) (h : a + b ≤ 1000000) : CMulU i j := (wide_mul ha hb h0 h1 h).ok
theorem mulL {i j : Int} (h : i.natAbs < 2 ^ 64) : CMulU i j := CMul.ok (.inl ⟨by omega, by omega⟩)
theorem mulR {i j : Int} (h : j.natAbs < 2 ^ 64) : CMulU i j := CMul.ok (.inr ⟨by omega, by omega⟩)
theorem w_pow10_5 {H : Hp} {Q : VK} (q : Q (.int 100000) H) : rI CPowU (fun i j => .int (i ^ j.toNat)) (.int 10) (.int 5) H Q := ⟨10, 5, rfl, rfl, powU (a := 4) (by decide) (by decide) (by decide) (by decide), q⟩
theorem w_pow10_8 {H : Hp} {Q : VK} (q : Q (.int 100000000) H) : rI CPowU (fun i j => .int (i ^ j.toNat)) (.int 10) (.int 8) H Q := ⟨10, 8, rfl, rfl, powU (a := 4) (by decide) (by decide) (by decide) (by decide), q⟩
theorem w_pow10_9 {H : Hp} {Q : VK} (q : Q (.int 1000000000) H) : rI CPowU (fun i j => .int (i ^ j.toNat)) (.int 10) (.int 9) H Q := ⟨10, 9, rfl, rfl, powU (a := 4) (by decide) (by decide) (by decide) (by decide), q⟩
theorem w_pow10_10 {H : Hp} {Q : VK} (q : Q (.int 10000000000) H) : rI CPowU (fun i j => .int (i ^ j.toNat)) (.int 10) (.int 10) H Q := ⟨10, 10, rfl, rfl, powU (a := 4) (by decide) (by decide) (by decide) (by decide), q⟩
theorem w_pow10_11 {H : Hp} {Q : VK} (q : Q (.int 100000000000) H) : rI CPowU (fun i j => .int (i ^ j.toNat)) (.int 10) (.int 11) H Q := ⟨10, 11, rfl, rfl, powU (a := 4) (by decide) (by decide) (by decide) (by decide), q⟩
theorem w_pow10_12 {H : Hp} {Q : VK} (q : Q (.int 1000000000000) H) : rI CPowU (fun i j => .int (i ^ j.toNat)) (.int 10) (.int 12) H Q := ⟨10, 12, rfl, rfl, powU (a := 4) (by decide) (by decide) (by decide) (by decide), q⟩
theorem w_pow10_18 {H : Hp} {Q : VK} (q : Q (.int 1000000000000000000) H) : rI CPowU (fun i j => .int (i ^ j.toNat)) (.int 10) (.int 18) H Q := ⟨10, 18, rfl, rfl, powU (a := 4) (by decide) (by decide) (by decide) (by decide), q⟩
/-! ### small facts -/
theorem sz {n : Nat} (h : n ≤ 100000) : n ≤ sizeLine := Nat.le_trans h (by decide)
theorem w_iteP {c : Bool} {A B : Prop} (h1 : c = true → A) (h2 : c = false → B) : if c = true then A else B := by
  cases c with
  | true => exact iteT (h1 rfl)
  | false => exact iteF (h2 rfl)
theorem w_dec {c A B : Prop} {dc : Decidable c} (h1 : c → A) (h2 : ¬ c → B) : if decide c = true then A else B := by
  by_cases h : c
  · rw [if_pos (decide_eq_true h)]
    exact h1 h
  · rw [if_neg (fun e => h (of_decide_eq_true e))]
    exact h2 h
theorem same_at {H H' : Hp} {a : Addr} {o : HO} (e : Same H H') (h : H a = some o) : H' a = some o := e a o h
theorem same_t {K : PySem.W.Frag} {H H' : Hp} {a : Addr} {xs : List V} (e : Same H H') (h : SqT K H a xs) : SqT K H' a xs := by
  rcases h with (h | ⟨o, h⟩) | h
  · exact .inl (.inl (e _ _ h))
  · exact .inl (.inr ⟨o, e _ _ h⟩)
  · exact .inr h
section
variable {K : PySem.W.Frag} {H : Hp}
theorem tyx_int {i : Int} : TyX K H (.int i) (.type "int") := .base (.int _)
theorem tyx_bl {b : Bool} : TyX K H (.bl b) (.type "bool") := .base (.bl _)
theorem tyx_str {x : Str} : TyX K H (.str x) (.type "str") := .base (.str _)
theorem tyx_non : TyX K H .non (.type "NoneType") := .base .non
theorem tyx_lst {a : Addr} {xs : List V} (h : H a = some (.lst xs)) : TyX K H (.ref a) (.type "list") := .base (.lst h)
theorem tyx_tup {a : Addr} {xs : List V} (h : H a = some (.tup xs)) : TyX K H (.ref a) (.type "tuple") := .base (.tup h)
end
end Bw

/-! Except clauses: tuples of classes of any length. -/
namespace PySem.W
open PySem PySem.Spec PySem.Calls
section
variable {M : Model} {K : Frag}
theorem forIn_stay {β : Type} {A : Around} {E : Value → Shared → Prop} {s : Shared} {b : β} {f : Value → β → Sem (ForInStep β)} {Q : β → Shared → Prop} : ∀ {cs : List Value}, (∀ c ∈ cs, ∀ (Q : ForInStep β → Shared → Prop), Q (.yield b) s → wpAny M A (f c b) Q E s) → Q b s → wpAny M A (forIn cs b f) Q E s
  | [], _, q => by
    rw [List.forIn_nil]
    exact wpAny_pure q
  | c :: r, hf, q => by
    rw [List.forIn_cons]
    refine wpAny_bind (hf c List.mem_cons_self _ ?_)
    exact forIn_stay (fun c hc => hf c (List.mem_cons_of_mem _ hc)) q
theorem exmAny_mem {cls : Value} : ∀ {cs : List Value} {b : Bool}, exmAny K cls cs = some b → ∀ c ∈ cs, ∃ b1, exmOne K cls c = some b1
  | c :: r, b, h, x, hx => by
    obtain ⟨b1, d1, h1, h2, _⟩ := exmAny_cons h
    rcases List.mem_cons.mp hx with rfl | hx
    · exact ⟨_, h1⟩
    · exact exmAny_mem h2 x hx
theorem exm_tupN {cs : List Value} {cls : Value} {tp e : Addr} {b : Bool} {h : Heap} {n : Nat} {dd : Option Addr} {sl : Array (Option Value)} (X : K.In h) (LT : Looks M h (typeOf (.ref e)) cls) (hp : h.get? tp = some { cls := .type "tuple", dict := dd, data := .seq cs.toArray n, slots := sl }) (hx : exmAny K cls cs = some b) :
    Looks M h (excMatches (.ref e) (.ref tp)) b := by
  intro A Q E s k₀ q
  obtain ⟨hh, g, d, tk, os⟩ := s
  have k : ∀ b o, h.get? b = some o → hh.get? b = some o := k₀
  have LT0 : Looks M h (isInstance (.ref tp) (.type "tuple")) true := ((Looks.ld hp).andThen .now).andThen (Looks.of_pure isSubtype_tuple_tuple)
  have LT := LT.keeps k
  have LT0 := LT0.keeps k
  have hp' := k _ _ hp
  have hk := X.keeps k
  unfold excMatches
  refine wpAny_bind (LT0.at ?_)
  dsimp only
  rw [if_pos rfl]
  first
    | refine wpAny_bind (wpAny_seqItems hp' rfl ?_)
    | refine wpAny_bind (wpAny_bind (wpAny_seqItems hp' rfl (wpAny_pure ?_)))
  dsimp only [Option.getD_some, Option.getD]
  refine wpAny_bind (wpAny_pure ?_)
  refine wpAny_bind (forIn_stay (fun c hc Q q => ?_) ?_)
  · obtain ⟨b1, h1⟩ := exmAny_mem hx c hc
    refine wpAny_bind ((exm_cls (M := M) hk h1).1.here ?_)
    exact wpAny_pure q
  · refine wpAny_bind (LT.here ?_)
    have loop : ∀ (cs : List Value) (b : Bool), exmAny K cls cs = some b → ∀ (Q : Option Bool × Unit → Shared → Prop), Q (if b then some true else none, ()) { heap := hh, gens := g, drawn := d, toks := tk, os := os } →
        wpAny M A (forIn cs ((none : Option Bool), ()) fun c __s => do
            let __do_lift ← isSubtype cls c
            if __do_lift = true then pure (ForInStep.done (some true, ())) else pure (ForInStep.yield (none, ()))) Q E { heap := hh, gens := g, drawn := d, toks := tk, os := os } := by
      intro cs
      induction cs with
      | nil =>
        intro b hb Q q
        have w2 : some false = some b := hb
        cases w2
        rw [List.forIn_nil]
        exact wpAny_pure q
      | cons c r ih =>
        intro b hb Q q
        obtain ⟨b1, d1, h1, h2, rfl⟩ := exmAny_cons hb
        rw [List.forIn_cons]
        refine wpAny_bind (wpAny_bind ((exm_cls (M := M) hk h1).2.here ?_))
        cases b1 with
        | true =>
          rw [if_pos rfl]
          exact wpAny_pure (wpAny_pure q)
        | false =>
          rw [if_neg Bool.false_ne_true]
          exact wpAny_pure (ih d1 h2 Q q)
    refine wpAny_bind (loop cs b hx _ ?_)
    cases b with
    | true => exact wpAny_pure q
    | false => exact wpAny_pure q
end
end PySem.W

namespace Bw
open PySem PySem.Spec L2
/-! ### try with several clauses, classes or tuples of classes, each with a name -/
/-- a clause's class expression, read where the exception is handled -/
def wMas (K : PySem.W.Frag) (Wout : WX) (D : Ends) : List (List Value × Nat × (Addr → Value → Option Addr → TS)) → WX
  | [] => Wout
  | (cs, i, ts) :: r => fun cls d σ H => ∃ b, PySem.W.exmAny K cls cs = some b ∧ (b = true → ∀ a, H a = none → ts a cls d { nx := fun σ' H' => D.nx (σ'.set i none) H', rt := D.rt, bk := fun σ' H' => D.bk (σ'.set i none) H', ct := fun σ' H' => D.ct (σ'.set i none) H' } (σ.set i (some (.ref a))) H) ∧
      (b = false → wMas K Wout D r cls d σ H)
/-- names of classes -/
inductive NamesL (X : Cx) : List Expr → List Value → Prop
  | nil : NamesL X [] []
  | cons {x : Str} {c : Value} {p : Pos} {es : List Expr} {cs : List Value} (h : Names X x c) (r : NamesL X es cs) : NamesL X (.Name x p :: es) (c :: cs)
inductive ClsE (X : Cx) : Expr → List Value → Prop
  | one {x : Str} {c : Value} {p : Pos} (h : Names X x c) : ClsE X (.Name x p) [c]
  | tup {es : List Expr} {cs : List Value} {k : Nat} {p : Pos} (h : NamesL X es cs) : ClsE X (.Tuple es k p) cs
inductive HdsA (X : Cx) : List ExceptHandler → List (List Value × Nat × (Addr → Value → Option Addr → TS)) → Prop
  | nil : HdsA X [] []
  | cons {te : Expr} {cs : List Value} {n : Str} {i : Nat} {ts : Addr → Value → Option Addr → TS} {b₀ : Stmt} {suite : List Stmt} {pos' : Pos} {hds : List ExceptHandler} {l : List (List Value × Nat × (Addr → Value → Option Addr → TS))} (hc : ClsE X te cs)
      (hi : X.N[i]? = some n) (hln : X.env.kindOf n = some .local)
      (hsu : ∀ (a : Addr) (oe : Obj) (cls : Value) (d : Option Addr) (pn : List (Addr × Obj)), Zc cls d oe → (∃ vs, oe.data = .fields vs) → PSs (X.suite a ((a, oe) :: pn)) (b₀ :: suite) (ts a cls d)) (r : HdsA X hds l) :
      HdsA X (.ExceptHandler (some te) (some n) (b₀ :: suite) pos' :: hds) ((cs, i, ts) :: l)
theorem flying_kept {B h h' : Heap} {l : List Env} {e : Addr} {Z : Obj → Prop} (f : HandSPX.FlyingZ B l e Z h) (k : ∀ b o, h.get? b = some o → h'.get? b = some o) : HandSPX.FlyingZ B l e Z h' := by
  obtain ⟨f1, f2, f3, oe, vs, T, oT, ts, a1, a2, a3, a4, a5, a6, a7, a8, a9⟩ := f
  exact ⟨fun b o q => k b o (f1 b o q), f2, f3.of_keeps fun b o q _ => ⟨o, k b o q, rfl⟩, oe, vs, T, oT, ts, k _ _ a1, a2, a3, a4, a5, a6, k _ _ a7, a8, a9⟩
section
variable {X : Cx} {body : List Stmt} {h₀ : ExceptHandler} {hds : List ExceptHandler} {l : List (List Value × Nat × (Addr → Value → Option Addr → TS))} {pos : Pos} {tb : WX → TS} {Wout : WX}
theorem eval_names {Y : Cx} {pins : List (Addr × Obj)} {σ : L2.St} {H : Hp} {s : Shared} {E : Value → Shared → Prop} (I : Inv Y pins σ H s) (pos : Pos) : ∀ {es : List Expr} {cs : List Value}, NamesL Y es cs → ∀ {Q : List Value → Shared → Prop}, Q cs s → wpAny (model Y.prog Y.w) Y.A (spliced (backTo pos (starEach es Y.env))) Q E s
  | _, _, .nil, Q, q => Calls.spliced_nil q
  | _, _, @NamesL.cons _ x c p es cs h r, Q, q => by
    show wpAny _ _ (spliced ((false, eval (.Name x p) Y.env) :: backTo pos (starEach es Y.env))) _ _ s
    refine Calls.spliced_cons ?_
    have go : wpAny (model Y.prog Y.w) Y.A (spliced (backTo pos (starEach es Y.env))) (fun vs s₂ => Q (c :: vs) s₂) E s := eval_names I pos r q
    obtain ⟨hg, hdbg, hm | ⟨hm, hv, hnn⟩⟩ := h
    · exact ld_glob I hg hm go hdbg
    · exact ld_blt I hg hm hv go hnn hdbg
theorem NamesL.suite {a : Addr} {pn : List (Addr × Obj)} : ∀ {es : List Expr} {cs : List Value}, NamesL X es cs → NamesL (X.suite a pn) es cs
  | _, _, .nil => .nil
  | _, _, .cons h r => .cons h (NamesL.suite r)
theorem NamesL.length : ∀ {es : List Expr} {cs : List Value}, NamesL X es cs → cs.length = es.length
  | _, _, .nil => rfl
  | _, _, .cons _ r => congrArg Nat.succ (NamesL.length r)
theorem ps_try_mas (hs : X.stack = X.env :: X.outer) (hf : X.env.frame = some X.env.locals) (hN : X.N.Nodup) (tk : Takes X Wout) (hsz : ∀ x ∈ l, x.1.length ≤ 1000)
    (hb : ∀ (W : WX) (pn : List (Addr × Obj)) (xe : Value → Shared → Prop), Takes (X.tr pn xe) W → PassesOwn (model X.prog X.w) X.A X.env xe → PSs (X.tr pn xe) body (tb W))
    (hh : HdsA X (h₀ :: hds) l) : PS X (.Try body (h₀ :: hds) [] [] pos) (fun D σ H => tb (wMas X.K Wout D l) D σ H) := by
  refine ⟨fun pins s σ H D I h => ?_⟩
  have ok := I.ok
  have hfr : X.A.frames = some (X.env :: X.outer) := by rw [ok.frames, hs]
  refine wpAny_Try_except ?_
  refine wpAny_mono ((hb (wMas X.K Wout D l) (X.pn ++ pins) (fun e s₁ => wpAny (model X.prog X.w) X.A (noteFrame e X.env) (fun _ s₂ => wpAny (model X.prog X.w) X.A (setFlight e none) (fun _ s₃ =>
    wpAny (model X.prog X.w) X.A (handleBy e X.env (h₀ :: hds)) (SP X pins D) X.xe s₃) X.xe s₂) X.xe s₁) (fun u s' xx => ?_) PassesOwn.looking).run [] s σ H D (I.toTry _) h) (fun f s1 hsp => ?_) (fun e s1 he => he)
  · -- the catch
    obtain ⟨a, B, sI, pins', σ', H', cls, d, rfl, J', nb, up, sky, na, os, ag, w⟩ := xx
    have J : Inv X pins σ' H' sI := J'.ofTry ok
    have sky' : Sky B (X.env :: X.outer) a (Zc cls d) X.env.locals s'.heap := by rw [← hs]; exact sky
    show wpAny (model X.prog X.w) X.A (noteFrame (.ref a) X.env) _ _ _
    refine Sky.land Zc.steady hfr hf sky' fun h3 fl3 up3 => ?_
    have notFr : ∀ {h : Heap} {o : Obj} {vs : Array Value}, h.FunFrames B (X.env :: X.outer) → h.get? a = some o → o.data = .fields vs → a ∉ frs (X.env :: X.outer) := fun {h o vs} ff e dd hm => by
      obtain ⟨_, o', e', hnf⟩ := ff.mem hm
      rw [e] at e'; cases e'
      exact hnf _ dd
    have nfr : a ∉ frs (X.env :: X.outer) := by
      obtain ⟨oe3, vs3, he3, hz3, hd3⟩ := fl3.there
      exact notFr fl3.2.2.1 he3 hd3
    have nL : a ≠ X.env.locals := fun z => nfr (List.mem_filterMap.mpr ⟨X.env, List.mem_cons_self, by rw [hf, z]⟩)
    have nF : a ∉ X.fs := fun hm => by
      obtain ⟨e, he, q⟩ := List.mem_filterMap.mp hm
      exact nfr (List.mem_filterMap.mpr ⟨e, List.mem_cons_of_mem _ he, q⟩)
    have go : ∀ {hds' : List ExceptHandler} {l' : List (List Value × Nat × (Addr → Value → Option Addr → TS))}, HdsA X hds' l' → (∀ x ∈ l', x.1.length ≤ 1000) → wMas X.K Wout D l' cls d σ' H' → ∀ h3, HandSPX.FlyingZ B (X.env :: X.outer) a (Zc cls d) h3 → sI.heap.UpToSlots h3 →
        wpAny (model X.prog X.w) X.A (handleBy (.ref a) X.env hds') (SP X pins D) X.xe { s' with heap := h3 } := by
      intro hds' l' hk
      induction hk with
      | nil =>
        intro _ w h3 fl3 up3
        refine wpAny_handleBy_nil ?_
        obtain ⟨k1, k2, k3, oe, vs, T, oT, ts', he, hz, hd, h1, hr⟩ := id fl3
        unfold PySem.passOn
        refine wpAny_bind (wpAny_field he hd h1 ?_)
        rw [if_neg (show ¬ ((Value.ref T == Value.none) = true) from by simp)]
        have fin : wpAny (model X.prog X.w) X.A (setFlight (.ref a) X.env.frame) (fun _ s4 => wpAny (model X.prog X.w) X.A (throw (.ref a) : Sem Flow) (SP X pins D) X.xe s4) X.xe { s' with heap := h3 } := by
          rw [hf]
          refine HandSPX.setFlight_upZ fl3 fun h4 hh4 up4 => wpAny_throw (tk _ _ ?_)
          exact ⟨a, B, sI, pins, σ', H', cls, d, rfl, J, nb, up3.trans up4, .inr (.inr (by rw [hs]; exact hh4)), na, os, ag, w⟩
        first
          | exact wpAny_bind (wpAny_pure (wpAny_bind fin))
          | exact wpAny_bind fin
      | @cons te cs n i ts b₀ suite pos' hds2 l2 hc hi hln hsu r ih =>
        intro hz0 w h3 fl3 up3
        obtain ⟨b, hb1, hyes, hno⟩ := w
        have J3 : Inv X pins σ' H' { s' with heap := h3 } := J.landed nb fl3.1 up3 os ag
        obtain ⟨oe3, vs3, he3, hz3, hd3⟩ := fl3.there
        have S3 := J3.suite he3 hd3 na nL nF
        refine wpAny_handleBy_cons (codeAny_handlers_test ?_) (by intro q; cases q)
        -- the classes, then the match, in a heap that is kept
        have test : ∀ {R : Bool → Shared → Prop} {E : Value → Shared → Prop}, (∀ h4, (∀ b o, h3.get? b = some o → h4.get? b = some o) → R b { s' with heap := h4 }) →
            wpAny (model X.prog X.w) (X.A.mark (some (.ref a))) (eval te X.env) (fun c s₁ => wpAny (model X.prog X.w) (X.A.mark (some (.ref a))) (excMatches (.ref a) c) R E s₁) E { s' with heap := h3 } := fun {R E} q => by
          cases hc with
          | one hn =>
            rename_i x c np
            have LT : PySem.W.Looks (model X.prog X.w) h3 (typeOf (.ref a)) cls := fun A Q E s k q => wpAny_typeOf_ref (k _ _ he3) (by rw [hz3.1]; exact q)
            obtain ⟨b1, d1, h1, h2, eb⟩ := PySem.W.exmAny_cons hb1
            have w2 : some false = some d1 := h2
            cases w2
            rw [Bool.or_false] at eb
            subst eb
            have LM := PySem.W.exm_one (M := model X.prog X.w) (J3.kIn) LT h1
            obtain ⟨hg, hdbg, hm | ⟨hm, hv, hnn⟩⟩ := hn
            · exact ld_glob (X := X.suite a ((a, oe3) :: (X.pn ++ pins))) S3 hg hm (LM.here (q h3 fun _ _ z => z)) hdbg
            · exact ld_blt (X := X.suite a ((a, oe3) :: (X.pn ++ pins))) S3 hg hm hv (LM.here (q h3 fun _ _ z => z)) hnn hdbg
          | tup hn =>
            rename_i es kk np
            refine wpAny_Tuple_spliced (eval_names (Y := X.suite a ((a, oe3) :: (X.pn ++ pins))) S3 _ hn.suite ⟨?_, ?_⟩)
            · exact Nat.le_trans (hz0 _ List.mem_cons_self) (by decide)
            · have kp : ∀ b o, h3.get? b = some o → (h3.push { cls := .type "tuple", data := .seq cs.toArray }).get? b = some o := fun b o e => Heap.get?_push_of_some _ e
              have LT : PySem.W.Looks (model X.prog X.w) (h3.push { cls := .type "tuple", data := .seq cs.toArray }) (typeOf (.ref a)) cls := fun A Q E s k q => wpAny_typeOf_ref (k _ _ (kp _ _ he3)) (by rw [hz3.1]; exact q)
              have LM := PySem.W.exm_tupN (M := model X.prog X.w) (J3.kIn.keeps kp) LT (Heap.get?_push_size _ rfl) hb1
              exact LM.here (q _ kp)
        refine test fun h4 kp => ?_
        have fl4 := flying_kept fl3 kp
        have up4 : sI.heap.UpToSlots h4 := up3.trans (.of_keeps kp)
        cases b with
        | true =>
          refine codeAny_handlers_suite_as ?_
          refine HandSPX.lands_againZ fl4 fun h5 fl5 up5 => ?_
          have J5 : Inv X pins σ' H' { s' with heap := h5 } := J.landed nb fl5.1 (up4.trans up5) os ag
          obtain ⟨oe5, vs5, he5, hz5, hd5⟩ := fl5.there
          have S5 := J5.suite he5 hd5 na nL nF
          refine store_ok (X := X.suite a ((a, oe5) :: (X.pn ++ pins))) (v := .ref a) S5 hN hi (.inl hln) rfl (fun s6 S6 => ?_) (.inr hln)
          refine wpAny_mono ((hsu a oe5 cls d (X.pn ++ pins) hz5 ⟨_, hd5⟩).run [] s6 _ H' _ S6 (hyes rfl a na)) (fun f s6 hsp => ?_) (fun _ _ z => False.elim z)
          have end_ : ∀ {σ6 : L2.St} {H6 : Hp} {Q : Shared → Prop}, Inv (X.suite a ((a, oe5) :: (X.pn ++ pins))) [] σ6 H6 s6 → (∀ s7, Inv X pins (σ6.set i none) H6 s7 → Q s7) →
              wpAny (model X.prog X.w) X.A (do bindName X.env n .none; unbindBehindTheSuite X.env n pos') (fun _ s7 => Q s7) X.xe s6 := fun {σ6 H6 Q} S6 hq => gone_ok (S6.unsuite ok) hN hi hln hq
          cases f with
          | next =>
            obtain ⟨σ6, H6, S6, q6⟩ := hsp
            exact end_ S6 fun s7 J7 => ⟨_, _, J7, q6⟩
          | brk =>
            obtain ⟨σ6, H6, S6, q6⟩ := hsp
            exact end_ S6 fun s7 J7 => ⟨_, _, J7, q6⟩
          | cont =>
            obtain ⟨σ6, H6, S6, q6⟩ := hsp
            exact end_ S6 fun s7 J7 => ⟨_, _, J7, q6⟩
          | ret u =>
            obtain ⟨v6, σ6, H6, S6, r6, q6⟩ := hsp
            exact end_ S6 fun s7 J7 => ⟨_, _, _, J7, r6, q6⟩
        | false =>
          show wpAny _ X.A (handleBy (.ref a) X.env hds2) _ _ _
          exact ih (fun x hx => hz0 x (List.mem_cons_of_mem _ hx)) (hno rfl) h4 fl4 up4
    exact go hh hsz w h3 fl3 (up.trans up3)
  · cases f with
    | next =>
      obtain ⟨σ', H', J', q⟩ := hsp
      exact wpAny_execs_nil ⟨σ', H', J'.ofTry ok, q⟩
    | brk =>
      obtain ⟨σ', H', J', q⟩ := hsp
      exact ⟨σ', H', J'.ofTry ok, q⟩
    | cont =>
      obtain ⟨σ', H', J', q⟩ := hsp
      exact ⟨σ', H', J'.ofTry ok, q⟩
    | ret u =>
      obtain ⟨v, σ', H', J', r, q⟩ := hsp
      exact ⟨v, σ', H', J'.ofTry ok, r, q⟩
end
end Bw

namespace Bw
open PySem PySem.Spec PyProof.Rows L2
/-! ### raise of own classes -/
section
variable {X : Cx}
/-- X(), X an own exception class without own __init__ -/
theorem pmk_own0 {C : Addr} {bmB : List Value} {B newId initId : String} {x : Str} {p pos : Pos} (F : ExcBaseFacts B newId initId bmB) (q : PySem.W.excIn X.K C bmB newId = true) (gC : X.mg x = some (.ref C))
    (kC : PySem.W.keepIn X.K (.ref C) = true) (r : Raises X (.ref C)) (hg : Gl X x) (hdb : (x == ("__debug__" : Str)) = false := by decide) : PMk X (.Call (.Name x p) [] [] pos) (fun _ H Q => Q (.ref C) none H) := by
  intro pins s σ H Q I h
  refine wpAny_Call_Name_kw (ld_glob I hg gC ?_ hdb)
  refine PySem.W.callWith_K0 I.kIn kC ?_
  show wpAny _ _ (call (.ref C) []) _ _ _
  obtain ⟨bm, N, nm, qn, bs, hdct, sn, sub, ab, col, dd, k0, k1, k2, k3, k5, mN, hC, hN, hni, T⟩ := exc_obj I.kIn q
  refine wpAny_call_exc_subT F T hC hN hni (fun h' e hm => ?_) (by show 0 ≤ sizeLine; exact Nat.zero_le _)
  exact mk_of I hm r h (I.hok.gone hm.new)
/-- D.__init__(self, ..), D an own class above which stands ValueError -/
theorem pe_wrinit {pl : Sem Bool} {D : Addr} {x : Str} {e : Expr} {es : List Expr} {ta : TA} {p1 p2 pos : Pos} (hg : Gl X x) (hm : X.mg x = some (.ref D)) (hga : PySem.W.specialIn X.K (.ref D) "__getattribute__" = some (some (.builtin "type.__getattribute__")))
    (hrd : PySem.W.readsIn X.K D (.type "type") = true) (vV : PySem.W.findCls X.K (.ref D) (.type "type") "__init__" = some (.val (.builtin "ValueError.__init__"))) (ha : PA X (e :: es) ta)
    (hdb : (x == ("__debug__" : Str)) = false := by decide)
    (hc : eval (.Call (.Attribute (.Name x p1) "__init__" p2) (e :: es) [] pos) X.env = (do
      let ov ← eval (.Name x p1) X.env
      standAt p2.atName
      let (f, first) ← holding [ov] (getMethod ov "__init__" pl)
      callWith pos f first (backTo pos (starEach (e :: es) X.env)) (backToKw pos (keywordEach [] X.env))) := by rfl)
    (he : starEach (e :: es) X.env = (false, eval e X.env) :: starEach es X.env := by rfl) (hpl : (backTo pos (starEach es X.env)).any (·.1) = false := by rfl) :
    PE X (.Call (.Attribute (.Name x p1) "__init__" p2) (e :: es) [] pos) (tVeI X.K ta) := by
  refine ⟨fun pins s σ H Q I h => ?_⟩
  refine PySem.W.methodCall_KW (ld_glob I hg hm ?_ hdb) hc
  refine PySem.W.method_cls I.kIn hga (PySem.W.cls_value I.kIn hrd vV rfl ?_)
  show wpAny _ _ (callWith pos (Value.builtin "ValueError.__init__") [] (backTo pos (starEach (e :: es) X.env)) []) _ _ _
  refine PyProof.Rows.callWith_method1 (thn (ha.run pos pins _ σ H _ (I.tok _) h) fun us s1 ⟨vs, H1, I1, r1, a, C, ws, ev, hl, T, ea, q⟩ => ?_) he hpl
  subst ev
  cases r1 with
  | @cons _ u0 _ ur ra rw' =>
    obtain rfl : u0 = Value.ref a := ra
    have hlen : ur.length ≤ sizeLine := by
      rw [← Paired.length rw', sizeLine_eq]
      omega
    exact oinit_ok T I1 ea hlen fun s' J => ⟨.non, H1, J, rfl, q⟩
/-- C(), C's own __init__ -/
theorem pmk_oex0 {CX : CXT} {x : Str} {C fI : Addr} {k : Nat} {fd : FuncData} {ps : List Str} {sp : Sp} {ds : List Value} {dvs : List V} {p pos : Pos} (T : OexC X.K C) (iC : PySem.W.findIn X.K (.ref C) "__init__" = some (some (.ref fI))) (tI : PySem.W.typeIn X.K (.ref fI) = some (.type "function"))
    (F1 : FnOk X.prog X.w X.K X.mg X.base CX k fI fd ps sp) (hr : Room (k + 1) X.A) (hb : Binds X.K fd ps ds) (hd : Vals dvs ds) (hx : Passes CX X (fun _ _ _ => False)) (hg : Gl X x) (hm : X.mg x = some (.ref C))
    (hdb : (x == ("__debug__" : Str)) = false := by decide) :
    PMk X (.Call (.Name x p) [] [] pos) (tMkO C sp dvs tNil) := by
  intro pins s σ H Q I h
  obtain ⟨nm, q, N, bs, bm, sn, sub, ab, col, dd, k0, k1, k2, k3, k5, hC, hbm⟩ := T.cls
  refine wpAny_Call_Name_kw (ld_glob I hg hm ?_ hdb)
  obtain ⟨hz, q1⟩ := h
  refine PySem.W.callWith_K0 I.kIn T.kC ?_
  show wpAny _ _ (call (.ref C) []) _ _ _
  obtain ⟨hp, g, dr, tk, os⟩ := s
  have hsz : hp.objs.size ≤ hp.objs.size + 1 := Nat.le_succ _
  have hn : H (hp.objs.size + 1) = none := I.hok.fresh hsz
  have hq := q1 (hp.objs.size + 1) hn
  have kk : ∀ b o, hp.get? b = some o → ((hp.push (PySem.W.kdv_tup [])).push (PySem.HandSPX.excO C hp.objs.size)).get? b = some o := fun b o e => Heap.get?_push_of_some _ (Heap.get?_push_of_some _ e)
  have hget : ((hp.push (PySem.W.kdv_tup [])).push (PySem.HandSPX.excO C hp.objs.size)).get? (hp.objs.size + 1) = some (PySem.HandSPX.excO C hp.objs.size) := by heap_get
  have I2 : Inv X pins σ (upd H (hp.objs.size + 1) (exo (hp.objs.size + 1) C none)) ⟨(hp.push (PySem.W.kdv_tup [])).push (PySem.HandSPX.excO C hp.objs.size), g, dr, tk, os⟩ :=
    I.laid (t' := tk) (a := hp.objs.size + 1) (o := exo (hp.objs.size + 1) C none) (h' := (hp.push (PySem.W.kdv_tup [])).push (PySem.HandSPX.excO C hp.objs.size)) kk hsz (exo_ok hget)
  have r2 : Vals (V.ref (hp.objs.size + 1) :: ([] ++ dvs)) (Value.ref (hp.objs.size + 1) :: ([] ++ ds)) := .cons rfl (Vals.append .nil hd)
  have hl : (Value.ref (hp.objs.size + 1) :: [] ++ ds).length = ps.length := by
    have e := r2.length
    rw [F1.len _ _ _ _ hq] at e
    exact e.symm
  refine wpAny_call (PySem.HandSPX.call_own F.excBase_ValueError (fun Y => PySem.HandSPX.refsVE_contains Y bm hbm) (I.kIn _ _ hC) (PySem.W.looks_findIn I.kIn iC) (fun self => PySem.W.bind_fn I.kIn self tI) (Nat.zero_le _)
    (codeAny_mono (F1.run _ X.stack _ _ ⟨Value.ref (hp.objs.size + 1) :: [], []⟩ (Value.ref (hp.objs.size + 1) :: ([] ++ ds)) _ _ (fun _ _ _ => False) (hr.make C [] []) (I2.env0.make C [] []) (show BindsTo _ _ _ (ps.zip (Value.ref (hp.objs.size + 1) :: ([] ++ ds))) from hb _ (Value.ref (hp.objs.size + 1) :: []) I2.kIn hl) r2 hq) fun r s' hq' => ?_))
  cases r with
  | error er => exact hx pins σ _ _ er s' I2 hq'
  | ok fl =>
    cases fl with
    | ret u =>
      obtain ⟨v, H2, os2, bare2, un2, hok2, rv, ev, d, fs, ea, ed, hd1, q2⟩ := hq'
      subst ev
      obtain ⟨h2, g2, d2, t2, os'⟩ := s'
      exact ⟨rv, mk_end (raises_own T.exC T.tyC) I hsz kk un2 hok2 os2 bare2 ea ed hd1 q2⟩
    | next => exact False.elim hq'
    | brk => exact False.elim hq'
    | cont => exact False.elim hq'
end
/-! ### own exceptions with one field -/
/-- what such an __init__(self, v) does -/
def spXi (K : PySem.W.Frag) (f : Str) : Sp := fun vs H Q _ => ∃ (a C : Addr) (v : V), vs = [.ref a, v] ∧ OexC K C ∧ PySem.W.findIn K (.ref C) f = some none ∧ H a = some (exo a C none) ∧ ∀ dx, H dx = none → dx ≠ a → Q .non (upd (upd H dx (exd dx [(f, v)])) a (exo a C (some dx)))
/-- an own exception class x, its __init__ puts one field f; dvs: what is told by default -/
structure Xcl (P : Program) (w : World) (K : PySem.W.Frag) (mg : Str → Option Value) (base : Heap) (x : Str) (C : Addr) (k : Nat) (f : Str) (dvs : List V) : Prop where
  T : OexC K C
  no : PySem.W.findIn K (.ref C) f = some none
  hm : mg x = some (.ref C)
  ex : ∃ (fI : Addr) (fd : FuncData) (ds : List Value) (ps : List Str), PySem.W.findIn K (.ref C) "__init__" = some (some (.ref fI)) ∧ PySem.W.typeIn K (.ref fI) = some (.type "function") ∧ FnOk P w K mg base CX0 k fI fd ps (spXi K f) ∧ Binds K fd ps ds ∧ Vals dvs ds
def tXmk (C : Addr) (f : Str) (dvs : List V) (ta : TA) : L2.St → Hp → XK → Prop := fun σ H Q => ta σ H fun vs H1 => ∃ v, vs ++ dvs = [v] ∧ ∀ d H2, H1 d = none → Same H1 H2 → H2 d = some (.xd [(f, v)]) → Q (.ref C) (some d) H2
theorem xi_end {K : PySem.W.Frag} {H1 : Hp} {C : Addr} {f : Str} {v : V} {Q : XK} (T : OexC K C) (no : PySem.W.findIn K (.ref C) f = some none) (h : ∀ d H2, H1 d = none → Same H1 H2 → H2 d = some (.xd [(f, v)]) → Q (.ref C) (some d) H2) (a : Addr) (na : H1 a = none) :
    spXi K f [.ref a, v] (upd H1 a (exo a C none)) (fun v H2 => v = .non ∧ ∃ (d : Addr) (fs : List (Str × V)), H2 a = some (exo a C (some d)) ∧ H2 d = some (exd d fs) ∧ H1 d = none ∧ Q (.ref C) (some d) (upd (del H2 a) d (.xd fs))) (fun _ _ _ => False) := by
  refine ⟨a, C, v, rfl, T, no, upd_same, fun dx n ne => ⟨rfl, dx, [(f, v)], upd_same, by rw [upd_ne ne, upd_same], by rw [upd_ne ne] at n; exact n, ?_⟩⟩
  rw [upd_ne ne] at n
  refine h dx _ n (fun c o e => ?_) upd_same
  have c1 := ne_of_none e n
  have c2 := ne_of_none e na
  rw [upd_ne c1, del_ne c2, upd_ne c2, upd_ne c1, upd_ne c2]
  exact e
section
variable {X : Cx}
theorem pmk_x {x f : Str} {C : Addr} {k : Nat} {dvs : List V} {e : Expr} {es : List Expr} {ta : TA} {p pos : Pos} (Z : Xcl X.prog X.w X.K X.mg X.base x C k f dvs) (hr : Room (k + 1) X.A) (hg : Gl X x) (ha : PA X (e :: es) ta) (mono : ∀ σ H (Q Q' : List V → Hp → Prop), (∀ vs H, Q vs H → Q' vs H) → ta σ H Q → ta σ H Q')
    (hdb : (x == ("__debug__" : Str)) = false := by decide) (he : starEach (e :: es) X.env = (false, eval e X.env) :: starEach es X.env := by rfl) (hpl : (backTo pos (starEach es X.env)).any (·.1) = false := by rfl) :
    PMk X (.Call (.Name x p) (e :: es) [] pos) (tXmk C f dvs ta) := by
  obtain ⟨fI, fd, ds, ps, iC, tI, F, hb, hd⟩ := Z.ex
  have M := pmk_oex (p := p) (pos := pos) Z.T iC tI F hr hb hd pass0 hg Z.hm ha hdb he hpl
  intro pins s σ H Q I h
  refine M pins s σ H Q I (mono _ _ _ _ (fun vs H1 ⟨v, ev, q⟩ => ⟨?_, fun a na => ?_⟩) h)
  · have := congrArg List.length ev
    simp only [List.length_append, List.length_cons, List.length_nil] at this
    omega
  · rw [ev]
    exact xi_end Z.T Z.no q a na
theorem pmk_x0 {x f : Str} {C : Addr} {k : Nat} {dvs : List V} {p pos : Pos} (Z : Xcl X.prog X.w X.K X.mg X.base x C k f dvs) (hr : Room (k + 1) X.A) (hg : Gl X x) (hdb : (x == ("__debug__" : Str)) = false := by decide) :
    PMk X (.Call (.Name x p) [] [] pos) (tXmk C f dvs tNil) := by
  obtain ⟨fI, fd, ds, ps, iC, tI, F, hb, hd⟩ := Z.ex
  have M := pmk_oex0 (p := p) (pos := pos) Z.T iC tI F hr hb hd pass0 hg Z.hm hdb
  intro pins s σ H Q I h
  obtain ⟨v, ev, q⟩ := h
  refine M pins s σ H Q I ⟨Nat.zero_le _, fun a na => ?_⟩
  rw [ev]
  exact xi_end Z.T Z.no q a na
/-- such an __init__ -/
theorem ok_xinit {P : Program} {w : World} {K : PySem.W.Frag} {mg : Str → Option Value} {base : Heap} {fI D : Addr} {fd : FuncData} {k : Nat} {qual x f par m : Str} {pa : Arguments} {sc : Scope} {dfl : List V} {kws : List (Str × V)} {j : Nat} {p1 p2 p3 p4 p5 p6 p7 p8 p9 p10 : Pos}
    (F : FunD K "__init__" qual pa [.Expr (.Call (.Attribute (.Name x p1) "__init__" p2) [.Name "self" p3, .Constant (.str m) j p4] [] p5) p6, .Assign [.Attribute (.Name "self" p7) f p8] (.Name par p9) p10] sc dfl kws fI fd) (S : FnScope ["self", par] ["self", par] sc)
    (hm : mg x = some (.ref D)) (hga : PySem.W.specialIn K (.ref D) "__getattribute__" = some (some (.builtin "type.__getattribute__"))) (hrd : PySem.W.readsIn K D (.type "type") = true) (vV : PySem.W.findCls K (.ref D) (.type "type") "__init__" = some (.val (.builtin "ValueError.__init__")))
    (hgl : sc.names.lookup x = some .globalImplicit) (v0 : Vis sc "self") (v1 : Vis sc par)
    (hc : ∀ (L g : Addr) (cd : Value), ∃ pl : Sem Bool, eval (.Call (.Attribute (.Name x p1) "__init__" p2) [.Name "self" p3, .Constant (.str m) j p4] [] p5) (envOfC qual sc L g cd) = (do
      let ov ← eval (.Name x p1) (envOfC qual sc L g cd)
      standAt p2.atName
      let (f, first) ← holding [ov] (getMethod ov "__init__" pl)
      callWith p5 f first (backTo p5 (starEach [.Name "self" p3, .Constant (.str m) j p4] (envOfC qual sc L g cd))) (backToKw p5 (keywordEach [] (envOfC qual sc L g cd)))))
    (hs : ∀ (L g : Addr) (cd : Value), swapsWith (.Name par p9) (some (.Attribute (.Name "self" p7) f p8)) p10.line (envOfC qual sc L g cd) = pure false)
    (hdb : (x == ("__debug__" : Str)) = false) (hd1 : (par == ("__debug__" : Str)) = false) (hcd1 : (par == ("__classdict__" : Str)) = false) : FnOk P w K mg base CX0 (k + 1) fI fd ["self", par] (spXi K f) := by
  refine F.ok S (fun vs H Q E ⟨a, C, v, e, _⟩ => by rw [e]; rfl) (fun cdv A outer s H vs Q E hr h => ?_)
  obtain ⟨pl, hc⟩ := hc s.heap.objs.size fI cdv
  refine ⟨_, pss_cons (ps_expr (pe_wrinit (D := D) (pl := pl) hgl hm hga hrd vV (pa_cons (pe_var (i := 0) rfl v0 (by decide) (by decide)) (pa_cons pe_str pa_nil)) hdb hc)) (pss_one (ps_ost (pe_var (i := 0) rfl v0 (by decide) (by decide)) (pe_var (i := 1) rfl v1 hd1 hcd1) (hs _ _ _))), ?_⟩
  obtain ⟨a, C, v, rfl, T, no, ha, q⟩ := h
  exact ⟨.ref a, rfl, a, C, [.str m], rfl, (by simp), T, ha, v, rfl, .ref a, rfl, a, C, rfl, T, no, .inl ⟨ha, q⟩⟩
end
end Bw

namespace Bw
open PySem PySem.Spec PyProof.Rows L2
/-! ### defs that may raise, as their callers want them -/
structure FnX (P : Program) (w : World) (K : PySem.W.Frag) (mg : Str → Option Value) (base : Heap) (x : Str) (k : Nat) (ps : List Str) (sp : Sp) : Prop where
  ex : ∃ (f : Addr) (fd : FuncData), FnOk P w K mg base (L2.CX P w) k f fd ps sp ∧ mg x = some (.ref f) ∧ PySem.W.keepIn K (.ref f) = true ∧ Binds K fd ps []
structure MeX (P : Program) (w : World) (K : PySem.W.Frag) (mg : Str → Option Value) (base : Heap) (C : Addr) (m : Str) (k : Nat) (ps : List Str) (sp : Sp) : Prop where
  ex : ∃ (f : Addr) (fd : FuncData), FnOk P w K mg base (L2.CX P w) k f fd ps sp ∧ Meth K C m f ∧ Binds K fd ps []
structure MkrX (P : Program) (w : World) (K : PySem.W.Frag) (mg : Str → Option Value) (base : Heap) (x : Str) (C : Addr) (k : Nat) (ps : List Str) (dvs : List V) (sp : Sp) : Prop where
  ex : ∃ (f : Addr) (fd : FuncData) (ds : List Value), Mk K C f ∧ FnOk P w K mg base (L2.CX P w) k f fd ps sp ∧ mg x = some (.ref C) ∧ Binds K fd ps ds ∧ Vals dvs ds
section
variable {X : Cx}
/-- what a callee lets out is let out -/
abbrev Lets (X : Cx) (E : XK) : Prop := Passes (L2.CX X.prog X.w) X E
theorem pe_fx {E : XK} {x : Str} {k : Nat} {ps : List Str} {sp : Sp} {e : Expr} {es : List Expr} {t : TA} {p pos : Pos} (F : FnX X.prog X.w X.K X.mg X.base x k ps sp) (hx : Lets X E) (hr : Room k X.A) (hg : Gl X x) (ha : PA X (e :: es) t)
    (hdb : (x == ("__debug__" : Str)) = false := by decide) (he : starEach (e :: es) X.env = (false, eval e X.env) :: starEach es X.env := by rfl) (hpl : (backTo pos (starEach es X.env)).any (·.1) = false := by rfl) :
    PE X (.Call (.Name x p) (e :: es) [] pos) (tCall sp [] E t) := by
  obtain ⟨f, fd, G, hm, hk, hb⟩ := F.ex
  exact pe_call G hr hg hm hk hb .nil hx ha hdb he hpl
theorem pe_mex {E : XK} {pl : Sem Bool} {C : Addr} {m : Str} {k : Nat} {ps : List Str} {sp : Sp} {o e : Expr} {es : List Expr} {t : TA} {ta : TE} {apos pos : Pos} (he : PE X o ta) (c : Cls X.K C) (M : MeX X.prog X.w X.K X.mg X.base C m k ps sp) (hx : Lets X E) (hr : Room k X.A) (ha : PA X (e :: es) t)
    (hst : starEach (e :: es) X.env = (false, eval e X.env) :: starEach es X.env := by rfl) (hpl : (backTo pos (starEach es X.env)).any (·.1) = false := by rfl)
    (ht : eval (.Call (.Attribute o m apos) (e :: es) [] pos) X.env = (do
      let ov ← eval o X.env
      standAt apos.atName
      let (f, first) ← holding [ov] (getMethod ov m pl)
      callWith pos f first (backTo pos (starEach (e :: es) X.env)) (backToKw pos (keywordEach [] X.env))) := by rfl) :
    PE X (.Call (.Attribute o m apos) (e :: es) [] pos) (tMeth C m sp [] E ta t) := by
  obtain ⟨f, fd, G, hm, hb⟩ := M.ex
  exact pe_meth he c hm G hr hb .nil hx ha hst hpl ht
theorem pe_mex0 {E : XK} {pl : Sem Bool} {C : Addr} {m : Str} {k : Nat} {ps : List Str} {sp : Sp} {o : Expr} {ta : TE} {apos pos : Pos} (he : PE X o ta) (c : Cls X.K C) (M : MeX X.prog X.w X.K X.mg X.base C m k ps sp) (hx : Lets X E) (hr : Room k X.A)
    (ht : eval (.Call (.Attribute o m apos) [] [] pos) X.env = (do
      let ov ← eval o X.env
      standAt apos.atName
      let (f, first) ← holding [ov] (getMethod ov m pl)
      callWith pos f first (backTo pos (starEach [] X.env)) (backToKw pos (keywordEach [] X.env))) := by rfl) :
    PE X (.Call (.Attribute o m apos) [] [] pos) (tMeth C m sp [] E ta tNil) := by
  obtain ⟨f, fd, G, hm, hb⟩ := M.ex
  exact pe_meth0 he c hm G hr hb .nil hx ht
theorem pe_mkx {E : XK} {x : Str} {C : Addr} {k : Nat} {ps : List Str} {dvs : List V} {sp : Sp} {e : Expr} {es : List Expr} {t : TA} {p pos : Pos} (M : MkrX X.prog X.w X.K X.mg X.base x C k ps dvs sp) (hx : Lets X E) (hr : Room (k + 1) X.A) (hg : Gl X x) (ha : PA X (e :: es) t)
    (hdb : (x == ("__debug__" : Str)) = false := by decide) (he : starEach (e :: es) X.env = (false, eval e X.env) :: starEach es X.env := by rfl) (hpl : (backTo pos (starEach es X.env)).any (·.1) = false := by rfl) :
    PE X (.Call (.Name x p) (e :: es) [] pos) (tMake C sp dvs E t) := by
  obtain ⟨f, fd, ds, M, G, hm, hb, hd⟩ := M.ex
  exact pe_make M G hr hg hm hb hd hx ha hdb he hpl
theorem pe_gcls {x : Str} {C : Addr} {p : Pos} (h : X.mg x = some (.ref C)) (hg : Gl X x) (hd : (x == ("__debug__" : Str)) = false := by decide) : PE X (.Name x p) (tC (.ref C)) := pe_glob (v := .ref C) hg h rfl hd
/-- X(), X an own exception class without own __init__ that stands above ValueError -/
structure XpV (K : PySem.W.Frag) (C : Addr) : Prop where
  q : PySem.W.excIn K C PySem.HandSPX.veTail "ValueError.__new__" = true
  kp : PySem.W.keepIn K (.ref C) = true
  h1 : PySem.W.subIn K (.ref C) (.type "BaseException") = some true
  h2 : PySem.W.typeIn K (.ref C) = some (.type "type")
theorem pmk_ownV {C : Addr} {x : Str} {p pos : Pos} (h : XpV X.K C) (gC : X.mg x = some (.ref C)) (hg : Gl X x) (hdb : (x == ("__debug__" : Str)) = false := by decide) : PMk X (.Call (.Name x p) [] [] pos) (fun _ H Q => Q (.ref C) none H) :=
  pmk_own0 F.excBase_ValueError h.q gC h.kp (raises_own h.h1 h.h2) hg hdb
theorem huH {k : Nat} {A : Around} (r : L2H.RoomH k A) : A.units + 65 < cLine := by have := r.un; omega
theorem lets0 : Lets X E0 := passL
theorem lets_of {E : XK} (tk : Takes X (fun cls d _ H => E cls d H)) : Lets X E := passes_call tk fun _ _ _ _ h => h
end
/-- a def's own wish -/
theorem takesX {P : Program} {w : World} {K : PySem.W.Frag} {mg : Str → Option Value} {base : Heap} {N : List Str} {qual : Str} {scope : Scope} {f : Addr} {cdv : Value} {A : Around} {outer : List Env} {s : Shared} {H : Hp} {E : XK} :
    Takes (cxOf (L2.CX P w) P w K mg base N qual scope f cdv A outer s H E) (fun cls d _ H => E cls d H) := takes_of rfl rfl rfl rfl
theorem takesLam {X : Cx} {A : Around} {outer : List Env} {s : Shared} {H : Hp} {E : XK} {scope : Scope} {f c' : Addr} : Takes (LamX.lamCx X A outer s H E scope f c') (fun cls d _ H => E cls d H) := takes_of rfl rfl rfl rfl
/-- what is never reached -/
theorem pss_no {X : Cx} {b : List Stmt} : PSs X b (fun _ _ _ => False) := ⟨fun _ _ _ _ _ _ h => h.elim⟩
/-! ### l.count(x) -/
section
variable {X : Cx}
def rCountD (K : PySem.W.Frag) : V → List V → Hp → VK → Prop := fun x xs H Q => ∃ (a : Addr) (y : V) (d : PyData) (ds : List PyData), x = V.ref a ∧ xs = [y] ∧ Dp K H (V.ref a) (.list ds) ∧ Dp K H y d ∧
  SeqAt.shaped (.list ds) = true ∧ SeqAt.shaped d = true ∧ Q (.int ((ds.countP fun z => PyData.eqv z d : Nat) : Int)) H
theorem mt_countD (hu : X.A.units + 65 < cLine) : MtR X "list.count" (rCountD X.K) := by
  intro pins s σ H x xs v us Q I rx rxs h
  obtain ⟨a, y, d, ds, rfl, rfl, hl, hy, sl, sd, q⟩ := h
  cases rx
  cases rxs with
  | cons ry rt =>
    rename_i uy ut
    cases rt
    obtain ⟨bs, r1⟩ := Dp.reads I d y uy hy ry
    have hroom : X.A.units + 1 + min (PyData.depthAll ds) d.depth < cLine := room_in_shaped sd hu
    have cl : PyData.canLayAll0 ds = true := SeqAt.canLay_of_shaped sl
    cases hl with
    | lst hs ha =>
      obtain ⟨its, rv, ⟨⟨cls, dd, data, sls⟩, n, ho, hc, hdn, hdt⟩, hlen⟩ := I.list hs
      simp only at hc hdt
      subst hc hdt
      obtain ⟨as, h4⟩ := Dp.readsAll I ds _ its ha rv
      have hmap : its.map (SeqAt.readOf s.heap) = ds := SeqAt.readsAll_map ds its as cl h4
      have ec : (ds.countP fun z => PyData.eqv z d) = its.toArray.toList.countP (fun u => PyData.eqv (SeqAt.readOf s.heap u) d) := by
        rw [← hmap, List.countP_map]
        rfl
      rw [ec] at q
      exact call_meets PySem.F.slot_list_count ⟨_, ho, rfl⟩ PySem.F.entry_list_count (PySem.F.args_list_count_2 _ _) (SeqAt.list_countAt a its.toArray n dd sls uy (fun u => PyData.eqv (SeqAt.readOf s.heap u) d))
        ⟨ho, SeqAt.items_eqAt (vs := its.toArray) (show ReadsAll s.heap its.toArray.toList ds as from h4) r1 cl (SeqAt.canLay_of_shaped sd) hroom, ⟨.int _, H, I.tok _, ⟨_, rfl⟩, q⟩⟩
end
/-! ### the caught exception within an except suite and the defs that are called there -/
/-- its dict, where it has one, is known -/
def XdOk (d : Option Addr) (H : Hp) : Prop := ∀ dd, d = some dd → ∃ fs, H dd = some (.xd fs)
section
variable {X : Cx}
theorem inst_pin {pins : List (Addr × Obj)} {σ : L2.St} {H : Hp} {s : Shared} {a D : Addr} {d : Option Addr} {oe : Obj} (I : Inv X pins σ H s) (hp : (a, oe) ∈ X.pn) (hz : Zc (.ref D) d oe) (hf : ∃ vs, oe.data = .fields vs) (hd : XdOk d H) : ∃ od, PySem.W.InstAt s.heap a oe D od := by
  obtain ⟨hget, _⟩ := I.pin (a, oe) (List.mem_append.mpr (.inl hp))
  obtain ⟨vs, hv⟩ := hf
  obtain ⟨z1, z2⟩ := hz
  have nc : PySem.W.notCls oe = true := by unfold PySem.W.notCls; rw [hv] <;> rfl
  cases d with
  | none => exact ⟨none, hget, z1, nc, by rw [z2]; trivial⟩
  | some dd =>
    obtain ⟨fs, e⟩ := hd dd rfl
    have hx : ObjOk X.prog X.w H s.heap dd (.xd fs) := I.hok dd _ e
    obtain ⟨mA, hns, hr⟩ := hx
    obtain ⟨od, ho, hl⟩ := lookIn_ns hns
    exact ⟨some od, hget, z1, nc, by rw [z2]; exact ho⟩
/-- isinstance(e, C) -/
def rIsP (K : PySem.W.Frag) (a : Addr) (cls : Value) (d : Option Addr) : List V → Hp → VK → Prop := fun xs H Q => ∃ (D : Addr) (c : V) (cv : Value) (b : Bool), cls = .ref D ∧ ExcC K D ∧ xs = [.ref a, c] ∧ ClsV c cv ∧ PySem.W.kitOne K (.ref D) cv = some b ∧ XdOk d H ∧ Q (.bl b) H
theorem kit_pin {a D : Addr} {oe : Obj} {od : Option Obj} (C : ExcC X.K D) : PySem.W.KitX X.K (.ref a) (.ref D) (fun h => PySem.W.InstAt h a oe D od) :=
  PySem.W.kitx_exc (by obtain ⟨cd, hc, _⟩ := PySem.W.any_some C.hd; rw [hc]; rfl) C.hg C.hk C.hs C.ha C.hn C.ht C.hm
theorem call_isP {a : Addr} {cls : Value} {d : Option Addr} {oe : Obj} (hp : (a, oe) ∈ X.pn) (hz : Zc cls d oe) (hf : ∃ vs, oe.data = .fields vs) : CallR X (.builtin "isinstance") (rIsP X.K a cls d) := by
  intro pins s σ H xs us Q I r h
  obtain ⟨D, c, cv, b, rfl, C, rfl, hcv, e, hx, q⟩ := h
  obtain ⟨od, J⟩ := inst_pin I hp hz hf hx
  obtain ⟨u1, u2, rfl, r1, r2⟩ := vals2 r
  cases (show u1 = Value.ref a from r1)
  have ec := hcv.eq r2
  subst ec
  exact PySem.W.kia_one (kit_pin C) I.kIn J e (fun z => nomatch z) fun tk => ⟨.bl b, H, I.tok tk, rfl, q⟩
/-- isinstance(e, (C1, C2, ..)) -/
def rIsPT (K : PySem.W.Frag) (a : Addr) (cls : Value) (d : Option Addr) : List V → Hp → VK → Prop := fun xs H Q => ∃ (D tp : Addr) (cs : List V) (us : List Value) (b : Bool), cls = .ref D ∧ ExcC K D ∧ xs = [.ref a, .ref tp] ∧ H tp = some (.tup cs) ∧ Paired ClsV cs us ∧ PySem.W.kitAny K (.ref D) us = some b ∧ XdOk d H ∧ Q (.bl b) H
theorem call_isPT {a : Addr} {cls : Value} {d : Option Addr} {oe : Obj} (hp : (a, oe) ∈ X.pn) (hz : Zc cls d oe) (hf : ∃ vs, oe.data = .fields vs) : CallR X (.builtin "isinstance") (rIsPT X.K a cls d) := by
  intro pins s σ H xs us Q I r h
  obtain ⟨D, tp, cs, ws, b, rfl, C, rfl, hT, k, e, hx, q⟩ := h
  obtain ⟨od, J⟩ := inst_pin I hp hz hf hx
  obtain ⟨u1, u2, rfl, r1, r2⟩ := vals2 r
  cases (show u1 = Value.ref a from r1)
  cases (show u2 = Value.ref tp from r2)
  obtain ⟨_, its, rv, o, h1, h2, n, h3⟩ := (show ObjOk X.prog X.w H s.heap tp (.tup cs) from I.hok tp _ hT)
  have e3 := ClsV.all k rv
  subst e3
  obtain ⟨oc, od', dt, sl⟩ := o
  simp only at h2 h3
  subst h2 h3
  exact PySem.W.kia_tup (kit_pin C) I.kIn J h1 e (fun z => nomatch z) fun tk => ⟨.bl b, H, I.tok tk, rfl, q⟩
/-- e.f -/
def tXfc (K : PySem.W.Frag) (a : Addr) (cls : Value) (d : Option Addr) (f : Str) (te : TE) : TE := fun σ H Q => te σ H fun x H1 => ∃ (D dd : Addr) (fs : List (Str × V)) (v : V), x = .ref a ∧ cls = .ref D ∧ ExcC K D ∧ PySem.W.findIn K (.ref D) f = some none ∧ d = some dd ∧ H1 dd = some (.xd fs) ∧ fs.lookup f = some v ∧ Q v H1
theorem pe_xfc {a : Addr} {oe : Obj} {cls : Value} {d : Option Addr} {e : Expr} {te : TE} {pos : Pos} {n : Str} (hp : (a, oe) ∈ X.pn) (hz : Zc cls d oe) (hf : ∃ vs, oe.data = .fields vs) (he : PE X e te) (hb : attributeBase e n X.env (eval e X.env) = eval e X.env := by rfl) :
    PE X (.Attribute e n pos) (tXfc X.K a cls d n te) := by
  refine ⟨fun pins s σ H Q I h => ?_⟩
  refine attr_of hb (thn (he.run pins s σ H _ I h) fun u s1 hh => ?_)
  obtain ⟨x, H1, I1, rx, D, dd, fs, v, ex, ec, C, no, ed, ea, l, q⟩ := hh
  subst ex ec ed
  cases (show u = Value.ref a from rx)
  obtain ⟨ha, _⟩ := I1.pin (a, oe) (List.mem_append_left _ hp)
  obtain ⟨vs, hd⟩ := hf
  obtain ⟨mA, hns, hr⟩ := (show ObjOk X.prog X.w H1 s1.heap dd (.xd fs) from I1.hok dd _ ea)
  obtain ⟨od, ho, hl⟩ := lookIn_ns hns
  obtain ⟨u, hu, ru⟩ := RelO.some_of (v := v) (o := mA n) (by rw [← l]; exact hr n)
  have J : PySem.W.InstAt s1.heap a oe D (some od) := ⟨ha, hz.1, by unfold PySem.W.notCls; rw [hd] <;> rfl, by rw [hz.2]; exact ho⟩
  exact HandSPX.exc_get I1.kIn J C.hg C.hk C.hs (PySem.W.findObj_own C.hd no rfl (by rw [hl, hu])) (handed_of ru) ⟨v, H1, I1.tok _, ru, q⟩
end
/-! ### a def that is called with the caught exception -/
abbrev SpP := Addr × Obj → List V → Hp → VK → Prop
structure FnP0 (P : Program) (w : World) (K : PySem.W.Frag) (mg : Str → Option Value) (base : Heap) (k : Nat) (f : Addr) (fd : FuncData) (ps : List Str) (sp : SpP) : Prop where
  len : ∀ p vs H Q, sp p vs H Q → vs.length = ps.length
  run : ∀ (A : Around) (outer : List Env) (s : Shared) (H : Hp) (args : Args) (us : List Value) (vs : List V) (Q : VK) (p : Addr × Obj), L2H.RoomH k A → L2H.PinOk outer H s p → Env0 P w K mg base A outer s H → BindsTo s fd args (ps.zip us) → Vals vs us → sp p vs H Q →
    codeAny (model P w) A (.call (.ref f) args) (CR CX0 outer P w H s Q E0) s
theorem Fun.okP {P : Program} {w : World} {K : PySem.W.Frag} {mg : Str → Option Value} {base : Heap} {x qual : Str} {st : Stmt} {f : Addr} {fd : FuncData} {N ps : List Str} {k : Nat} {sp : SpP} (F : Fun K x qual st f fd) (S : FnScope N ps (defScope st)) (len : ∀ p vs H Q, sp p vs H Q → vs.length = ps.length)
    (hbody : ∀ (cdv : Value) (A : Around) (outer : List Env) (s : Shared) (H : Hp) (vs : List V) (Q : VK) (p : Addr × Obj), L2H.RoomH k (A.deeper (envOfC qual (defScope st) s.heap.objs.size f cdv)) → sp p vs H Q →
      ∃ t, PSs (L2H.cxH CX0 P w K mg base N qual (defScope st) f cdv A outer s H E0 p).nox (defBody st) t ∧ t { nx := fun _ H' => Q .non H', rt := Q } (L2.start N vs) H) : FnP0 P w K mg base (k + 1) f fd ps sp := by
  obtain ⟨oc, od, kV, doc, pm, an, cdv, ct, osl, rfl, lk, hcd⟩ := F.ex
  refine ⟨len, fun A outer s H args us vs Q p hr hpin e0 hb r hsp => ?_⟩
  have hl := len _ _ _ _ hsp
  have KX : K.In s.heap := e0.mod.kin.keeps fun b o e => (e0.bs b o e).1
  refine codeAny_call_function hr.depth (KX _ _ lk) rfl S.co S.gen rfl (PySem.W.codeRec_of KX hcd) (hb _ _ _ _ ?_)
  have hkind : ∀ y ∈ ps.zip us, (defScope st).names.lookup y.1 = some .local ∨ ((defScope st).names.lookup y.1 = some .cell ∧ ((cellsFrom (s.heap.objs.size + 1) (defScope st).names []).lookup y.1).isSome = true) := by
    intro y hy
    obtain ⟨n, v⟩ := y
    exact (S.par n (List.of_mem_zip hy).1).imp id fun q => ⟨q, PySem.W.cellsFrom_some _ _ _ (.inl q)⟩
  refine wpAny_newFunctionEnv_cells S.kind hkind fun env he s1 x => ?_
  subst he
  refine ⟨(e0.mod.nolimit.keeps fun b o e => (e0.bs b o e).1).keeps x.toInCall.keep, codeAny_func ?_⟩
  obtain ⟨t, ht, hq⟩ := hbody cdv A outer s H vs Q p (hr.deeper _) hsp
  refine wpAny_mono (ht.nox.run [] s1 (L2.start N vs) H _ (L2H.inv_startH S hpin e0 hl r x) hq) (fun fl s' hs => ?_) fun e s' hs => hs
  have fin : ∀ {σ' : L2.St} {H' : Hp} {v : V} {u : Value}, Inv (L2H.cxH CX0 P w K mg base N qual (defScope st) f cdv A outer s H E0 p) [] σ' H' s' → RelV v u → Q v H' → CE outer P w H s Q u s' :=
    fun {σ' H' v u} J rv q => ⟨v, H', J.os, J.bare, J.base, J.hok, rv, q⟩
  match fl, hs with
  | .ret u, ⟨v, σ', H', J, rv, q⟩ => exact fin J rv q
  | .next, ⟨σ', H', J, q⟩ => exact fin (v := V.non) (u := Value.none) J rfl q
  | .brk, ⟨_, _, _, q⟩ => exact q.elim
  | .cont, ⟨_, _, _, q⟩ => exact q.elim
structure FnP (P : Program) (w : World) (K : PySem.W.Frag) (mg : Str → Option Value) (base : Heap) (x : Str) (k : Nat) (ps : List Str) (sp : SpP) : Prop where
  ex : ∃ (f : Addr) (fd : FuncData), FnP0 P w K mg base k f fd ps sp ∧ mg x = some (.ref f) ∧ PySem.W.keepIn K (.ref f) = true ∧ Binds K fd ps []
def tCallP (sp : SpP) (a : Addr) (cls : Value) (d : Option Addr) (t : TA) : TE := fun σ H Q => t σ H fun vs H1 => ∀ oe : Obj, Zc cls d oe → (∃ vs, oe.data = .fields vs) → sp (a, oe) vs H1 Q
theorem pe_fp {X : Cx} {x : Str} {k : Nat} {ps : List Str} {sp : SpP} {e : Expr} {es : List Expr} {t : TA} {q pos : Pos} {a : Addr} {oe : Obj} {cls : Value} {d : Option Addr} (F : FnP X.prog X.w X.K X.mg X.base x k ps sp) (hp : (a, oe) ∈ X.pn) (hz : Zc cls d oe) (hf : ∃ vs, oe.data = .fields vs) (hr : L2H.RoomH k X.A) (hg : Gl X x) (ha : PA X (e :: es) t)
    (hdb : (x == ("__debug__" : Str)) = false := by decide) (he : starEach (e :: es) X.env = (false, eval e X.env) :: starEach es X.env := by rfl) (hpl : (backTo pos (starEach es X.env)).any (·.1) = false := by rfl) :
    PE X (.Call (.Name x q) (e :: es) [] pos) (tCallP sp a cls d t) := by
  obtain ⟨f, fd, G, hm, hk, hb⟩ := F.ex
  refine ⟨fun pins s σ H Q I h => ?_⟩
  refine wpAny_Call_Name_kw (ld_glob I hg hm ?_ hdb)
  refine PySem.W.callWith_K (h₀ := X.base) I.ok.mod.kin hk (thn (ha.run pos pins s σ H _ I h) fun us s1 ⟨vs, H1, I1, r, q⟩ => ⟨I1.kIn, ?_⟩) he hpl
  have q := q oe hz hf
  have hl : us.length = ps.length := by rw [← r.length]; exact G.len _ _ _ _ q
  have b := hb s1 us I1.kIn (by rw [List.append_nil]; exact hl)
  rw [List.append_nil] at b
  have P1 := I1.pin (a, oe) (List.mem_append_left _ hp)
  have hpin : L2H.PinOk X.stack H1 s1 (a, oe) := ⟨P1.1, P1.2.1, fun hm => (List.mem_cons.mp (I1.stkSub a hm)).elim P1.2.2.1 P1.2.2.2.1, P1.2.2.2.2⟩
  show wpAny _ _ (call (.ref f) us) _ _ _
  refine wpAny_call (codeAny_mono (G.run X.A X.stack s1 H1 ⟨us, []⟩ us vs Q (a, oe) hr hpin I1.env0 b r q) fun r s' hq => ?_)
  match r, hq with
  | .error e, hq => exact False.elim hq
  | .ok (.ret u), hq => exact I1.after hq
  | .ok .next, hq => exact False.elim hq
  | .ok .brk, hq => exact False.elim hq
  | .ok .cont, hq => exact False.elim hq
theorem roomH_mark {k : Nat} {A : Around} {v : Option Value} (r : L2.Room k A) : L2H.RoomH k (A.mark v) := ⟨r.dp, r.un⟩
end Bw

namespace Bw
open PySem PySem.Spec PyProof.Rows L2
/-! ### the classes of the errors; what is told of one -/
structure Zs where
  (Wrong NoWord NoText NoNumber NoSize NoLengths NoQuery NoCode NoRow NoEntries NoQueryText NoPages NoName NoQueries NoShelf NoDeed Taken NoPlace NoSlot : Addr)
def Zs.sixteen (Z : Zs) : List Addr := [Z.NoCode, Z.NoDeed, Z.NoEntries, Z.NoLengths, Z.NoName, Z.NoNumber, Z.NoPages, Z.NoQueries, Z.NoQuery, Z.NoQueryText, Z.NoRow, Z.NoShelf, Z.NoSize, Z.NoText, Z.NoWord, Z.Taken]
def kindNames : List Str := ["code", "deed", "entries", "lengths", "name", "number", "pages", "queries", "query", "text of query", "row", "shelf", "size", "text", "word", "taken"]
def Zs.five (Z : Zs) : List Value := [.ref Z.NoCode, .ref Z.NoEntries, .ref Z.NoPages, .ref Z.NoQueryText, .ref Z.NoRow]
def excB (K : PySem.W.Frag) (D : Addr) : Bool :=
  decide (PySem.W.findIn K (.ref D) "__getattribute__" = some (some (.builtin "BaseException.__getattribute__"))) && (decide (PySem.W.findIn K (.ref D) "__getattr__" = some none) && (decide (PySem.W.subIn K (.ref D) (.type "BaseException") = some true) && (PySem.W.hasDictIn K D && (
  decide (PySem.W.findIn K (.ref D) "__class__" = some (some (.builtin "object.__class__"))) && (decide (PySem.W.specialIn K (.builtin "object.__class__") "__get__" = some (some (.builtin "getset_descriptor.__get__"))) && (decide (PySem.W.takesIn K (.builtin "object.__class__") = some true) && decide (PySem.W.mroIn K D (.type "object") = some true)))))))
theorem excB_ok {K : PySem.W.Frag} {D : Addr} (h : excB K D = true) : ExcC K D := by
  unfold excB at h
  simp only [Bool.and_eq_true, decide_eq_true_eq] at h
  obtain ⟨h1, h2, h3, h4, h5, h6, h7, h8⟩ := h
  exact ⟨h1, h2, h3, h4, h5, h6, h7, h8⟩
/-- one of the sixteen, and which -/
def kindB (K : PySem.W.Frag) (Z : Zs) (D : Addr) (i : Nat) : Bool :=
  excB K D && ((Z.sixteen.zipIdx.all fun x => decide (PySem.W.kitOne K (.ref D) (.ref x.1) = some (decide (x.2 = i)))) && (decide (PySem.W.kitOne K (.ref D) (.type "ValueError") = some true) && decide (PySem.W.kitAny K (.ref D) [.ref Z.NoPlace, .ref Z.NoSlot] = some false)))
structure KindOk (K : PySem.W.Frag) (Z : Zs) (D : Addr) (i : Nat) : Prop where
  ex : ExcC K D
  is : ∀ (j : Nat) (C : Addr), Z.sixteen[j]? = some C → PySem.W.kitOne K (.ref D) (.ref C) = some (decide (j = i))
  ve : PySem.W.kitOne K (.ref D) (.type "ValueError") = some true
  ix : PySem.W.kitAny K (.ref D) [.ref Z.NoPlace, .ref Z.NoSlot] = some false
theorem kindB_ok {K : PySem.W.Frag} {Z : Zs} {D : Addr} {i : Nat} (h : kindB K Z D i = true) : KindOk K Z D i := by
  unfold kindB at h
  simp only [Bool.and_eq_true, decide_eq_true_eq, List.all_eq_true] at h
  obtain ⟨h1, h2, h3, h4⟩ := h
  refine ⟨excB_ok h1, fun j C e => ?_, h3, h4⟩
  exact h2 (C, j) (by
    rw [List.mem_iff_getElem?]
    exact ⟨j, by simp [List.getElem?_zipIdx, e]⟩)
/-- by the first clause: with its place -/
def howAtB (K : PySem.W.Frag) (Z : Zs) (D : Addr) (i : Nat) : Bool := kindB K Z D i && (decide (PySem.W.findIn K (.ref D) "at" = some none) && decide (PySem.W.exmAny K (.ref D) Z.five = some true))
structure HowAt (K : PySem.W.Frag) (Z : Zs) (D : Addr) (i : Nat) : Prop where
  k : KindOk K Z D i
  no : PySem.W.findIn K (.ref D) "at" = some none
  c1 : PySem.W.exmAny K (.ref D) Z.five = some true
theorem howAtB_ok {K : PySem.W.Frag} {Z : Zs} {D : Addr} {i : Nat} (h : howAtB K Z D i = true) : HowAt K Z D i := by
  unfold howAtB at h
  simp only [Bool.and_eq_true, decide_eq_true_eq] at h
  exact ⟨kindB_ok h.1, h.2.1, h.2.2⟩
/-- by the second clause -/
def howPlB (K : PySem.W.Frag) (Z : Zs) (D : Addr) (i : Nat) : Bool := kindB K Z D i && (decide (PySem.W.exmAny K (.ref D) Z.five = some false) && decide (PySem.W.exmAny K (.ref D) [.ref Z.Wrong] = some true))
structure HowPl (K : PySem.W.Frag) (Z : Zs) (D : Addr) (i : Nat) : Prop where
  k : KindOk K Z D i
  c1 : PySem.W.exmAny K (.ref D) Z.five = some false
  c2 : PySem.W.exmAny K (.ref D) [.ref Z.Wrong] = some true
theorem howPlB_ok {K : PySem.W.Frag} {Z : Zs} {D : Addr} {i : Nat} (h : howPlB K Z D i = true) : HowPl K Z D i := by
  unfold howPlB at h
  simp only [Bool.and_eq_true, decide_eq_true_eq] at h
  exact ⟨kindB_ok h.1, h.2.1, h.2.2⟩
/-- by the third clause: no place (b), no slot (not b) -/
def howIxB (K : PySem.W.Frag) (Z : Zs) (D : Addr) (b : Bool) : Bool := excB K D && (decide (PySem.W.exmAny K (.ref D) Z.five = some false) && (decide (PySem.W.exmAny K (.ref D) [.ref Z.Wrong] = some false) && (decide (PySem.W.exmAny K (.ref D) [.ref Z.NoPlace, .ref Z.NoSlot] = some true) &&
  (decide (PySem.W.kitOne K (.ref D) (.type "IndexError") = some true) && (decide (PySem.W.kitOne K (.ref D) (.ref Z.NoPlace) = some b) && decide (PySem.W.kitOne K (.ref D) (.ref Z.NoSlot) = some (!b)))))))
structure HowIx (K : PySem.W.Frag) (Z : Zs) (D : Addr) (b : Bool) : Prop where
  ex : ExcC K D
  c1 : PySem.W.exmAny K (.ref D) Z.five = some false
  c2 : PySem.W.exmAny K (.ref D) [.ref Z.Wrong] = some false
  c3 : PySem.W.exmAny K (.ref D) [.ref Z.NoPlace, .ref Z.NoSlot] = some true
  ie : PySem.W.kitOne K (.ref D) (.type "IndexError") = some true
  np : PySem.W.kitOne K (.ref D) (.ref Z.NoPlace) = some b
  ns : PySem.W.kitOne K (.ref D) (.ref Z.NoSlot) = some (!b)
theorem howIxB_ok {K : PySem.W.Frag} {Z : Zs} {D : Addr} {b : Bool} (h : howIxB K Z D b = true) : HowIx K Z D b := by
  unfold howIxB at h
  simp only [Bool.and_eq_true, decide_eq_true_eq] at h
  obtain ⟨h1, h2, h3, h4, h5, h6, h7⟩ := h
  exact ⟨excB_ok h1, h2, h3, h4, h5, h6, h7⟩
/-! ### what the teller of the kind promises -/
def spKind (K : PySem.W.Frag) (Z : Zs) : SpP := fun p vs H Q => ∃ (D : Addr) (d : Option Addr) (i : Nat) (nm : Str), vs = [.ref p.1] ∧ Zc (.ref D) d p.2 ∧ (∃ vs, p.2.data = .fields vs) ∧ KindOk K Z D i ∧ XdOk d H ∧ kindNames[i]? = some nm ∧ ∀ H', Same H H' → Q (.str nm) H'
/-- what the asker makes of a raised one -/
def howE (K : PySem.W.Frag) (Z : Zs) (Q : VK) : XK := fun cls d H => ∃ D : Addr, cls = .ref D ∧
  ((∃ (i : Nat) (nm : Str), HowPl K Z D i ∧ kindNames[i]? = some nm ∧ XdOk d H ∧ ∀ H', Same H H' → Q (.str nm) H') ∨
   (∃ (i : Nat) (nm : Str) (dd : Addr) (v : V) (tv : String), HowAt K Z D i ∧ kindNames[i]? = some nm ∧ d = some dd ∧ H dd = some (.xd [("at", v)]) ∧ TyX K H v (.type tv) ∧ kitB tv "bool" = some false ∧ ∀ p H', H p = none → Same H H' → H' p = some (.tup [.str nm, v]) → Q (.ref p) H') ∨
   (∃ b : Bool, HowIx K Z D b ∧ XdOk d H ∧ ∀ H', Same H H' → Q (.str (if b then "no place" else "no slot")) H'))
def TTHow (K : PySem.W.Frag) (Z : Zs) : (XK → Hp → VK → Prop) → Hp → VK → Prop := fun tl H Q => tl (howE K Z Q) H (fun _ H' => Q (.str "told") H')
theorem cnt16 {i : Nat} (h : i < 16) : ((([decide (0 = i), decide (1 = i), decide (2 = i), decide (3 = i), decide (4 = i), decide (5 = i), decide (6 = i), decide (7 = i), decide (8 = i), decide (9 = i), decide (10 = i), decide (11 = i), decide (12 = i), decide (13 = i), decide (14 = i), decide (15 = i)] : List Bool).count true : Nat) : Int) = 1 := by
  have : ∀ i, i < 16 → ((([decide (0 = i), decide (1 = i), decide (2 = i), decide (3 = i), decide (4 = i), decide (5 = i), decide (6 = i), decide (7 = i), decide (8 = i), decide (9 = i), decide (10 = i), decide (11 = i), decide (12 = i), decide (13 = i), decide (14 = i), decide (15 = i)] : List Bool).count true : Nat) : Int) = 1 := by decide
  exact this i h
theorem idx16 {i : Nat} (h : i < 16) : ([decide (0 = i), decide (1 = i), decide (2 = i), decide (3 = i), decide (4 = i), decide (5 = i), decide (6 = i), decide (7 = i), decide (8 = i), decide (9 = i), decide (10 = i), decide (11 = i), decide (12 = i), decide (13 = i), decide (14 = i), decide (15 = i)] : List Bool)[i]? = some true := by
  have : ∀ i, i < 16 → ([decide (0 = i), decide (1 = i), decide (2 = i), decide (3 = i), decide (4 = i), decide (5 = i), decide (6 = i), decide (7 = i), decide (8 = i), decide (9 = i), decide (10 = i), decide (11 = i), decide (12 = i), decide (13 = i), decide (14 = i), decide (15 = i)] : List Bool)[i]? = some true := by decide
  exact this i h
theorem bef16 {i : Nat} (h : i < 16) (m : Nat) (hm : m < i) : ([decide (0 = i), decide (1 = i), decide (2 = i), decide (3 = i), decide (4 = i), decide (5 = i), decide (6 = i), decide (7 = i), decide (8 = i), decide (9 = i), decide (10 = i), decide (11 = i), decide (12 = i), decide (13 = i), decide (14 = i), decide (15 = i)] : List Bool)[m]? ≠ some true := by
  have : ∀ i, i < 16 → ∀ m, m < i → ([decide (0 = i), decide (1 = i), decide (2 = i), decide (3 = i), decide (4 = i), decide (5 = i), decide (6 = i), decide (7 = i), decide (8 = i), decide (9 = i), decide (10 = i), decide (11 = i), decide (12 = i), decide (13 = i), decide (14 = i), decide (15 = i)] : List Bool)[m]? ≠ some true := by decide
  exact this i h m hm
theorem nam16 {i : Nat} {nm : Str} (h : kindNames[i]? = some nm) : atI (kindNames.map V.str) (i : Int) = some (.str nm) := atI_nat (by rw [List.getElem?_map, h]; rfl)
theorem takes_len {X : Cx} {W : WX} (tk : Takes X W) : Takes X (fun cls d σ H => σ.length = X.N.length → W cls d σ H) := fun u s' x => by
  obtain ⟨a, B, sI, pins, σ, H, cls, d, e, I, nb, up, sky, na, os, ag, w⟩ := x
  exact tk u s' ⟨a, B, sI, pins, σ, H, cls, d, e, I, nb, up, sky, na, os, ag, w I.len⟩
theorem two_of {σ : L2.St} (h : σ.length = 2) : ∃ x y, σ = [x, y] := by
  match σ, h with
  | [x, y], _ => exact ⟨x, y, rfl⟩
/-- a suite, by any reading of it -/
def tAny (X : Cx) (b : List Stmt) (a : Addr) (cls : Value) (d : Option Addr) : TS := fun D σ H => ∀ (oe : Obj) (pn : List (Addr × Obj)), Zc cls d oe → (∃ vs, oe.data = .fields vs) → ∃ t : TS, PSs (X.suite a ((a, oe) :: pn)) b t ∧ t D σ H
theorem pss_any {X : Cx} {b : List Stmt} (a : Addr) (oe : Obj) (cls : Value) (d : Option Addr) (pn : List (Addr × Obj)) (hz : Zc cls d oe) (hf : ∃ vs, oe.data = .fields vs) : PSs (X.suite a ((a, oe) :: pn)) b (tAny X b a cls d) :=
  ⟨fun pins s σ H D I h => by
    obtain ⟨t, ht, hq⟩ := h oe pn hz hf
    exact ht.run pins s σ H D I hq⟩
theorem same_free {H H' : Hp} {p : Addr} (e : Same H H') (n : H' p = none) : H p = none := by
  cases h : H p with
  | none => rfl
  | some o => rw [e p o h] at n; cases n
theorem iteT' {A B : Prop} {b : Bool} (hb : b = true) (h : A) : if b = true then A else B := by rw [if_pos hb]; exact h
theorem iteF' {A B : Prop} {b : Bool} (hb : b = false) (h : B) : if b = true then A else B := by rw [if_neg (by rw [hb]; exact Bool.false_ne_true)]; exact h
/-! ### steps -/
section
variable {K : PySem.W.Frag} {H H' : Hp} {Q : VK} {σ : L2.St} {a : Addr} {cls : Value} {d : Option Addr}
theorem XdOk.same (h : XdOk d H) (e : Same H H') : XdOk d H' := fun dd q => by
  obtain ⟨fs, w⟩ := h dd q
  exact ⟨fs, e dd _ w⟩
theorem xdOk_at {dd : Addr} {fs : List (Str × V)} (h : H dd = some (.xd fs)) : XdOk (some dd) H := fun d' q => by
  cases q
  exact ⟨fs, h⟩
theorem xdOk_none : XdOk none H := fun d' q => by cases q
theorem w_isP {D C : Addr} {b : Bool} (hE : ExcC K D) (hk : PySem.W.kitOne K (.ref D) (.ref C) = some b) (hx : XdOk d H) (q : Q (.bl b) H) : rIsP K a (.ref D) d [.ref a, .ref C] H Q := ⟨D, .ref C, .ref C, b, rfl, hE, rfl, .own C, hk, hx, q⟩
theorem w_isPt {D : Addr} {n : String} {b : Bool} (hE : ExcC K D) (hk : PySem.W.kitOne K (.ref D) (.type n) = some b) (hx : XdOk d H) (q : Q (.bl b) H) : rIsP K a (.ref D) d [.ref a, .ty n] H Q := ⟨D, .ty n, .type n, b, rfl, hE, rfl, .ty n, hk, hx, q⟩
theorem w_isPT {D tp C1 C2 : Addr} {b : Bool} (hE : ExcC K D) (hT : H tp = some (.tup [.ref C1, .ref C2])) (hk : PySem.W.kitAny K (.ref D) [.ref C1, .ref C2] = some b) (hx : XdOk d H) (q : Q (.bl b) H) : rIsPT K a (.ref D) d [.ref a, .ref tp] H Q :=
  ⟨D, tp, _, _, b, rfl, hE, rfl, hT, .cons (.own C1) (.cons (.own C2) .nil), hk, hx, q⟩
theorem w_bmL {T : String} {r : V → List V → Hp → VK → Prop} {to : TE} {t : TA} (h : to σ H fun x H1 => tyV K T x H1 ∧ t σ H1 fun xs H2 => r x xs H2 Q) : tBM K T r to t σ H Q := h
theorem w_bm0 {T : String} {r : V → List V → Hp → VK → Prop} {to : TE} (h : to σ H fun x H1 => tyV K T x H1 ∧ r x [] H1 Q) : tBM0 K T r to σ H Q := h
theorem w_tyL {R : Prop} {xs : List V} (h : SqL K H a xs) (q : R) : tyV K "list" (.ref a) H ∧ R := ⟨.inl ⟨rfl, xs, h⟩, q⟩
theorem dpAll_bl : ∀ bs : List Bool, DpAll K H (bs.map V.bl) (bs.map PyData.bool)
  | [] => .nil
  | b :: r => .cons (.bl b) (dpAll_bl r)
theorem depth_bl : ∀ bs : List Bool, PyData.depthAll (bs.map PyData.bool) = 0
  | [] => rfl
  | b :: r => by simp [PyData.depthAll, PyData.depth, depth_bl r]
theorem lay_bl : ∀ bs : List Bool, PyData.canLayAll0 (bs.map PyData.bool) = true
  | [] => by simp [PyData.canLayAll0]
  | b :: r => by simp [PyData.canLayAll0, PyData.canLay0, lay_bl r]
theorem shaped_bl (bs : List Bool) : SeqAt.shaped (.list (bs.map PyData.bool)) = true := by
  simp [SeqAt.shaped, PyData.canLay0, lay_bl, PyData.depth, depth_bl]
theorem count_bl : ∀ bs : List Bool, (bs.map PyData.bool).countP (fun z => PyData.eqv z (.bool true)) = bs.count true
  | [] => rfl
  | b :: r => by
    rw [List.map_cons, List.countP_cons, List.count_cons, count_bl r]
    cases b <;> simp [PyData.eqv]
theorem w_countT {xs : List V} {n : Int} (bs : List Bool) (e : xs = bs.map V.bl) (h : SqL K H a xs) (hn : ((bs.count true : Nat) : Int) = n) (q : Q (.int n) H) : rCountD K (.ref a) [.bl true] H Q := by
  subst e
  refine ⟨a, .bl true, .bool true, bs.map PyData.bool, rfl, rfl, .lst h (dpAll_bl bs), .bl true, shaped_bl bs, by simp [SeqAt.shaped, PyData.canLay0, PyData.depth], ?_⟩
  rw [count_bl, hn]
  exact q
theorem w_indexT {xs : List V} {j : Nat} (bs : List Bool) (e : xs = bs.map V.bl) (h : SqL K H a xs) (hj : bs[j]? = some true) (hm : ∀ m, m < j → bs[m]? ≠ some true) (q : Q (.int j) H) : rIndexD K (.ref a) [.bl true] H Q := by
  subst e
  refine ⟨a, .bl true, .bool true, bs.map PyData.bool, j, .bool true, rfl, rfl, .lst h (dpAll_bl bs), .bl true, shaped_bl bs, by simp [SeqAt.shaped, PyData.canLay0, PyData.depth], by simp [hj], by simp [PyData.eqv], fun m z hlt hz => ?_, q⟩
  rw [List.getElem?_map] at hz
  cases eb : bs[m]? with
  | none => rw [eb] at hz; cases hz
  | some b =>
    rw [eb] at hz
    cases hz
    have := hm m hlt
    rw [eb] at this
    cases b <;> simp_all [PyData.eqv]
theorem w_cat {p1 p2 : Addr} {xs zs : List V} (h1 : H p1 = some (.lst xs)) (h2 : H p2 = some (.lst zs)) (hl : xs.length + zs.length ≤ sizeLine) (k : ∀ p H2, H p = none → Same H H2 → H2 p = some (.lst (xs ++ zs)) → Q (.ref p) H2) : rCat (.ref p1) (.ref p2) H Q :=
  ⟨p1, p2, xs, zs, rfl, rfl, h1, h2, hl, fun p n => k p _ n (same_new n) upd_same⟩
theorem w_callP {sp : SpP} {t : TA} (h : t σ H fun vs H1 => ∀ oe : Obj, Zc cls d oe → (∃ vs, oe.data = .fields vs) → sp (a, oe) vs H1 Q) : tCallP sp a cls d t σ H Q := h
theorem w_xfE {f : Str} {te : TE} (h : te σ H fun x H1 => ∃ (D dd : Addr) (fs : List (Str × V)) (v : V), x = .ref a ∧ cls = .ref D ∧ ExcC K D ∧ PySem.W.findIn K (.ref D) f = some none ∧ d = some dd ∧ H1 dd = some (.xd fs) ∧ fs.lookup f = some v ∧ Q v H1) : tXfc K a cls d f te σ H Q := h
theorem w_xf {D dd : Addr} {f : Str} {fs : List (Str × V)} {v : V} {R : V → Prop} (hE : ExcC K D) (no : PySem.W.findIn K (.ref D) f = some none) (hd : H dd = some (.xd fs)) (hl : fs.lookup f = some v) (q : R v) :
    ∃ (D' dd' : Addr) (fs : List (Str × V)) (v : V), V.ref a = .ref a ∧ Value.ref D = .ref D' ∧ ExcC K D' ∧ PySem.W.findIn K (.ref D') f = some none ∧ some dd = some dd' ∧ H dd' = some (.xd fs) ∧ fs.lookup f = some v ∧ R v := ⟨D, dd, fs, v, rfl, rfl, hE, no, rfl, hd, hl, q⟩
end
end Bw

namespace Bw
open PySem PySem.Spec PyProof.Rows L2
/-! ### loops and comprehensions over a known number of things -/
structure Fini (J : It) (n : Nat) (ok : Hp → Prop) (it : Nat → V → Hp → Hp → Prop) : Prop where
  go : ∀ i H, i < n → ok H → J.go i H
  yl : ∀ i H x H', i < n → ok H → J.yld i H x H' → it i x H H'
  st : ∀ H, ok H → J.stop n H
section
variable {K : PySem.W.Frag}
theorem fin_rng {lo : Int} {n : Nat} : Fini (Itr lo n) n (fun _ => True) (fun i x H H' => H' = H ∧ x = .int (lo + i)) := ⟨fun _ _ h _ => h, fun _ _ _ _ _ _ h => h, fun _ _ => Nat.le_refl _⟩
theorem fin_list {a : Addr} {xs : List V} : Fini (Itl K a) xs.length (fun H => SqL K H a xs) (fun i x H H' => H' = H ∧ xs[i]? = some x) :=
  ⟨fun i H h o => ⟨xs, xs[i], o, by simp [h]⟩, fun i H x H' h o y => ⟨y.1, y.2 xs o⟩, fun H o => ⟨xs, o, Nat.le_refl _⟩⟩
theorem fin_tup {a : Addr} {xs : List V} : Fini (Itt K a) xs.length (fun H => SqT K H a xs) (fun i x H H' => H' = H ∧ xs[i]? = some x) :=
  ⟨fun i H h o => ⟨xs, xs[i], o, by simp [h]⟩, fun i H x H' h o y => ⟨y.1, y.2 xs o⟩, fun H o => ⟨xs, o, Nat.le_refl _⟩⟩
theorem fin_str {x : Str} : Fini (Its x) x.cps.size (fun _ => True) (fun i v H H' => H' = H ∧ ∃ c, x.cps[i]? = some c ∧ v = .str ⟨#[c]⟩) := ⟨fun _ _ h _ => h, fun _ _ _ _ _ _ h => h, fun _ _ => Nat.le_refl _⟩
theorem fin_enum {a : Addr} {xs : List V} : Fini (Ite K a) xs.length (fun H => SqL K H a xs) (fun i v H H' => ∃ T x, v = .ref T ∧ H T = none ∧ Same H H' ∧ H' T = some (.tup [.int (i : Nat), x]) ∧ xs[i]? = some x) :=
  ⟨fun i H h o => ⟨xs, xs[i], o, by simp [h]⟩, fun i H v H' h o y => by
    obtain ⟨T, x, e, n, e', q⟩ := y
    subst e'
    exact ⟨T, x, e, n, same_new n, upd_same, q xs o⟩, fun H o => ⟨xs, o, Nat.le_refl _⟩⟩
/-- a for loop -/
theorem for_fin {J : It} {n : Nat} {ok : Hp → Prop} {it : Nat → V → Hp → Hp → Prop} {g : TG} {tb : TS} {D : Ends} {σ : L2.St} {H : Hp} (F : Fini J n ok it) (Pv : Nat → L2.St → Hp → Prop) (h0 : Pv 0 σ H) (hl : ∀ i σ H, i ≤ n → Pv i σ H → ok H)
    (hs : ∀ i x σ H H1, i < n → Pv i σ H → it i x H H1 → g x σ H1 fun σ2 H2 => tb { D with nx := Pv (i + 1), ct := Pv (i + 1), bk := D.nx } σ2 H2) (hd : ∀ σ H, Pv n σ H → D.nx σ H) :
    ∃ W : Nat → Nat → L2.St → Hp → Prop, (∃ m, W 0 m σ H) ∧ ∀ i m σ H, W i m σ H →
      (J.stop i H ∧ D.nx σ H) ∨ (J.go i H ∧ ∃ N : L2.St → Hp → Prop, (∀ σ' H', N σ' H' → ∃ m', m' < m ∧ W (i + 1) m' σ' H') ∧ ∀ x H', J.yld i H x H' → g x σ H' fun σ2 H2 => tb { D with nx := N, ct := N, bk := D.nx } σ2 H2) := by
  refine ⟨fun i m σ H => m = n - i ∧ i ≤ n ∧ Pv i σ H, ⟨n, by simp, Nat.zero_le _, h0⟩, ?_⟩
  rintro i m σ H ⟨rfl, hi, p⟩
  have o := hl i σ H hi p
  rcases Nat.lt_or_ge i n with hlt | hge
  · exact .inr ⟨F.go i H hlt o, Pv (i + 1), fun σ' H' p' => ⟨n - (i + 1), by omega, rfl, hlt, p'⟩, fun x H' y => hs i x σ H H' hlt p (F.yl i H x H' hlt o y)⟩
  · obtain rfl : i = n := Nat.le_antisymm hi hge
    exact .inl ⟨F.st H o, hd σ H p⟩
/-- the next turn of a comprehension -/
def NxI (D : Addr) (i : Nat) (Iv : Nat → List V → Hp → Prop) : Hp → Prop := fun H' => ∃ acc', acc'.length ≤ i + 1 ∧ H' D = some (.lst acc') ∧ Iv (i + 1) acc' H'
theorem take_succ {α : Type} {xs : Array α} {i : Nat} {c : α} (h : xs[i]? = some c) : xs.toList.take (i + 1) = xs.toList.take i ++ [c] := by
  rw [List.take_add_one]
  congr 1
  rw [Array.getElem?_toList, h]
  rfl
theorem take_succL {α : Type} {xs : List α} {i : Nat} {c : α} (h : xs[i]? = some c) : xs.take (i + 1) = xs.take i ++ [c] := by
  rw [List.take_add_one, h]
  rfl
theorem take_size {α : Type} {xs : Array α} : xs.toList.take xs.size = xs.toList := by
  rw [← Array.length_toList, List.take_length]
theorem w_acc {D : Addr} {i n : Nat} {Iv : Nat → List V → Hp → Prop} {acc : List V} {y : V} {H4 : Hp} (hD : H4 D = some (.lst acc)) (ha : acc.length ≤ i) (hi : i < n) (hn : n ≤ sizeLine) (k : ∀ H5, KB D H4 H5 → H5 D = some (.lst (acc ++ [y])) → Iv (i + 1) (acc ++ [y]) H5) :
    ∃ acc, H4 D = some (.lst acc) ∧ acc.length < sizeLine ∧ NxI D i Iv (upd H4 D (.lst (acc ++ [y]))) :=
  ⟨acc, hD, by omega, acc ++ [y], by rw [List.length_append]; simp; omega, upd_same, k _ kb_upd upd_same⟩
theorem w_skip {D : Addr} {i : Nat} {Iv : Nat → List V → Hp → Prop} {acc : List V} {H3 : Hp} (hD : H3 D = some (.lst acc)) (ha : acc.length ≤ i) (k : Iv (i + 1) acc H3) : NxI D i Iv H3 := ⟨acc, by omega, hD, k⟩
/-- a comprehension: Iv by the turn, what is gathered and the heap -/
theorem lc_fin {J : It} {n : Nat} {ok : Hp → Prop} {it : Nat → V → Hp → Hp → Prop} {g : TG} {tt : TT} {te : TE} {vs : List Nat} {σ : L2.St} {H1 : Hp} {Qd : Addr → Hp → Prop} (F : Fini J n ok it) (Iv : Nat → List V → Hp → Prop)
    (h0 : ∀ D H2, H1 D = none → Same H1 H2 → H2 D = some (.lst []) → Iv 0 [] H2) (hl : ∀ i acc H, i ≤ n → Iv i acc H → ok H)
    (hs : ∀ D i x acc H H', H1 D = none → i < n → acc.length ≤ i → Iv i acc H → H D = some (.lst acc) → it i x H H' → g x (wipe σ vs) H' fun σ2 H2 => wipe σ2 vs = wipe σ vs ∧ tt σ2 H2 fun b H3 =>
      if b = true then te σ2 H3 fun y H4 => ∃ acc, H4 D = some (.lst acc) ∧ acc.length < sizeLine ∧ NxI D i Iv (upd H4 D (.lst (acc ++ [y]))) else NxI D i Iv H3)
    (hd : ∀ D acc H, H1 D = none → Iv n acc H → acc.length ≤ n → H D = some (.lst acc) → Qd D H) :
    ∀ D, H1 D = none → ∃ W : Nat → Nat → Hp → Prop, (∃ m, W 0 m (upd H1 D (.lst []))) ∧ ∀ i m H, W i m H →
      (J.stop i H ∧ Qd D H) ∨ (J.go i H ∧ ∃ Nx : Hp → Prop, (∀ H', Nx H' → ∃ m', m' < m ∧ W (i + 1) m' H') ∧ ∀ x H', J.yld i H x H' → g x (wipe σ vs) H' fun σ2 H2 => wipe σ2 vs = wipe σ vs ∧ tt σ2 H2 fun b H3 =>
        if b = true then te σ2 H3 fun y H4 => ∃ acc, H4 D = some (.lst acc) ∧ acc.length < sizeLine ∧ Nx (upd H4 D (.lst (acc ++ [y]))) else Nx H3) := by
  intro D nD
  refine ⟨fun i m H => m = n - i ∧ i ≤ n ∧ ∃ acc, acc.length ≤ i ∧ H D = some (.lst acc) ∧ Iv i acc H, ⟨n, by simp, Nat.zero_le _, [], Nat.le_refl _, upd_same, h0 D _ nD (same_new nD) upd_same⟩, ?_⟩
  rintro i m H ⟨rfl, hi, acc, hacc, hD, p⟩
  have o := hl i acc H hi p
  rcases Nat.lt_or_ge i n with hlt | hge
  · exact .inr ⟨F.go i H hlt o, NxI D i Iv, fun H' p' => ⟨n - (i + 1), by omega, rfl, hlt, p'⟩, fun x H' y => hs D i x acc H H' nD hlt hacc p hD (F.yl i H x H' hlt o y)⟩
  · obtain rfl : i = n := Nat.le_antisymm hi hge
    exact .inl ⟨F.st H o, hd D acc H nD p hacc hD⟩
theorem w_lcE {wi : TI} {g : TG} {tt : TT} {te : TE} {vs : List Nat} {σ : L2.St} {H : Hp} {Q : VK} (h : wi σ H fun J H1 => ∀ D, H1 D = none → ∃ W : Nat → Nat → Hp → Prop, (∃ m, W 0 m (upd H1 D (.lst []))) ∧ ∀ i m H, W i m H →
  (J.stop i H ∧ Q (.ref D) H) ∨ (J.go i H ∧ ∃ Nx : Hp → Prop, (∀ H', Nx H' → ∃ m', m' < m ∧ W (i + 1) m' H') ∧ ∀ x H', J.yld i H x H' → g x (wipe σ vs) H' fun σ2 H2 => wipe σ2 vs = wipe σ vs ∧ tt σ2 H2 fun b H3 =>
    if b = true then te σ2 H3 fun y H4 => ∃ acc, H4 D = some (.lst acc) ∧ acc.length < sizeLine ∧ Nx (upd H4 D (.lst (acc ++ [y]))) else Nx H3)) : tLc wi g tt te vs σ H Q := h
theorem w_iStr {te : TE} {σ : L2.St} {H : Hp} {R : It → Hp → Prop} (h : te σ H fun v H1 => ∃ x, v = .str x ∧ R (Its x) H1) : iStr te σ H R := h
theorem w_strE {x : Str} {R : Str → Prop} (q : R x) : ∃ y, V.str x = .str y ∧ R y := ⟨x, rfl, q⟩
theorem w_iEnum {ta : TA} {σ : L2.St} {H : Hp} {R : It → Hp → Prop} (h : ta σ H fun vs H1 => ∃ a xs, vs = [.ref a] ∧ SqL K H1 a xs ∧ R (Ite K a) H1) : iEnum K ta σ H R := h
theorem w_enum {a : Addr} {xs : List V} {H : Hp} {R : Addr → Prop} (h : SqL K H a xs) (q : R a) : ∃ (a' : Addr) (xs : List V), [V.ref a] = [.ref a'] ∧ SqL K H a' xs ∧ R a' := ⟨a, xs, rfl, h, q⟩
theorem w_yes {σ : L2.St} {H : Hp} {QB : Bool → Hp → Prop} (q : QB true H) : tYes σ H QB := q
theorem w_inS {c : Nat} {z : Str} {H : Hp} {Q : VK} (q : Q (.bl (decide (c ∈ z.cps.toList))) H) : rInS (.str ⟨#[c]⟩) (.str z) H Q := ⟨c, z, rfl, rfl, q⟩
theorem w_all {bs : List Bool} {a : Addr} {xs : List V} {H : Hp} {Q : VK} (e : xs = bs.map V.bl) (h : SqL K H a xs) (q : Q (.bl (bs.all id)) H) : rAll K [.ref a] H Q := ⟨a, bs, rfl, e ▸ h, q⟩
theorem w_m1 {r : V → List V → Hp → VK → Prop} {to te : TE} {σ : L2.St} {H : Hp} {Q : VK} (h : to σ H fun x H1 => (∃ a, x = .str a) ∧ te σ H1 fun y H2 => r x [y] H2 Q) : tM1 r to te σ H Q := h
theorem w_m0 {r : V → List V → Hp → VK → Prop} {to : TE} {σ : L2.St} {H : Hp} {Q : VK} (h : to σ H fun x H1 => (∃ a, x = .str a) ∧ r x [] H1 Q) : tM0 r to σ H Q := h
theorem w_append {l : Addr} {xs : List V} {y : V} {H : Hp} {Q : VK} (h : H l = some (.lst xs)) (hl : xs.length < sizeLine) (k : ∀ H2, KB l H H2 → H2 l = some (.lst (xs ++ [y])) → Q .non H2) : rAppend (.ref l) [y] H Q := ⟨l, xs, y, rfl, rfl, h, hl, k _ kb_upd upd_same⟩
theorem txt_join (y : Str) (ps : List Str) : Txt.join y ps = Str.join y ps := beq_iff_eq.mp (PyProof.Rows.join_plain_closes y ps)
theorem w_sl {r : V → Option Int → Option Int → Hp → VK → Prop} {te : TE} {tl th : TO} {σ : L2.St} {H : Hp} {Q : VK} (h : te σ H fun x H1 => tl σ H1 fun l H2 => th σ H2 fun u H3 => r x l u H3 Q) : L2.tSl r te tl th σ H Q := h
theorem w_noPart {σ : L2.St} {H : Hp} {Q : Option Int → Hp → Prop} (q : Q none H) : tNoPart σ H Q := q
theorem w_part {te : TE} {σ : L2.St} {H : Hp} {Q : Option Int → Hp → Prop} (h : te σ H fun v H1 => ∃ i, v = .int i ∧ Q (some i) H1) : tPart te σ H Q := h
theorem w_intE {i : Int} {R : Int → Prop} (q : R i) : ∃ j, V.int i = .int j ∧ R j := ⟨i, rfl, q⟩
theorem w_slS {z : Str} {lo hi : Option Int} {H : Hp} {Q : VK} (hl : z.length ≤ sizeLine) (q : Q (.str (cutS z lo hi)) H) : rSlS (.str z) lo hi H Q := ⟨z, rfl, hl, q⟩
theorem w_slL {a : Addr} {xs : List V} {lo hi : Option Int} {H : Hp} {Q : VK} (h : SqL K H a xs) (k : ∀ p H2, H p = none → Same H H2 → H2 p = some (.lst (cutV xs lo hi)) → Q (.ref p) H2) : rSlL K (.ref a) lo hi H Q := ⟨a, xs, rfl, h, fun p n => k p _ n (same_new n) upd_same⟩
theorem w_addS {x y : Str} {H : Hp} {Q : VK} (hl : x.length + y.length ≤ sizeLine) (q : Q (.str (x ++ y)) H) : rAddS (.str x) (.str y) H Q := ⟨x, y, rfl, rfl, hl, q⟩
theorem w_isS {x : Str} {R : Prop} (q : R) : (∃ a, V.str x = .str a) ∧ R := ⟨⟨x, rfl⟩, q⟩
theorem w_split {x y : Str} {H : Hp} {Q : VK} (hy : (y.length == 0) = false) (hl : x.length + 2 ≤ sizeLine) (k : ∀ p H2, H p = none → Same H H2 → H2 p = some (.lst ((Txt.split x y).map V.str)) → Q (.ref p) H2) :
    ∃ a b, V.str x = .str a ∧ [V.str y] = [.str b] ∧ (b.length == 0) = false ∧ a.length + 2 ≤ sizeLine ∧ rNewStrs (Txt.split a b) H Q := ⟨x, y, rfl, rfl, hy, hl, fun p n => k p _ n (same_new n) upd_same⟩
theorem w_join {x : Str} {p : Addr} {ys : List Str} {zs : List V} {H : Hp} {Q : VK} (e : zs = ys.map V.str) (h : SqL K H p zs) (hl : (ys.map (·.length)).sum + ys.length * x.length ≤ 16777216) (q : Q (.str (Txt.join x ys)) H) :
    ∃ a p', ∃ ys : List Str, V.str x = .str a ∧ [V.ref p] = [.ref p'] ∧ (SqL K H p' (ys.map V.str) ∨ SqT K H p' (ys.map V.str)) ∧ (ys.map (·.length)).sum + ys.length * a.length ≤ 16777216 ∧ Q (.str (Txt.join a ys)) H := ⟨x, p, ys, rfl, rfl, .inl (e ▸ h), hl, q⟩
/-! ### pieces of a text -/
theorem le_sum {x : Nat} : ∀ {l : List Nat}, x ∈ l → x ≤ l.sum
  | y :: r, h => by
    rcases List.mem_cons.mp h with rfl | h
    · simp
    · have := le_sum h
      simp
      omega
end
end Bw

namespace Bw
open PySem PySem.Spec PyProof.Rows L2 LamX
/-- a def whose code object is known -/
structure FunC (K : PySem.W.Frag) (x qual : Str) (st : Stmt) (f : Addr) (fd : FuncData) (c : Addr) : Prop where
  ex : ∃ (oc : Value) (od : Option Addr) (kV doc pm : Value) (an : Option Addr) (ct : Value) (osl : Array (Option Value)),
    fd = PySem.W.fnOf x qual (defArgs st) (defBody st) (defScope st) .none kV doc pm an (.ref c) ct ∧ K.lookup f = some ⟨oc, od, .func fd, osl⟩ ∧ PySem.W.codeIn K (.ref c) qual = true
  kp : PySem.W.keepIn K (.ref f) = true
section
variable {P : Program} {w : World} {K : PySem.W.Frag} {mg : Str → Option Value} {base : Heap}
theorem FunC.ok {x qual : Str} {st : Stmt} {f c : Addr} {fd : FuncData} {N ps : List Str} {k : Nat} {sp : Sp} (F : FunC K x qual st f fd c) (S : FnScope N ps (defScope st)) (len : ∀ vs H Q E, sp vs H Q E → vs.length = ps.length)
    (hbody : ∀ (A : Around) (outer : List Env) (s : Shared) (H : Hp) (vs : List V) (Q : VK) (E : XK), Room k (A.deeper (envOfC qual (defScope st) s.heap.objs.size f (.ref c))) → sp vs H Q E →
      ∃ t, PSs (cxOf CX0 P w K mg base N qual (defScope st) f (.ref c) A outer s H E).nox (defBody st) t ∧ t { nx := fun _ H' => Q .non H', rt := Q } (L2.start N vs) H) : FnOk P w K mg base CX0 (k + 1) f fd ps sp := by
  obtain ⟨oc, od, kV, doc, pm, an, ct, osl, rfl, lk, hcd⟩ := F.ex
  refine fn_of lk hcd S len fun A outer s H vs Q E hr hsp => ?_
  obtain ⟨t, h, q⟩ := hbody A outer s H vs Q E hr hsp
  exact ⟨t, h.nox, q⟩
theorem FunC.fun_ {x qual : Str} {st : Stmt} {f c : Addr} {fd : FuncData} (F : FunC K x qual st f fd c) : Fun K x qual st f fd := by
  obtain ⟨oc, od, kV, doc, pm, an, ct, osl, e, lk, hcd⟩ := F.ex
  exact ⟨⟨oc, od, kV, doc, pm, an, .ref c, ct, osl, e, lk, hcd⟩, F.kp⟩
theorem funC_mk {x qual : Str} {st : Stmt} {f c : Addr} {oc : Value} {od an : Option Addr} {osl : Array (Option Value)} {kV doc pm ct : Value} (l : K.lookup f = some ⟨oc, od, .func (PySem.W.fnOf x qual (defArgs st) (defBody st) (defScope st) .none kV doc pm an (.ref c) ct), osl⟩)
    (hc : PySem.W.codeIn K (.ref c) qual = true) (k : PySem.W.keepIn K (.ref f) = true) : FunC K x qual st f (PySem.W.fnOf x qual (defArgs st) (defBody st) (defScope st) .none kV doc pm an (.ref c) ct) c := ⟨⟨oc, od, kV, doc, pm, an, ct, osl, rfl, l, hc⟩, k⟩
/-- the def x is handed a lambda without parameters, and calls it -/
structure Asks (P : Program) (w : World) (K : PySem.W.Frag) (mg : Str → Option Value) (base : Heap) (x a : Str) (N : List Str) (st : Stmt) (k : Nat) (TT : (XK → Hp → VK → Prop) → Hp → VK → Prop) : Prop where
  ex : ∃ (g : Addr) (fd : FuncData), Fun K x x st g fd ∧ mg x = some (.ref g) ∧ Binds K fd [a] []
  sc : FnScope N [a] (defScope st)
  n0 : N[0]? = some a
  va : Vis (defScope st) a
  gives : ∀ X : Cx, X.prog = P → X.w = w → X.K = K → X.mg = mg → X.base = base → Room k X.A → ∀ (g : Addr) (cdg : Value) (q : Str), GivesTo X N x (defScope st) g cdg (defBody st) a q TT
end
abbrev lamN (x : Str) : Str := (x ++ ".<locals>.") ++ "<lambda>"
theorem pe_asks {X : Cx} {x a : Str} {N : List Str} {st : Stmt} {k j : Nat} {TT : (XK → Hp → VK → Prop) → Hp → VK → Prop} {T : List (Addr × Str)} {c P : Addr} {params : Arguments} {body : Expr} {scope : Scope} {t : XK → TE} {p lpos pos : Pos}
    (A : Asks X.prog X.w X.K X.mg X.base x a N st k TT) (hg : Gl X x) (TB : TabB X.base X.mg c P) (hcode : X.env.code = .ref c) {ql : Str} (hql : X.env.qual = ql) (hmT : (P, ql ++ "<lambda>") ∈ T) (hu : ∀ p ∈ T, p.1 = P → p.2 = ql ++ "<lambda>") (hr1 : Room k X.A) (hr : Room (j + 2) X.A) (L : lamSB X.env.scope scope = true) (hdef : defaultsOf params X.env = ([], []))
    (hbind : ∀ (q : Str) (cl : List (Str × Addr)) (pm cv ctv : Value), bindArgs (PySem.W.kla_fn "<lambda>" q params body scope cl pm cv ctv) ⟨[], []⟩ = pure [])
    (hbody : ∀ (A : Around) (outer : List Env) (s : Shared) (H : Hp) (E : XK) (f c' : Addr), Room j (A.deeper (lamEnv X scope s.heap.objs.size f c')) → PE (lamCx X A outer s H E scope f c') body (t E))
    (hdb : (x == ("__debug__" : Str)) = false := by decide) (hd : (a == ("__debug__" : Str)) = false := by decide) (hcd : (a == ("__classdict__" : Str)) = false := by decide) :
    PE X (.Call (.Name x p) [.Lambda params body scope lpos] [] pos) (tLam T TT t) := by
  subst hql
  obtain ⟨g, fd, F, hm, hb⟩ := A.ex
  have kp := F.kp
  obtain ⟨oc, od, kV, doc, pm, an, cdv, ct, osl, rfl, lk, hcd'⟩ := F.ex
  exact pe_lamcall hg hm kp lk hcd' hb A.sc A.n0 A.va (A.gives X rfl rfl rfl rfl rfl hr1 g cdv _) TB hcode hmT hu hr (lamS_by L) hdef hbind hbody hdb hd hcd
/-! ### steps -/
section
variable {H H' H1 : Hp} {σ : L2.St} {Q : VK} {K : PySem.W.Frag}
theorem w_lam {T : List (Addr × Str)} {TT : (XK → Hp → VK → Prop) → Hp → VK → Prop} {t : XK → TE} (hT : Tabs T H) (h : ∀ H1, ExtN H H1 → Tabs T H1 → TT (fun E H' Q' => t E σ H' Q') H1 Q) : tLam T TT t σ H Q := ⟨hT, h⟩
theorem w_how {Z : Zs} {tl : XK → Hp → VK → Prop} (h : tl (howE K Z Q) H (fun _ H' => Q (.str "told") H')) : TTHow K Z tl H Q := h
theorem extn_at {a : Addr} {o : HO} (e : ExtN H H') (h : H a = some o) (n : ∀ ps, o ≠ .tbl ps) : H' a = some o := e a o h n
theorem extn_same (e : Same H H') : ExtN H H' := fun b o h _ => e b o h
theorem extn_seq {a : Addr} {xs : List V} (e : ExtN H H') (h : SqL K H a xs) : SqL K H' a xs := by
  rcases h with (h | ⟨o, h⟩) | h
  · exact .inl (.inl (e _ _ h (fun _ z => by cases z)))
  · exact .inl (.inr ⟨o, e _ _ h (fun _ z => by cases z)⟩)
  · exact .inr h
theorem extn_tup {a : Addr} {xs : List V} (e : ExtN H H') (h : SqT K H a xs) : SqT K H' a xs := by
  rcases h with (h | ⟨o, h⟩) | h
  · exact .inl (.inl (e _ _ h (fun _ z => by cases z)))
  · exact .inl (.inr ⟨o, e _ _ h (fun _ z => by cases z)⟩)
  · exact .inr h
mutual
theorem Dp.extn (e : ExtN H H') : ∀ {v : V} {d : PyData}, Dp K H v d → Dp K H' v d
  | _, _, .non => .non
  | _, _, .bl b => .bl b
  | _, _, .int i => .int i
  | _, _, .str x => .str x
  | _, _, .lst h r => .lst (extn_seq e h) (DpAll.extn e r)
  | _, _, .tup h r => .tup (extn_tup e h) (DpAll.extn e r)
theorem DpAll.extn (e : ExtN H H') : ∀ {vs : List V} {ds : List PyData}, DpAll K H vs ds → DpAll K H' vs ds
  | _, _, .nil => .nil
  | _, _, .cons h r => .cons (Dp.extn e h) (DpAll.extn e r)
end
/-- two heaps, the tables may have grown -/
structure Grown (T : List (Addr × Str)) (H H' : Hp) : Prop where
  e : ExtN H H'
  t : Tabs T H'
theorem Grown.trans {T : List (Addr × Str)} (a : Grown T H H1) (b : Grown T H1 H') : Grown T H H' := ⟨a.e.trans b.e, b.t⟩
theorem Grown.same {T : List (Addr × Str)} (a : Grown T H H1) (b : Same H1 H') : Grown T H H' := ⟨a.e.trans (extn_same b), a.t.ext b⟩
theorem Grown.of {T : List (Addr × Str)} (t : Tabs T H) (b : Same H H') : Grown T H H' := ⟨extn_same b, t.ext b⟩
theorem tabs_kb {T : List (Addr × Str)} {p : Addr} {xs : List V} (t : Tabs T H) (hp : H p = some (.lst xs)) (e : KB p H H') : Tabs T H' := by
  intro x hx
  obtain ⟨ps, h1, h2, h3⟩ := t x hx
  have ne : ∀ {b o}, H b = some o → (o ≠ .lst xs) → b ≠ p := fun {b o} hb no z => no (Option.some.inj (hb.symm.trans (z ▸ hp)))
  refine ⟨ps, e _ _ h1 (ne h1 (fun z => by cases z)), h2, fun pos cv hc => ?_⟩
  obtain ⟨c, e1, e2⟩ := h3 pos cv hc
  exact ⟨c, e1, e _ _ e2 (ne e2 (fun z => by unfold CodeO at z; cases z))⟩
end
/-! ### things that are no texts -/
inductive Odd (H : Hp) : V → Prop
  | non : Odd H .non
  | int (i : Int) : Odd H (.int i)
  | bl (b : Bool) : Odd H (.bl b)
  | lst {a : Addr} {xs : List V} : H a = some (.lst xs) → Odd H (.ref a)
  | tup {a : Addr} {xs : List V} : H a = some (.tup xs) → Odd H (.ref a)
theorem kit_non_str : kitB "NoneType" "str" = some false := by decide +kernel
theorem kit_lst_str : kitB "list" "str" = some false := by decide +kernel
theorem kit_tup_str : kitB "tuple" "str" = some false := by decide +kernel
theorem Odd.ty {K : PySem.W.Frag} {H : Hp} {v : V} (h : Odd H v) : (∀ x, v ≠ .str x) ∧ ∃ tv, TyX K H v (.type tv) ∧ kitB tv "str" = some false := by
  cases h with
  | non => exact ⟨fun x z => (by cases z), _, tyx_non, kit_non_str⟩
  | int i => exact ⟨fun x z => (by cases z), _, tyx_int, kit_int_str⟩
  | bl b => exact ⟨fun x z => (by cases z), _, tyx_bl, kit_bool_str⟩
  | lst e => exact ⟨fun x z => (by cases z), _, tyx_lst e, kit_lst_str⟩
  | tup e => exact ⟨fun x z => (by cases z), _, tyx_tup e, kit_tup_str⟩
theorem Odd.ext {H H' : Hp} {v : V} (h : Odd H v) (e : ExtN H H') : Odd H' v := by
  cases h with
  | non => exact .non
  | int i => exact .int i
  | bl b => exact .bl b
  | lst q => exact .lst (e _ _ q (fun _ z => by cases z))
  | tup q => exact .tup (e _ _ q (fun _ z => by cases z))
/-- a text, or no text -/
def TxtV (H : Hp) (v : V) : Prop := (∃ x : Str, v = .str x ∧ x.length ≤ 100000) ∨ Odd H v
theorem TxtV.ext {H H' : Hp} {v : V} (h : TxtV H v) (e : ExtN H H') : TxtV H' v := h.imp id fun q => q.ext e
theorem TxtV.same {H H' : Hp} {v : V} (h : TxtV H v) (e : Same H H') : TxtV H' v := h.ext (extn_same e)
/-! ### lists of texts -/
section
variable {K : PySem.W.Frag} {H : Hp}
theorem dpAll_str : ∀ bs : List Str, DpAll K H (bs.map V.str) (bs.map PyData.str)
  | [] => .nil
  | b :: r => .cons (.str b) (dpAll_str r)
theorem depth_str : ∀ bs : List Str, PyData.depthAll (bs.map PyData.str) = 0
  | [] => rfl
  | b :: r => by simp [PyData.depthAll, PyData.depth, depth_str r]
theorem lay_str : ∀ {bs : List Str}, (∀ b ∈ bs, PyData.strOk b = true) → PyData.canLayAll0 (bs.map PyData.str) = true
  | [], _ => by simp [PyData.canLayAll0]
  | b :: r, h => by simp [PyData.canLayAll0, PyData.canLay0, h b List.mem_cons_self, lay_str (fun x hx => h x (List.mem_cons_of_mem _ hx))]
theorem shaped_str {bs : List Str} (h : ∀ b ∈ bs, PyData.strOk b = true) : SeqAt.shaped (.list (bs.map PyData.str)) = true := by
  simp [SeqAt.shaped, PyData.canLay0, lay_str h, PyData.depth, depth_str]
theorem eqvAll_str : ∀ bs cs : List Str, PyData.eqvAll (bs.map PyData.str) (cs.map PyData.str) = decide (bs = cs)
  | [], [] => by simp [PyData.eqvAll]
  | [], c :: s => by simp [PyData.eqvAll]
  | b :: r, [] => by simp [PyData.eqvAll]
  | b :: r, c :: s => by
    simp only [List.map_cons, PyData.eqvAll, PyData.eqv, eqvAll_str r s, List.cons.injEq]
    by_cases h1 : b = c <;> by_cases h2 : r = s <;> simp [h1, h2]
theorem eqv_strs (bs cs : List Str) : PyData.eqv (.list (bs.map PyData.str)) (.list (cs.map PyData.str)) = decide (bs = cs) := by
  simp only [PyData.eqv, eqvAll_str]
end
end Bw

/-! Starred targets: a, *b = e for a tuple or a list e. -/
namespace Bw
open PySem PySem.Spec L2
section
variable {prog : Program} {w : World} {A : Around} {E : Value → Shared → Prop} {I : Addr} {fp wr : List Addr} {G : Array GenState → Array GenState → Prop} {n : Nat} {P : Nat → Value → Prop} {St : Nat → Shared → Prop}
theorem moved_refl (hg : ∀ a, G a a) (s : Shared) : Moved wr G s s := Moved.refl hg
theorem moved_trans (ht : ∀ a b c, G a b → G b c → G a c) {s s' s'' : Shared} (x : Moved wr G s s') (y : Moved wr G s' s'') : Moved wr G s s'' :=
  ⟨fun b o hb e => y.heap b o hb (x.heap b o hb e), ht _ _ _ x.gens y.gens, y.drawn.trans x.drawn, y.os.trans x.os, Nat.le_trans x.toks y.toks⟩
theorem draw_S (W : WalksS prog w A I fp wr G n P St) : ∀ (m i : Nat) (s : Shared) (Q : List Value → Shared → Prop), St i s → i + m ≤ n →
    (∀ s' vs, Moved wr G s s' → St (i + m) s' → vs.length = m → (∀ j v, vs[j]? = some v → P (i + j) v) → Q vs s') → wpAny (model prog w) A (draw (.ref I) m) Q E s
  | 0, i, s, Q, st, _, hQ => by
    show wpAny _ _ (pure []) Q E s
    exact wpAny_pure (hQ s [] (moved_refl W.grefl s) st rfl fun j v h => by simp at h)
  | m + 1, i, s, Q, st, hle, hQ => by
    show wpAny _ _ (pyNext (.ref I) >>= _) Q E s
    refine wpAny_bind (W.item i s _ _ (by omega) st fun v s1 hP st1 mv => ?_)
    refine wpAny_bind (wpAny_holding (draw_S W m (i + 1) s1 _ st1 (by omega) fun s2 vs mv2 st2 hl hv => wpAny_pure ?_))
    refine hQ s2 (v :: vs) (moved_trans W.gtrans mv mv2) (by rw [show i + (m + 1) = i + 1 + m by omega]; exact st2) (by simp [hl]) fun j u h => ?_
    cases j with
    | zero =>
      simp at h
      subst h
      exact hP
    | succ j =>
      have := hv j u (by simpa using h)
      rw [show i + (j + 1) = i + 1 + j by omega]
      exact this
theorem shift_S (W : WalksS prog w A I fp wr G n P St) (k : Nat) (hk : k ≤ n) : WalksS prog w A I fp wr G (n - k) (fun i => P (k + i)) (fun i s => St (k + i) s) where
  sub := W.sub
  grefl := W.grefl
  gtrans := W.gtrans
  frame := fun i s h' tk st ht hb => W.frame (k + i) s h' tk st ht hb
  item := fun i s Q E hi st hQ => W.item (k + i) s Q E (by omega) st fun v s' hP st' mv => hQ v s' hP st' mv
  done := fun s Q E st hQ => W.done s Q E (by rw [show k + (n - k) = n by omega] at st; exact st) hQ
  self := fun i s Q E st hQ => W.self (k + i) s Q E st hQ
/-- the items, the starred ones as a new list at the heap's end -/
theorem star_S {v : Value} {s s0 : Shared} {T : String} {k after : Nat} {Q : List Value → Shared → Prop} (hTm : T = "list_iterator" ∨ T = "tuple_iterator")
    (W : WalksS prog w A.in1 I fp wr G n P St) (hT : ∀ i s, St i s → s.TypeIs (.ref I) T) (hn : n ≤ sizeLine) (hk : k + after ≤ n) (hI : I ∈ fp) (hfp : ∀ i s, St i s → ∀ b ∈ fp, b < s.heap.objs.size) (st0 : St 0 s0)
    (hit : ∀ (Q : Bool → Shared → Prop), Q false s → wpAny (model prog w) A (notIterableAtAll v) Q E s)
    (hiter : ∀ (Q : Value → Shared → Prop), Q (.ref I) s0 → wpAny (model prog w) A (pyIter v) Q E s)
    (hQ : ∀ (s' : Shared) (first rest : List Value), Moved wr G s0 s' → first.length = k → (∀ j u, first[j]? = some u → P j u) → rest.length = n - k → (∀ j u, rest[j]? = some u → P (k + j) u) →
      wpAny (model prog w) A (newList (rest.take (rest.length - after))) (fun l s'' => Q (first ++ [l] ++ rest.drop (rest.length - after)) s'') E s') :
    wpAny (model prog w) A (unpackItems v (k + 1 + after) (some k)) Q E s := by
  have W' : WalksS prog w A I fp wr G n P St := WalksS.of_in1 W
  unfold unpackItems
  refine wpAny_bind (hit _ ?_)
  simp only [Bool.false_eq_true, if_false]
  refine wpAny_bind (wpAny_holding (hiter _ ?_))
  refine wpAny_bind (wpAny_holding (draw_S W' k 0 s0 _ st0 (by omega) fun s1 first mv1 st1 hl1 hv1 => ?_))
  rw [if_neg (by omega)]
  rw [Nat.zero_add] at st1
  refine wpAny_bind (wpAny_holding (wpAny_collect_iter (T := T) (by rcases hTm with h | h <;> simp [h]) (shift_S W k (by omega)) (fun i s st => hT (k + i) s st) (by simpa using st1) (hfp k s1 st1) hI (fun s2 acc mv2 hacc => ?_) (by omega)))
  have hal : acc.toList.length = n - k := by rw [Array.length_toList]; exact hacc.1
  rw [show k + 1 + after - 1 - k = after by omega]
  rw [if_neg (by omega)]
  refine wpAny_bind ?_
  refine wpAny_mono (hQ s2 first acc.toList (moved_trans W.gtrans mv1 mv2) hl1 (fun j u h => by simpa using hv1 j u h) hal fun j u h => ?_) (fun l s3 q => wpAny_pure q) fun _ _ h => h
  exact hacc.2 j u (by simpa using h)
end
/-! ### over the layer -/
/-- a, .., *b, .., c = e: k ahead, after behind the star -/
def gStar (K : PySem.W.Frag) (k after : Nat) (t : TGs) : TG := fun v σ H Q => ∃ a xs, v = .ref a ∧ (SqT K H a xs ∨ SqL K H a xs) ∧ k + after ≤ xs.length ∧
  ∀ p, H p = none → t (xs.take k ++ [.ref p] ++ (xs.drop k).drop (xs.length - k - after)) σ (upd H p (.lst ((xs.drop k).take (xs.length - k - after)))) Q
section
variable {X : Cx} {pos : Pos}
theorem pgs_star {e : Expr} {es : List Expr} {t : TG} {u : TGs} {p : Pos} (h1 : PG X e t) (h2 : PGs X es u)
    (hs : (assignEach (.Starred e p :: es) X.env).map (·.2) = assign e X.env :: (assignEach es X.env).map (·.2) := by rfl) : PGs X (.Starred e p :: es) (gCons t u) := by
  refine ⟨fun pins s σ H vs us Q I r h => ?_⟩
  obtain ⟨v, vr, e1, h⟩ := h
  subst e1
  cases r with
  | cons r rr =>
    rw [hs]
    refine PyProof.Rows.assignInOrder_cons (thn (h1.run pins s σ H _ _ _ I r h) fun _ s1 ⟨σ1, H1, I1, q1⟩ => ?_)
    exact h2.run pins s1 σ1 H1 _ _ Q I1 rr q1
theorem pg_star {es : List Expr} {ky : Nat} {t : TGs} {k after : Nat} (hc : X.calm = true) (h : PGs X es t)
    (hn : (assignEach es X.env).length = k + 1 + after := by rfl) (hst : (assignEach es X.env).findIdx? (·.1) = some k := by rfl) : PG X (.Tuple es ky pos) (gStar X.K k after t) := by
  refine ⟨fun pins s σ H v u Q I r hw => ?_⟩
  obtain ⟨a, xs, e1, hq, hl, hw⟩ := hw
  subst e1
  obtain rfl : u = Value.ref a := r
  rw [PyProof.Rows.assign_Tuple]
  refine wpAny_bind (wpAny_standAt ?_)
  unfold unpack
  rw [hn, hst]
  have hh : X.A.handled = none := I.ok.hd hc
  have fin : ∀ (its : List Value) (s' : Shared) (first rest : List Value), Vals xs its → xs.length ≤ sizeLine → (∀ b o, s.heap.get? b = some o → s'.heap.get? b = some o) → s'.gens = s.gens → s'.drawn = s.drawn → s'.os = s.os → first.length = k → (∀ (j : Nat) u, first[j]? = some u → its[j]? = some u) → rest.length = its.length - k → (∀ (j : Nat) u, rest[j]? = some u → its[k + j]? = some u) →
      wpAny (model X.prog X.w) X.A (newList (rest.take (rest.length - after))) (fun l s'' => wpAny (model X.prog X.w) X.A (assignInOrder ((assignEach es X.env).map (·.2)) (first ++ [l] ++ rest.drop (rest.length - after))) (fun _ s' => ∃ σ' H', Inv X pins σ' H' s' ∧ Q σ' H') X.xe s'') X.xe s' := by
    intro its s' first rest rv z kp e1 e2 e3 l1 g1 l2 g2
    have lx := rv.length
    have hr : rest = its.drop k := by
      apply List.ext_getElem?
      intro j
      rw [List.getElem?_drop]
      cases e : rest[j]? with
      | some u => exact (g2 j u e).symm
      | none =>
        have := List.getElem?_eq_none_iff.mp e
        exact (List.getElem?_eq_none_iff.mpr (by omega)).symm
    have hf : first = its.take k := by
      apply List.ext_getElem?
      intro j
      cases e : first[j]? with
      | some u =>
        have hj := (List.getElem?_eq_some_iff.mp e).1
        rw [List.getElem?_take, if_pos (by omega)]
        exact (g1 j u e).symm
      | none =>
        have := List.getElem?_eq_none_iff.mp e
        exact (List.getElem?_eq_none_iff.mpr (by rw [List.length_take]; omega)).symm
    subst hr hf
    have I1 : Inv X pins σ H { s with heap := s'.heap, toks := s'.toks } := I.kept (t' := s'.toks) kp
    have es' : { s with heap := s'.heap, toks := s'.toks } = s' := by
      cases s'
      simp_all
    rw [es'] at I1
    have hfr : H s'.heap.objs.size = none := I1.hok.fresh (Nat.le_refl _)
    have r1 : Vals ((xs.drop k).take (xs.length - k - after)) ((its.drop k).take ((its.drop k).length - after)) := by
      rw [List.length_drop, ← lx]
      exact (rv.drop k).take _
    have z1 : ((xs.drop k).take (xs.length - k - after)).length ≤ sizeLine := by
      rw [List.length_take, List.length_drop]
      omega
    refine wpAny_newObj_type ?_ (by
      show (_ : Nat) ≤ _
      rw [List.size_toArray, ← r1.length]
      exact z1)
    have I2 : Inv X pins σ (upd H s'.heap.objs.size (.lst ((xs.drop k).take (xs.length - k - after)))) { s' with heap := s'.heap.push { cls := .type "list", dict := none, data := .seq ((its.drop k).take ((its.drop k).length - after)).toArray } } :=
      I1.laid (t' := s'.toks) (fun b u e => Heap.get?_push_of_some _ e) (Nat.le_refl _) ⟨z1, _, 0, r1, Heap.get?_push_size _ rfl⟩
    refine h.run pins _ σ _ _ _ Q I2 ?_ (hw _ hfr)
    have r2 : Vals ((xs.drop k).drop (xs.length - k - after)) ((its.drop k).drop ((its.drop k).length - after)) := by
      rw [List.length_drop, ← lx]
      exact (rv.drop k).drop _
    exact Vals.append (Vals.append (rv.take k) (.cons rfl .nil)) r2
  rcases hq with hq | hq
  · obtain ⟨its, rv, ht, hz⟩ := I.tuple hq
    have lx := rv.length
    have hlt : a ≠ s.heap.objs.size := by obtain ⟨o, ho, _⟩ := ht; exact Nat.ne_of_lt (Heap.lt_size ho)
    refine wpAny_bind (wpAny_holding (star_S (T := "tuple_iterator") (n := its.toArray.size) (P := fun i v => its.toArray[i]? = some v) (s0 := { s with heap := s.heap.push { cls := .type "tuple_iterator", data := .fields #[.ref a, .int 0 0] } })
      (.inr rfl) (Walks.toS (Walks.tuple (A := X.A.in1) hh s.heap.objs.size a hlt its.toArray)) (fun i s st => ?_) (by simp; omega) (by simp; omega) (by simp) (fun i s st b hb => ?_) ?_ (fun Q q => ?_) (fun Q q => ?_) (fun s' first rest mv l1 g1 l2 g2 => ?_)))
    · obtain ⟨o, ho, hcl, _⟩ := st.1
      exact ⟨o, ho, hcl⟩
    · simp at hb
      rcases hb with rfl | rfl
      · obtain ⟨o, ho, _⟩ := st.1
        exact Heap.lt_size ho
      · obtain ⟨o, ho, _⟩ := st.2
        exact Heap.lt_size ho
    · exact ⟨⟨_, Heap.get?_push_size _ rfl, rfl, rfl⟩, ht.push _⟩
    · unfold notIterableAtAll
      exact wpAny_bind (wpAny_specialOf ht.typeIs PyProof.Rows.slot_tuple_iter.lookup (wpAny_pure q))
    · exact wpAny_pyIter_tuple ht q
    · refine fin its s' first rest rv hz (fun b o e => mv.heap b o ?_ (Heap.get?_push_of_some _ e)) mv.gens mv.drawn mv.os l1 (fun j u e => by simpa using g1 j u e) (by simpa using l2) (fun j u e => by simpa using g2 j u e)
      simp
      exact Nat.ne_of_lt (Heap.lt_size e)
  · obtain ⟨its, rv, ht, hz⟩ := I.list hq
    have ht : s.heap.IsList a its.toArray := by
      obtain ⟨o, n, h1, h2, h3, h4⟩ := ht
      exact ⟨o, h1, h2, n, h4⟩
    have lx := rv.length
    have hlt : a ≠ s.heap.objs.size := by obtain ⟨o, ho, _⟩ := ht; exact Nat.ne_of_lt (Heap.lt_size ho)
    refine wpAny_bind (wpAny_holding (star_S (T := "list_iterator") (n := its.toArray.size) (P := fun i v => its.toArray[i]? = some v) (s0 := { s with heap := s.heap.push { cls := .type "list_iterator", data := .fields #[.ref a, .int 0 0] } })
      (.inl rfl) (Walks.toS (Walks.list (A := X.A.in1) hh s.heap.objs.size a hlt its.toArray)) (fun i s st => ?_) (by simp; omega) (by simp; omega) (by simp) (fun i s st b hb => ?_) ?_ (fun Q q => ?_) (fun Q q => ?_) (fun s' first rest mv l1 g1 l2 g2 => ?_)))
    · obtain ⟨o, ho, hcl, _⟩ := st.1
      exact ⟨o, ho, hcl⟩
    · simp at hb
      rcases hb with rfl | rfl
      · obtain ⟨o, ho, _⟩ := st.1
        exact Heap.lt_size ho
      · obtain ⟨o, ho, _⟩ := st.2
        exact Heap.lt_size ho
    · exact ⟨⟨_, Heap.get?_push_size _ rfl, rfl, rfl⟩, ht.push _⟩
    · unfold notIterableAtAll
      exact wpAny_bind (wpAny_specialOf ht.typeIs slot_list_iter.lookup (wpAny_pure q))
    · exact wpAny_pyIter_list ht q
    · refine fin its s' first rest rv hz (fun b o e => mv.heap b o ?_ (Heap.get?_push_of_some _ e)) mv.gens mv.drawn mv.os l1 (fun j u e => by simpa using g1 j u e) (by simpa using l2) (fun j u e => by simpa using g2 j u e)
      simp
      exact Nat.ne_of_lt (Heap.lt_size e)
end
end Bw

namespace Bw
open PySem PySem.Spec PyProof.Rows L2 LamX
/-! list(x), tuple(x), xs.insert -/
section
variable {X : Cx}
def rListOf (K : PySem.W.Frag) : List V → Hp → VK → Prop := fun xs H Q => ∃ p ys, xs = [.ref p] ∧ (SqL K H p ys ∨ SqT K H p ys) ∧ ∀ l, H l = none → Q (.ref l) (upd H l (.lst ys))
theorem cl_list : CallR X (.type "list") (rListOf X.K) := call_list_of
def rTupOf (K : PySem.W.Frag) : List V → Hp → VK → Prop := fun xs H Q => ∃ p ys, xs = [.ref p] ∧ ((SqL K H p ys ∧ ∀ l, H l = none → Q (.ref l) (upd H l (.tup ys))) ∨ (SqT K H p ys ∧ Q (.ref p) H))
theorem cl_tuple : CallR X (.type "tuple") (rTupOf X.K) := call_tuple_of
def rInsert : V → List V → Hp → VK → Prop := fun x vs H Q => ∃ (l : Addr) (xs : List V) (i : Int) (y : V), x = .ref l ∧ vs = [.int i, y] ∧ H l = some (.lst xs) ∧ xs.length < sizeLine ∧ 0 ≤ i ∧ i < 2 ^ 63 ∧ Q .non (upd H l (.lst (xs.take i.toNat ++ [y] ++ xs.drop i.toNat)))
theorem mt_insertN : MtR X "list.insert" rInsert := mt_insert
end
section
variable {K : PySem.W.Frag} {H : Hp} {Q : VK}
theorem w_listOf {p : Addr} {ys : List V} (h : SqL K H p ys) (k : ∀ l H2, H l = none → Same H H2 → H2 l = some (.lst ys) → Q (.ref l) H2) : rListOf K [.ref p] H Q := ⟨p, ys, rfl, .inl h, fun l n => k l _ n (same_new n) upd_same⟩
theorem w_tupOf {p : Addr} {ys : List V} (h : SqL K H p ys) (k : ∀ l H2, H l = none → Same H H2 → H2 l = some (.tup ys) → Q (.ref l) H2) : rTupOf K [.ref p] H Q := ⟨p, ys, rfl, .inl ⟨h, fun l n => k l _ n (same_new n) upd_same⟩⟩
theorem w_tupT {p : Addr} {ys : List V} (h : SqT K H p ys) (q : Q (.ref p) H) : rTupOf K [.ref p] H Q := ⟨p, ys, rfl, .inr ⟨h, q⟩⟩
theorem w_insert {l : Addr} {xs : List V} {i : Int} {y : V} (h : H l = some (.lst xs)) (hl : xs.length ≤ 60000) (h0 : 0 ≤ i) (hi : i ≤ 60000) (k : ∀ H2, KB l H H2 → H2 l = some (.lst (xs.take i.toNat ++ [y] ++ xs.drop i.toNat)) → Q .non H2) : rInsert (.ref l) [.int i, y] H Q :=
  ⟨l, xs, i, y, rfl, rfl, h, Nat.lt_of_le_of_lt hl (by decide), h0, by omega, k _ kb_upd upd_same⟩
end
/-- an if without else, what is behind it once -/
theorem w_decR {c A : Prop} {dc : Decidable c} {D : Ends} {σ : L2.St} {H : Hp} (Inv : L2.St → Hp → Prop) (h2 : ¬ c → Inv σ H) (h1 : (∀ σ H, Inv σ H → D.nx σ H) → c → A) (hi : ∀ σ H, Inv σ H → D.nx σ H) : if decide c = true then A else tNext D σ H := by
  by_cases h : c
  · rw [if_pos (decide_eq_true h)]
    exact h1 hi h
  · rw [if_neg (fun e => h (of_decide_eq_true e))]
    exact hi _ _ (h2 h)
/-! what is a list stays one -/
def Kinds (H H' : Hp) : Prop := (∀ a xs, H a = some (.lst xs) → ∃ ys, H' a = some (.lst ys)) ∧ ∀ a xs, H a = some (.tup xs) → H' a = some (.tup xs)
theorem Kinds.of {H H' : Hp} (e : Same H H') : Kinds H H' := ⟨fun a xs h => ⟨xs, e _ _ h⟩, fun a xs h => e _ _ h⟩
theorem Kinds.kb {p : Addr} {H H' : Hp} {xs ys : List V} (e : KB p H H') (h0 : H p = some (.lst xs)) (h : H' p = some (.lst ys)) : Kinds H H' := by
  refine ⟨fun a zs ha => ?_, fun a zs ha => ?_⟩
  · by_cases ea : a = p
    · exact ⟨ys, ea ▸ h⟩
    · exact ⟨zs, e _ _ ha ea⟩
  · by_cases ea : a = p
    · rw [ea, h0] at ha
      cases ha
    · exact e _ _ ha ea
theorem Kinds.trans {H H1 H' : Hp} (a : Kinds H H1) (b : Kinds H1 H') : Kinds H H' := ⟨fun p xs h => by
  obtain ⟨ys, h1⟩ := a.1 p xs h
  exact b.1 p ys h1, fun p xs h => b.2 p xs (a.2 p xs h)⟩
theorem TxtV.kinds {H H' : Hp} {v : V} (h : TxtV H v) (e : Kinds H H') : TxtV H' v := h.imp id fun q => by
  cases q with
  | non => exact .non
  | int i => exact .int i
  | bl b => exact .bl b
  | lst q => obtain ⟨ys, h1⟩ := e.1 _ _ q; exact .lst h1
  | tup q => exact .tup (e.2 _ _ q)
end Bw

namespace Bw
open PySem PySem.Spec PyProof.Rows L2 LamX
/-! ### own exceptions: the handed value -/
abbrev MonoA (ta : TA) : Prop := ∀ σ H (Q Q' : List V → Hp → Prop), (∀ vs H, Q vs H → Q' vs H) → ta σ H Q → ta σ H Q'
theorem monoV {i : Nat} : MonoA (tCons (tVar i) tNil) := fun σ H Q Q' hq h => by
  obtain ⟨v, e, q⟩ := h
  exact ⟨v, e, hq _ _ q⟩
theorem monoF {K : PySem.W.Frag} {i : Nat} {f : Str} : MonoA (tCons (tFld K (tVar i) f) tNil) := fun σ H Q Q' hq h => by
  obtain ⟨v, e, a, C, dx, fs, u, h1, h2, h3, h4, h5, q⟩ := h
  exact ⟨v, e, a, C, dx, fs, u, h1, h2, h3, h4, h5, hq _ _ q⟩
section
variable {K : PySem.W.Frag} {H : Hp} {Q : VK} {σ : L2.St} {D : Ends}
theorem w_xmk {C : Addr} {f : Str} {dvs : List V} {ta : TA} {QX : XK} (h : ta σ H fun vs H1 => ∃ v, vs ++ dvs = [v] ∧ ∀ d H2, H1 d = none → Same H1 H2 → H2 d = some (.xd [(f, v)]) → QX (.ref C) (some d) H2) : tXmk C f dvs ta σ H QX := h
theorem w_xv {v : V} {R : V → Prop} (h : R v) : ∃ v', [v] ++ [] = [v'] ∧ R v' := ⟨v, rfl, h⟩
theorem w_xv0 {v : V} {R : V → Prop} (h : R v) : ∃ v', [] ++ [v] = [v'] ∧ R v' := ⟨v, rfl, h⟩
/-! ### augmented stores -/
theorem w_aug {i : Nat} {te : TE} {ti : TIp} {x : V} (hx : σ[i]? = some (some x)) (h : te σ H fun y H1 => ti x y H1 fun z H2 => D.nx (σ.set i (some z)) H2) : tAug i te ti D σ H := ⟨x, hx, h⟩
theorem w_ipI {f : Int → Int → Int} {i j : Int} (q : Q (.int (f i j)) H) : ipI f (.int i) (.int j) H Q := ⟨i, j, rfl, rfl, q⟩
theorem w_rAdd {i j : Int} (q : Q (.int (i + j)) H) : L2.rAdd (.int i) (.int j) H Q := ⟨i, j, rfl, rfl, q⟩
theorem w_faug {ta tv : TE} {rd : V → V → Hp → VK → Prop} {f : Str} (h : ta σ H fun x H1 => ∃ a C dx fs v, x = .ref a ∧ H1 a = some (.ins C dx fs) ∧ Cls K C ∧ NoAttr K C f ∧ fs.lookup f = some v ∧
  tv σ H1 fun y H2 => rd v y H2 fun z H3 => ∃ dx' fs', H3 a = some (.ins C dx' fs') ∧ fs'.length < 1000 ∧ D.nx σ (upd H3 a (.ins C dx' (putF f z fs')))) : sFldAug K ta tv rd f D σ H := h
theorem w_faug1 {a C dx : Addr} {fs : List (Str × V)} {f : Str} {v : V} {R : Addr → Addr → V → Prop} (ho : H a = some (.ins C dx fs)) (hc : Cls K C) (hn : NoAttr K C f) (hl : fs.lookup f = some v) (q : R a C v) :
    ∃ a' C dx fs v, V.ref a = .ref a' ∧ H a' = some (.ins C dx fs) ∧ Cls K C ∧ NoAttr K C f ∧ fs.lookup f = some v ∧ R a' C v := ⟨a, C, dx, fs, v, rfl, ho, hc, hn, hl, q⟩
theorem w_faug2 {a C dx : Addr} {fs : List (Str × V)} {R : Addr → List (Str × V) → Prop} (ho : H a = some (.ins C dx fs)) (hl : fs.length < 1000) (q : R dx fs) :
    ∃ dx' fs', H a = some (.ins C dx' fs') ∧ fs'.length < 1000 ∧ R dx' fs' := ⟨dx, fs, ho, hl, q⟩
theorem w_notInS {c : Nat} {z : Str} (q : Q (.bl (!decide (c ∈ z.cps.toList))) H) : rNotInS (.str ⟨#[c]⟩) (.str z) H Q := ⟨c, z, rfl, rfl, q⟩
end
section
variable {X : Cx}
theorem ip_addS : PIp X .Add Bw.rAddS := fun pins s σ H x y v u Q I rx ry h => iop_add_str pins s σ H x y v u Q I rx ry h
theorem iop_mulU : OpR X (inplaceOp .Mult) (rI CMulU fun i j => .int (i * j)) := opI fun _ _ _ _ _ _ _ hc q => imul_int q hc
theorem ip_mulU : PIp X .Mult (rI CMulU fun i j => .int (i * j)) := fun pins s σ H x y v u Q I rx ry h => iop_mulU pins s σ H x y v u Q I rx ry h
theorem ip_modU : PIp X .Mod (rI (fun _ j => 0 < j) fun i j => .int (i % j)) := fun pins s σ H x y v u Q I rx ry h => iop_mod pins s σ H x y v u Q I rx ry h
/-! ### divmod, str.index -/
def rDivmod : List V → Hp → VK → Prop := fun xs H Q => ∃ i j, xs = [.int i, .int j] ∧ CDivP i j ∧ ∀ p, H p = none → Q (.ref p) (upd H p (.tup [.int (i / j), .int (i % j)]))
theorem cl_divmod : CallR X (.builtin "divmod") rDivmod := call_divmodW
def rSIdx : V → List V → Hp → VK → Prop := fun x xs H Q => ∃ a b i rest, x = .str a ∧ xs = [.str b] ∧ Builtin.Str.occurrences a b 0 a.length 1 = i :: rest ∧ Q (.int (i : Nat)) H
theorem mt_sidx : MtR X "str.index" rSIdx := mt_sindex
end
section
variable {H : Hp} {Q : VK}
theorem w_divmod {i j : Int} (h0 : 0 < j) (hb : j.natAbs < 2 ^ 64) (k : ∀ p H2, H p = none → Same H H2 → H2 p = some (.tup [.int (i / j), .int (i % j)]) → Q (.ref p) H2) : rDivmod [.int i, .int j] H Q :=
  ⟨i, j, rfl, ⟨h0, PyProof.noPylong_of_log2 (Nat.lt_of_lt_of_le (PySem.Flt.log2_lt_of (by decide) hb) (by decide : 64 ≤ 9000))⟩, fun p n => k p _ n (same_new n) upd_same⟩
theorem w_sidx {a b : Str} {i : Nat} {rest : List Nat} (e : Builtin.Str.occurrences a b 0 a.length 1 = i :: rest) (q : Q (.int (i : Nat)) H) : rSIdx (.str a) [.str b] H Q := ⟨a, b, i, rest, rfl, rfl, e, q⟩
end
/-! ### any thing of the plain kinds -/
inductive Thg (H : Hp) : V → Prop
  | non : Thg H .non
  | int (i : Int) : Thg H (.int i)
  | bl (b : Bool) : Thg H (.bl b)
  | str (x : Str) : Thg H (.str x)
  | lst {a : Addr} {xs : List V} : H a = some (.lst xs) → Thg H (.ref a)
  | tup {a : Addr} {xs : List V} : H a = some (.tup xs) → Thg H (.ref a)
theorem Thg.ext {H H' : Hp} {v : V} (h : Thg H v) (e : ExtN H H') : Thg H' v := by
  cases h with
  | non => exact .non
  | int i => exact .int i
  | bl b => exact .bl b
  | str x => exact .str x
  | lst q => exact .lst (e _ _ q (fun _ z => by cases z))
  | tup q => exact .tup (e _ _ q (fun _ z => by cases z))
theorem Thg.same {H H' : Hp} {v : V} (h : Thg H v) (e : Same H H') : Thg H' v := h.ext (extn_same e)
theorem Thg.kinds {H H' : Hp} {v : V} (h : Thg H v) (e : Kinds H H') : Thg H' v := by
  cases h with
  | non => exact .non
  | int i => exact .int i
  | bl b => exact .bl b
  | str x => exact .str x
  | lst q => obtain ⟨ys, h1⟩ := e.1 _ _ q; exact .lst h1
  | tup q => exact .tup (e.2 _ _ q)
/-- no list -/
inductive NoL (H : Hp) : V → Prop
  | non : NoL H .non
  | int (i : Int) : NoL H (.int i)
  | bl (b : Bool) : NoL H (.bl b)
  | str (x : Str) : NoL H (.str x)
  | tup {a : Addr} {xs : List V} : H a = some (.tup xs) → NoL H (.ref a)
theorem NoL.ty {K : PySem.W.Frag} {H : Hp} {v : V} (h : NoL H v) : ∃ tv, TyX K H v (.type tv) ∧ kitB tv "list" = some false := by
  cases h with
  | non => exact ⟨_, tyx_non, kit_NoneType_list⟩
  | int i => exact ⟨_, tyx_int, kit_int_list⟩
  | bl b => exact ⟨_, tyx_bl, kit_bool_list⟩
  | str x => exact ⟨_, tyx_str, kit_str_list⟩
  | tup e => exact ⟨_, tyx_tup e, kit_tuple_list⟩
theorem NoL.ext {H H' : Hp} {v : V} (h : NoL H v) (e : ExtN H H') : NoL H' v := by
  cases h with
  | non => exact .non
  | int i => exact .int i
  | bl b => exact .bl b
  | str x => exact .str x
  | tup q => exact .tup (e _ _ q (fun _ z => by cases z))
theorem NoL.thg {H : Hp} {v : V} (h : NoL H v) : Thg H v := by
  cases h with
  | non => exact .non
  | int i => exact .int i
  | bl b => exact .bl b
  | str x => exact .str x
  | tup q => exact .tup q
/-- refused with C, the field is v -/
def Raz (E : XK) (H : Hp) (C : Addr) (v : V) : Prop := ∀ d H', H d = none → Same H H' → H' d = some (.xd [("at", v)]) → E (.ref C) (some d) H'
theorem Raz.same {E : XK} {H H1 : Hp} {C : Addr} {v : V} (h : Raz E H C v) (s : Same H H1) : Raz E H1 C v := fun d H' n s' e => h d H' (same_free s n) (s.trans s') e
theorem kb_newD {p q : Addr} {H H' : Hp} {o : HO} (k : KB p H H') (hp : H' p = some o) (n : H' q = none) : H q = none := by
  cases e : H q with
  | none => rfl
  | some u =>
    have ne : q ≠ p := fun z => by rw [z, hp] at n; cases n
    rw [k q u e ne] at n
    cases n
theorem kb2 {p D : Addr} {H H4 H5 : Hp} (a : KB p H H4) (b : KB D H4 H5) (n : H D = none) : KB p H H5 := fun c o h nc => b c o (a c o h nc) (ne_of_none h n)
/-! ### texts by their signs -/
theorem str_ext {x y : Str} (h : x.cps.toList = y.cps.toList) : x = y := by
  obtain ⟨⟨a⟩⟩ := x
  obtain ⟨⟨b⟩⟩ := y
  congr 2
theorem cps_append (x y : Str) : (x ++ y).cps.toList = x.cps.toList ++ y.cps.toList := TL.tl_append x y
def S (l : List Nat) : Str := ⟨l.toArray⟩
theorem cps_S (l : List Nat) : (S l).cps.toList = l := rfl
theorem len_S (l : List Nat) : (S l).length = l.length := by
  show l.toArray.size = l.length
  simp
theorem len_cps (x : Str) : x.cps.toList.length = x.length := Array.length_toList
/-! ### lists of ints -/
section
variable {K : PySem.W.Frag} {H : Hp}
theorem dpAll_int : ∀ bs : List Int, DpAll K H (bs.map V.int) (bs.map PyData.int)
  | [] => .nil
  | b :: r => .cons (.int b) (dpAll_int r)
theorem depth_int : ∀ bs : List Int, PyData.depthAll (bs.map PyData.int) = 0
  | [] => rfl
  | b :: r => by simp [PyData.depthAll, PyData.depth, depth_int r]
theorem lay_int : ∀ {bs : List Int}, PyData.canLayAll0 (bs.map PyData.int) = true
  | [] => by simp [PyData.canLayAll0]
  | b :: r => by simp [PyData.canLayAll0, PyData.canLay0, lay_int (bs := r)]
theorem shaped_int {bs : List Int} : SeqAt.shaped (.list (bs.map PyData.int)) = true := by
  simp [SeqAt.shaped, PyData.canLay0, lay_int, PyData.depth, depth_int]
theorem eqvAll_int : ∀ bs cs : List Int, PyData.eqvAll (bs.map PyData.int) (cs.map PyData.int) = decide (bs = cs)
  | [], [] => by simp [PyData.eqvAll]
  | [], c :: s => by simp [PyData.eqvAll]
  | b :: r, [] => by simp [PyData.eqvAll]
  | b :: r, c :: s => by
    simp only [List.map_cons, PyData.eqvAll, PyData.eqv, eqvAll_int r s, List.cons.injEq]
    by_cases h1 : b = c <;> by_cases h2 : r = s <;> simp [h1, h2]
theorem eqv_ints (bs cs : List Int) : PyData.eqv (.list (bs.map PyData.int)) (.list (cs.map PyData.int)) = decide (bs = cs) := by
  simp only [PyData.eqv, eqvAll_int]
end
end Bw

namespace Bw
open PySem PySem.Spec PyProof.Rows L2 LamX
abbrev selfAt : List Str := ["self", "at"]
/-- an own exception with the field at, from what K holds -/
theorem xcl_of {P : Program} {w : World} {K : PySem.W.Frag} {mg : Str → Option Value} {base : Heap} {x qual : Str} {C fI T : Addr} {st : Stmt} {oc ocT kV doc pm cd ct : Value} {od odT an : Option Addr} {sl slT : Array (Option Value)} {nT : Nat}
    (T0 : OexC K C) (no : PySem.W.findIn K (.ref C) "at" = some none) (hm : mg x = some (.ref C)) (iC : PySem.W.findIn K (.ref C) "__init__" = some (some (.ref fI))) (tI : PySem.W.typeIn K (.ref fI) = some (.type "function"))
    (l : K.lookup fI = some ⟨oc, od, .func (PySem.W.fnOf "__init__" qual (defArgs st) (defBody st) (defScope st) (.ref T) kV doc pm an cd ct), sl⟩) (hc : PySem.W.codeIn K cd qual = true) (kp : PySem.W.keepIn K (.ref fI) = true)
    (lT : K.lookup T = some ⟨ocT, odT, .seq (List.toArray [.none]) nT, slT⟩)
    (F0 : ∀ fd, FunD K "__init__" qual (defArgs st) (defBody st) (defScope st) [.non] [] fI fd → FnOk P w K mg base CX0 1 fI fd selfAt (spXi K "at"))
    (b0 : ∀ (T : Addr) (kV doc pm : Value) (an : Option Addr) (cdv ct : Value) (us its : List Value), us.length = 1 → its.length = 1 →
      ∃ k, bindArgs (PySem.W.fnOf "__init__" qual (defArgs st) (defBody st) (defScope st) (.ref T) kV doc pm an cdv ct) ⟨us, []⟩ = seqItems? (.ref T) >>= k ∧ k (some its.toArray) = pure (selfAt.zip (us ++ its.drop 0)))
    (b1 : ∀ (T : Addr) (kV doc pm : Value) (an : Option Addr) (cdv ct : Value) (us its : List Value), us.length = 2 → its.length = 1 →
      ∃ k, bindArgs (PySem.W.fnOf "__init__" qual (defArgs st) (defBody st) (defScope st) (.ref T) kV doc pm an cdv ct) ⟨us, []⟩ = seqItems? (.ref T) >>= k ∧ k (some its.toArray) = pure (selfAt.zip (us ++ its.drop 1))) :
    Xcl P w K mg base x C 1 "at" [.non] ∧ Xcl P w K mg base x C 1 "at" [] := by
  have F : FunD K "__init__" qual (defArgs st) (defBody st) (defScope st) [.non] [] fI _ := ⟨⟨_, _, _, _, _, _, _, _, _, _, rfl, l, hc, .inr ⟨by simp, _, _, _, _, rfl, lT, rfl, .cons rfl .nil⟩, .inl rfl⟩, kp⟩
  obtain ⟨d0, h0, e0⟩ := F.binds1 (ps := selfAt) 1 0 (by simp) rfl b0
  obtain ⟨d1, h1, e1⟩ := F.binds1 (ps := selfAt) 2 1 (by simp) rfl b1
  exact ⟨⟨T0, no, hm, fI, _, d0, _, iC, tI, F0 _ F, e0, h0⟩, ⟨T0, no, hm, fI, _, d1, _, iC, tI, F0 _ F, e1, h1⟩⟩
theorem oex_mk {K : PySem.W.Frag} {C : Addr} {nm q : Str} {N : Addr} {bs bm : List Value} {sn : List Str} {sub : List Value} {ab : Bool} {col : Option Bool} {dd : Option Addr} {k0 k1 k2 k3 k5 : Option Value}
    (l : K.lookup C = some (excClassObj nm q C N bs bm true sn sub ab col dd k0 k1 k2 k3 k5 "ValueError.__new__")) (r : PySem.HandSPX.refsVE bm = true) (sa : PySem.W.findIn K (.ref C) "__setattr__" = some (some (.builtin "object.__setattr__")))
    (exC : PySem.W.subIn K (.ref C) (.type "BaseException") = some true) (tyC : PySem.W.typeIn K (.ref C) = some (.type "type")) (kC : PySem.W.keepIn K (.ref C) = true) : OexC K C := ⟨⟨nm, q, N, bs, bm, sn, sub, ab, col, dd, k0, k1, k2, k3, k5, l, r⟩, sa, exC, tyC, kC⟩
/-! ### data that can be compared -/
structure GoodD (d : PyData) (n : Nat) : Prop where
  lay : PyData.canLay0 d = true
  dep : PyData.depth d ≤ n
  refl : PyData.eqv d d = true
theorem GoodD.shaped {d : PyData} {n : Nat} (h : GoodD d n) (hn : n ≤ 64) : SeqAt.shaped d = true := by
  unfold SeqAt.shaped
  rw [h.lay, decide_eq_true (Nat.le_trans h.dep hn)]
  rfl
theorem GoodD.mono {d : PyData} {n m : Nat} (h : GoodD d n) (l : n ≤ m) : GoodD d m := ⟨h.lay, Nat.le_trans h.dep l, h.refl⟩
theorem good_int {i : Int} {n : Nat} : GoodD (.int i) n := ⟨by simp [PyData.canLay0], by simp [PyData.depth], by simp [PyData.eqv]⟩
theorem good_bool {b : Bool} {n : Nat} : GoodD (.bool b) n := ⟨by simp [PyData.canLay0], by simp [PyData.depth], by simp [PyData.eqv]⟩
theorem good_none {n : Nat} : GoodD .none n := ⟨by simp [PyData.canLay0], by simp [PyData.depth], by simp [PyData.eqv]⟩
theorem good_str {x : Str} {n : Nat} (h : PyData.strOk x = true) : GoodD (.str x) n := ⟨by simp [PyData.canLay0, h], by simp [PyData.depth], by simp [PyData.eqv]⟩
theorem good_all {n : Nat} : ∀ {ds : List PyData}, (∀ d ∈ ds, GoodD d n) → PyData.canLayAll0 ds = true ∧ PyData.depthAll ds ≤ n ∧ PyData.eqvAll ds ds = true
  | [], _ => by simp [PyData.canLayAll0, PyData.depthAll, PyData.eqvAll]
  | d :: r, h => by
    obtain ⟨h1, h2, h3⟩ := good_all (ds := r) (fun x hx => h x (List.mem_cons_of_mem _ hx))
    have h0 := h d List.mem_cons_self
    refine ⟨by simp [PyData.canLayAll0, h0.lay, h1], ?_, by simp [PyData.eqvAll, h0.refl, h3]⟩
    have := h0.dep
    simp only [PyData.depthAll]
    omega
theorem good_list {n : Nat} {ds : List PyData} (h : ∀ d ∈ ds, GoodD d n) : GoodD (.list ds) (n + 1) := by
  obtain ⟨h1, h2, h3⟩ := good_all h
  exact ⟨by simp [PyData.canLay0, h1], by simp only [PyData.depth]; omega, by simp [PyData.eqv, h3]⟩
theorem good_tuple {n : Nat} {ds : List PyData} (h : ∀ d ∈ ds, GoodD d n) : GoodD (.tuple ds) (n + 1) := by
  obtain ⟨h1, h2, h3⟩ := good_all h
  exact ⟨by simp [PyData.canLay0, h1], by simp only [PyData.depth]; omega, by simp [PyData.eqv, h3]⟩
section
variable {K : PySem.W.Frag} {H : Hp} {Q : VK}
/-- one thing equals the like -/
theorem w_eqG {x y : V} {d : PyData} {n : Nat} (hx : Dp K H x d) (hy : Dp K H y d) (g : GoodD d n) (hn : n ≤ 64) (q : Q (.bl true) H) : rEqD K x y H Q := w_eqD hx hy (g.shaped hn) (g.shaped hn) g.refl q
theorem w_neG {x y : V} {d : PyData} {n : Nat} (hx : Dp K H x d) (hy : Dp K H y d) (g : GoodD d n) (hn : n ≤ 64) (q : Q (.bl false) H) : rNeD K x y H Q := w_neD hx hy (g.shaped hn) (g.shaped hn) g.refl q
theorem DpAll.append : ∀ {xs ys : List V} {ds es : List PyData}, DpAll K H xs ds → DpAll K H ys es → DpAll K H (xs ++ ys) (ds ++ es)
  | _, _, _, _, .nil, h => h
  | _, _, _, _, .cons h r, h2 => .cons h (DpAll.append r h2)
def nD (n : Nat) : PyData := .int n
theorem dpAll_nat {f : Nat → V} (hf : ∀ n, f n = .int n) : ∀ ns : List Nat, DpAll K H (ns.map f) (ns.map nD)
  | [] => .nil
  | n :: r => .cons (by rw [hf n]; exact .int _) (dpAll_nat hf r)
theorem good_nats (ns : List Nat) : ∀ d ∈ ns.map nD, GoodD d 0 := fun d hd => by
  obtain ⟨n, _, rfl⟩ := List.mem_map.mp hd
  exact good_int
theorem same_dp {H' : Hp} {v : V} {d : PyData} (s : Same H H') (h : Dp K H v d) : Dp K H' v d := Dp.extn (extn_same s) h
theorem same_dpAll {H' : Hp} {vs : List V} {ds : List PyData} (s : Same H H') (h : DpAll K H vs ds) : DpAll K H' vs ds := DpAll.extn (extn_same s) h
end
end Bw

namespace Bw
open PySem PySem.Spec PyProof.Rows L2 LamX
section
variable {K : PySem.W.Frag} {H : Hp} {Q : VK} {σ : L2.St}
theorem w_revE {te : TE} (h : te σ H fun x H1 => ∃ a xs, x = .ref a ∧ SqL K H1 a xs ∧ ∀ p, H1 p = none → Q (.ref p) (upd H1 p (.lst xs.reverse))) : tRevL K te σ H Q := h
theorem w_rev {a : Addr} {xs : List V} (h : SqL K H a xs) (k : ∀ p H2, H p = none → Same H H2 → H2 p = some (.lst xs.reverse) → Q (.ref p) H2) : ∃ a' xs, V.ref a = .ref a' ∧ SqL K H a' xs ∧ ∀ p, H p = none → Q (.ref p) (upd H p (.lst xs.reverse)) := ⟨a, xs, rfl, h, fun p n => k p _ n (same_new n) upd_same⟩
end
end Bw

namespace Bw
open PySem PySem.Spec PyProof.Rows L2 LamX
/-! ### d.setdefault(k, v); classes made by keywords -/
section
variable {H : Hp} {Q : VK} {σ : L2.St}
theorem w_dsetd {td ty tx : TE} (h : td σ H fun x H1 => ∃ a, x = .ref a ∧ IsD H1 a ∧ ty σ H1 fun y H2 => tx σ H2 fun z H3 => ∃ (kvs : List (Key × V)) (k : Key), H3 a = some (.dK kvs) ∧ y = kV k ∧ kvs.length < sizeLine ∧
  (∀ v, valV kvs k = some v → Q v H3) ∧ (valV kvs k = none → Q z (upd H3 a (.dK (putK kvs k z))))) : tDSetd td ty tx σ H Q := h
theorem w_dset1 {a : Addr} {kvs : List (Key × V)} {R : Addr → Prop} (h : H a = some (.dK kvs)) (q : R a) : ∃ a', V.ref a = .ref a' ∧ IsD H a' ∧ R a' := ⟨a, rfl, .inl ⟨kvs, .inl h⟩, q⟩
theorem w_dnewK (k : ∀ p H2, H p = none → Same H H2 → H2 p = some (.dK []) → Q (.ref p) H2) : tDNewK σ H Q := fun p n => k p _ n (same_new n) upd_same
end
def rRepS : R2 := fun x y H Q => ∃ z n, x = .str z ∧ y = .int n ∧ MulOk z n ∧ Q (.str (Txt.mul z n)) H
theorem op_repS {X : Cx} : OpR X (binaryOp .Mult) rRepS := by
  intro pins s σ H x y v u Q I rx ry h
  obtain ⟨i, j, rfl, rfl, hz, q⟩ := h
  obtain ⟨t, rfl⟩ := rx
  obtain ⟨t', rfl⟩ := ry
  exact SB.mul hz fun t' tk => ⟨.str _, H, I.tok _, ⟨_, rfl⟩, q⟩
theorem w_repS {z : Str} {n : Int} {H : Hp} {Q : VK} (h : MulOk z n) (q : Q (.str (Txt.mul z n)) H) : rRepS (.str z) (.int n) H Q := ⟨z, n, rfl, rfl, h, q⟩
theorem ip_fdivU {X : Cx} : PIp X .FloorDiv (rI CDiv fun i j => .int (i / j)) := fun pins s σ H x y v u Q I rx ry h => iop_fdiv pins s σ H x y v u Q I rx ry h
theorem w_fdivI {i j : Int} {H : Hp} {Q : VK} (h : CDiv i j) (q : Q (.int (i / j)) H) : rI CDiv (fun i j => .int (i / j)) (.int i) (.int j) H Q := ⟨i, j, rfl, rfl, h, q⟩
structure MkrXK (P : Program) (w : World) (K : PySem.W.Frag) (mg : Str → Option Value) (base : Heap) (x : Str) (C : Addr) (k : Nat) (ps : List Str) (ks : List Str) (gV : List V → List V → List V) (sp : Sp) : Prop where
  ex : ∃ (f : Addr) (fd : FuncData) (g : List Value → List Value → List Value), Mk K C f ∧ FnOk P w K mg base (L2.CX P w) k f fd ps sp ∧ mg x = some (.ref C) ∧ KBn K fd ps 1 ks g gV
section
variable {X : Cx}
theorem pe_mkxk {E : XK} {x : Str} {C : Addr} {k : Nat} {ps ks : List Str} {gV : List V → List V → List V} {sp : Sp} {kws : List Keyword} {tk : TA} {p pos : Pos} (M : MkrXK X.prog X.w X.K X.mg X.base x C k ps ks gV sp) (hx : Lets X E) (hr : Room (k + 1) X.A) (hg : Gl X x) (hkw : PK X kws tk)
    (hall : (backToKw pos (keywordEach kws X.env)).all (·.1.isSome) = true := by rfl) (hks : (backToKw pos (keywordEach kws X.env)).filterMap (·.1) = ks := by rfl) (hdb : (x == ("__debug__" : Str)) = false := by decide)
    (hpl : ((backTo pos (starEach [] X.env)).any (·.1) || (backToKw pos (keywordEach kws X.env)).any (·.1.isNone)) = false := by rfl) :
    PE X (.Call (.Name x p) [] kws pos) (tMakeK C 0 ks.length sp gV E tNil tk) := by
  obtain ⟨f, fd, g, M, G, hm, hb⟩ := M.ex
  exact pe_makeK0 M G hr hg hm hb hx hkw hall hks hdb hpl
end
end Bw

namespace Bw
open PySem PySem.Spec PyProof.Rows L2 LamX
/-! ### rpartition, zfill, count, int(x, 16), pop; defs with defaults, called by keywords -/
section
variable {X : Cx}
def rRpart : V → List V → Hp → VK → Prop := fun x xs H Q => ∃ a b, x = .str a ∧ xs = [.str b] ∧ (b.length == 0) = false ∧ a.length ≤ sizeLine ∧
    ∀ p, H p = none → Q (.ref p) (upd H p (.tup [.str (Txt.rpartition a b).1, .str (Txt.rpartition a b).2.1, .str (Txt.rpartition a b).2.2]))
theorem mt_rpartition : MtR X "str.rpartition" rRpart := by
  intro pins s σ H x xs v us Q I rx rs h
  obtain ⟨a, b, rfl, rfl, hb, hz, h⟩ := h
  obtain ⟨t, rfl⟩ := rx
  cases rs with
  | cons r1 rs =>
    cases rs
    obtain ⟨u, rfl⟩ := r1
    refine call_meets F.slot_str_rpartition (typeIs_str _ _ _) F.entry_str_rpartition (F.args_str_rpartition_2 _ _) (meets_str_rpartition a b t u hb hz) ?_
    unfold Txt.rpartition at h
    revert h
    cases Builtin.Str.lastOccurrence a b 0 a.length with
    | none => intro h; exact laid_parts I h
    | some i => intro h; exact laid_parts I h
def rCountS : V → List V → Hp → VK → Prop := fun x xs H Q => ∃ a b, x = .str a ∧ xs = [.str b] ∧ Q (.int (Txt.count a b)) H
theorem mt_countS : MtR X "str.count" rCountS := mt_count
def rZfill : V → List V → Hp → VK → Prop := fun x xs H Q => ∃ (a : Str) (i : Int), x = .str a ∧ xs = [.int i] ∧ PadOk i = true ∧ Q (.str (Txt.zfill a i)) H
theorem mt_zfillS : MtR X "str.zfill" rZfill := mt_zfill
theorem cl_intHex : CallR X (.type "int") rIntHex := call_int_hex
end
section
variable {K : PySem.W.Frag} {H : Hp} {Q : VK}
theorem w_rpart {x y : Str} (hy : (y.length == 0) = false) (hx : x.length ≤ sizeLine) (k : ∀ p H2, H p = none → Same H H2 → H2 p = some (.tup [.str (Txt.rpartition x y).1, .str (Txt.rpartition x y).2.1, .str (Txt.rpartition x y).2.2]) → Q (.ref p) H2) : rRpart (.str x) [.str y] H Q :=
  ⟨x, y, rfl, rfl, hy, hx, fun p n => k p _ n (same_new n) upd_same⟩
theorem w_countS {x y : Str} (q : Q (.int (Txt.count x y)) H) : rCountS (.str x) [.str y] H Q := ⟨x, y, rfl, rfl, q⟩
theorem w_zfill {x : Str} {i : Int} (h : PadOk i = true) (q : Q (.str (Txt.zfill x i)) H) : rZfill (.str x) [.int i] H Q := ⟨x, i, rfl, rfl, h, q⟩
theorem w_intHex {l : List Nat} (h0 : l ≠ []) (hl : l.length ≤ 640) (hx : ∀ c ∈ l, Hx.IsHex c) (q : Q (.int ((Hx.hexNum l : Nat) : Int)) H) : rIntHex [.str (S l), .int 16] H Q := ⟨l, rfl, h0, hl, hx, q⟩
theorem w_pop {l : Addr} {xs : List V} {y : V} (h : H l = some (.lst xs)) (hy : xs[xs.length - 1]? = some y) (k : ∀ H2, KB l H H2 → H2 l = some (.lst xs.dropLast) → Q y H2) : rPop (.ref l) [] H Q := ⟨l, xs, y, rfl, rfl, h, hy, k _ kb_upd upd_same⟩
theorem w_reverse {l : Addr} {xs : List V} (h : H l = some (.lst xs)) (k : ∀ H2, KB l H H2 → H2 l = some (.lst xs.reverse) → Q .non H2) : rReverse (.ref l) [] H Q := ⟨l, xs, rfl, rfl, h, k _ kb_upd upd_same⟩
/-- str(a number) -/
theorem w_strI {i : Int} (h : i.natAbs < 2 ^ 1919) (q : Q (.str (toString i)) H) : rStrI [.int i] H Q := ⟨i, rfl, PySem.Flt.log2_lt_of (by decide) (Nat.lt_of_lt_of_le h (Nat.pow_le_pow_right (by decide) (by decide))), q⟩
end
/-! ### rpartition by one sign -/
theorem at_one {x : Str} {c : Nat} {i : Nat} : StrLaws.At x ⟨#[c]⟩ x.length i ↔ x.cps.toList[i]? = some c := by
  rw [TL.at_iff (y := ⟨#[c]⟩) (by show ([c] : List Nat) ≠ []; simp)]
  show ((x.cps.toList.drop i).take 1 == [c]) = true ↔ _
  rw [beq_iff_eq]
  rcases Nat.lt_or_ge i x.cps.toList.length with h | h
  · rw [List.drop_eq_getElem_cons h, List.getElem?_eq_getElem h]
    simp
  · rw [List.drop_eq_nil_of_le h, List.getElem?_eq_none h]
    simp
theorem rpart_app {a b : List Nat} {c : Nat} (h : c ∉ b) : Txt.rpartition (S (a ++ c :: b)) ⟨#[c]⟩ = (S a, ⟨#[c]⟩, S b) := by
  have hA : ∀ k, a.length < k → ¬ StrLaws.At (S (a ++ c :: b)) ⟨#[c]⟩ (S (a ++ c :: b)).length k := fun k hk z => by
    rw [at_one, cps_S, List.getElem?_append_right (Nat.le_of_lt hk)] at z
    obtain ⟨m, hm⟩ : ∃ m, k - a.length = m + 1 := ⟨k - a.length - 1, by omega⟩
    rw [hm, List.getElem?_cons_succ] at z
    exact h (List.mem_of_getElem? z)
  have hB : StrLaws.At (S (a ++ c :: b)) ⟨#[c]⟩ (S (a ++ c :: b)).length a.length := by
    rw [at_one, cps_S]
    simp
  unfold Txt.rpartition
  rcases StrLaws.last_spec (S (a ++ c :: b)) ⟨#[c]⟩ with ⟨_, hn⟩ | ⟨i, e, hi, hn⟩
  · exact absurd hB (hn _)
  · have hia : i = a.length := by
      rcases Nat.lt_trichotomy i a.length with h1 | h1 | h1
      · exact absurd hB (hn _ h1)
      · exact h1
      · exact absurd hi (hA _ h1)
    subst hia
    rw [e]
    have e1 : Builtin.Str.strSub (S (a ++ c :: b)) 0 a.length = S a := str_ext (by
      show TL.tl _ = _
      rw [TL.tl_strSub]
      show ((a ++ c :: b).drop 0).take _ = a
      simp)
    have e2 : Builtin.Str.strSub (S (a ++ c :: b)) (a.length + 1) (S (a ++ c :: b)).length = S b := str_ext (by
      show TL.tl _ = _
      rw [TL.tl_strSub_end]
      show (a ++ c :: b).drop _ = b
      simp)
    show (_, _, Builtin.Str.strSub (S (a ++ c :: b)) (a.length + 1) (S (a ++ c :: b)).length) = _
    rw [e1, e2]
theorem rpart_none {a : List Nat} {c : Nat} (h : c ∉ a) : Txt.rpartition (S a) ⟨#[c]⟩ = (Str.empty, Str.empty, S a) := by
  unfold Txt.rpartition
  rcases StrLaws.last_spec (S a) ⟨#[c]⟩ with ⟨e, hn⟩ | ⟨i, e, hi, hn⟩
  · rw [e]
  · rw [at_one, cps_S] at hi
    exact absurd (List.mem_of_getElem? hi) h
theorem cnt_ge (c : Nat) : ∀ l : List Nat, 0 ≤ cnt c l
  | [] => Int.le_refl 0
  | n :: r => by
    rw [cnt_cons]
    have := cnt_ge c r
    split <;> omega
theorem cnt_mem {c : Nat} : ∀ {l : List Nat}, c ∈ l → 0 < cnt c l
  | n :: r, h => by
    rw [cnt_cons]
    have := cnt_ge c r
    rcases List.mem_cons.mp h with e | h
    · rw [if_pos e.symm]
      omega
    · have := cnt_mem h
      split <;> omega
/-! ### defs with defaults -/
/-- called by places: dvs are what is told by default behind them -/
structure FnD (P : Program) (w : World) (K : PySem.W.Frag) (mg : Str → Option Value) (base : Heap) (CX : CXT) (x : Str) (k : Nat) (ps : List Str) (dvs : List V) (sp : Sp) : Prop where
  ex : ∃ (f : Addr) (fd : FuncData) (ds : List Value), FnOk P w K mg base CX k f fd ps sp ∧ mg x = some (.ref f) ∧ PySem.W.keepIn K (.ref f) = true ∧ Binds K fd ps ds ∧ Vals dvs ds
/-- n by places, the others by the names ks -/
structure FnK (P : Program) (w : World) (K : PySem.W.Frag) (mg : Str → Option Value) (base : Heap) (CX : CXT) (x : Str) (k : Nat) (ps : List Str) (n : Nat) (ks : List Str) (gV : List V → List V → List V) (sp : Sp) : Prop where
  ex : ∃ (f : Addr) (fd : FuncData) (g : List Value → List Value → List Value), FnOk P w K mg base CX k f fd ps sp ∧ mg x = some (.ref f) ∧ PySem.W.keepIn K (.ref f) = true ∧ KBn K fd ps n ks g gV
section
variable {X : Cx}
theorem pe_fnd {CX : CXT} {E : XK} {x : Str} {k : Nat} {ps : List Str} {dvs : List V} {sp : Sp} {e : Expr} {es : List Expr} {t : TA} {p pos : Pos} (F : FnD X.prog X.w X.K X.mg X.base CX x k ps dvs sp) (hx : Passes CX X E) (hr : Room k X.A) (hg : Gl X x) (ha : PA X (e :: es) t)
    (hdb : (x == ("__debug__" : Str)) = false := by decide) (he : starEach (e :: es) X.env = (false, eval e X.env) :: starEach es X.env := by rfl) (hpl : (backTo pos (starEach es X.env)).any (·.1) = false := by rfl) :
    PE X (.Call (.Name x p) (e :: es) [] pos) (tCall sp dvs E t) := by
  obtain ⟨f, fd, ds, G, hm, hk, hb, hd⟩ := F.ex
  exact pe_call G hr hg hm hk hb hd hx ha hdb he hpl
theorem pe_fnk {CX : CXT} {E : XK} {x : Str} {k n : Nat} {ps ks : List Str} {gV : List V → List V → List V} {sp : Sp} {e : Expr} {es : List Expr} {kws : List Keyword} {t tk : TA} {p pos : Pos} (F : FnK X.prog X.w X.K X.mg X.base CX x k ps n ks gV sp) (hx : Passes CX X E) (hr : Room k X.A) (hg : Gl X x) (ha : PA X (e :: es) t) (hkw : PK X kws tk)
    (hall : (backToKw pos (keywordEach kws X.env)).all (·.1.isSome) = true := by rfl) (hks : (backToKw pos (keywordEach kws X.env)).filterMap (·.1) = ks := by rfl)
    (hdb : (x == ("__debug__" : Str)) = false := by decide) (he : starEach (e :: es) X.env = (false, eval e X.env) :: starEach es X.env := by rfl)
    (hpl : ((backTo pos (starEach (e :: es) X.env)).any (·.1) || (backToKw pos (keywordEach kws X.env)).any (·.1.isNone)) = false := by rfl) :
    PE X (.Call (.Name x p) (e :: es) kws pos) (tCallN n ks.length sp gV E t tk) := by
  obtain ⟨f, fd, g, G, hm, hk, hb⟩ := F.ex
  exact pe_callN G hr hg hm hk hb hx ha hkw hall hks hdb he hpl
end
section
variable {σ : L2.St} {H : Hp} {Q : VK}
theorem w_callD {sp : Sp} {dvs : List V} {tA : TA} {E : XK} (h : tA σ H fun vs H1 => sp (vs ++ dvs) H1 Q E) : tCall sp dvs E tA σ H Q := h
theorem w_callN {n m : Nat} {sp : Sp} {gV : List V → List V → List V} {E : XK} {t tk : TA} (h : t σ H fun vs H1 => tk σ H1 fun zs H2 => vs.length = n ∧ zs.length = m ∧ sp (gV vs zs) H2 Q E) : tCallN n m sp gV E t tk σ H Q := h
theorem w_nlen {xs ys : List V} {n m : Nat} {R : Prop} (h1 : xs.length = n) (h2 : ys.length = m) (q : R) : xs.length = n ∧ ys.length = m ∧ R := ⟨h1, h2, q⟩
end
end Bw

namespace Bw
open PySem PySem.Spec PyProof.Rows L2 LamX
/-! ### texts of whole files, plainly -/
theorem strOk_of {x : Str} (h : ∀ c ∈ x.cps.toList, c < 1114112) : PyData.strOk x = true := by
  unfold PyData.strOk
  rw [Array.all_eq_true']
  intro c hc
  exact decide_eq_true (h c (Array.mem_toList_iff.mpr hc))
/-- four figures -/
def zf (n : Nat) : List Nat := List.replicate (4 - (TL.numL n).length) 48 ++ TL.numL n
theorem num_S (n : Nat) : (Str.ofString (toString ((n : Nat) : Int))) = S (TL.numL n) := str_ext (TL.tl_num n)
theorem numL_len4 {n : Nat} (h : n ≤ 9999) : (TL.numL n).length ≤ 4 := TL.numL_len (by decide) (by omega)
theorem zf_len {n : Nat} (h : n ≤ 9999) : (zf n).length = 4 := by
  have := numL_len4 h
  unfold zf
  rw [List.length_append, List.length_replicate]
  omega
theorem zf_dig {n : Nat} : ∀ c ∈ zf n, 48 ≤ c ∧ c ≤ 57 := fun c hc => by
  unfold zf at hc
  rcases List.mem_append.mp hc with h | h
  · have := (List.mem_replicate.mp h).2
    omega
  · have := TL.numL_digits n c h
    omega
theorem zfill_num {n : Nat} : Txt.zfill (S (TL.numL n)) 4 = S (zf n) := by
  unfold Txt.zfill
  rw [len_S]
  split
  · rename_i h
    unfold zf
    rw [show 4 - (TL.numL n).length = 0 by omega]
    rfl
  · rename_i h
    unfold zfilled
    have key : Builtin.Str.padded (S (TL.numL n)) ((4 : Int).toNat - (TL.numL n).length) 0 48 = S (zf n) := str_ext (by
      show (Array.replicate _ 48 ++ (TL.numL n).toArray ++ Array.replicate 0 48).toList = zf n
      unfold zf
      simp)
    have hne := TL.numL_ne n
    have hd := TL.numL_digits n
    generalize hl : TL.numL n = l at *
    cases l with
    | nil => exact absurd rfl hne
    | cons c r =>
      have hc := hd c List.mem_cons_self
      have e : (S (c :: r)).cps[0]? = some c := rfl
      rw [e]
      split
      · rename_i z
        cases z
        exact absurd hc (by decide)
      · rename_i z
        cases z
        exact absurd hc (by decide)
      · exact key
theorem mul_zero_ok {n : Int} (h : n ≤ 4) (h0 : -10 ≤ n) : MulOk "0" n := by
  have e : ("0" : Str).length = 1 := rfl
  have hn : n = -10 ∨ n = -9 ∨ n = -8 ∨ n = -7 ∨ n = -6 ∨ n = -5 ∨ n = -4 ∨ n = -3 ∨ n = -2 ∨ n = -1 ∨ n = 0 ∨ n = 1 ∨ n = 2 ∨ n = 3 ∨ n = 4 := by omega
  rcases hn with rfl | rfl | rfl | rfl | rfl | rfl | rfl | rfl | rfl | rfl | rfl | rfl | rfl | rfl | rfl <;> (unfold MulOk; decide +kernel)
theorem mul_zero {k : Nat} (h : k ≤ 4) : Txt.mul "0" (k : Int) = S (List.replicate k 48) := by
  have hk : k = 0 ∨ k = 1 ∨ k = 2 ∨ k = 3 ∨ k = 4 := by omega
  rcases hk with rfl | rfl | rfl | rfl | rfl <;> decide +kernel
/-- rows with their ends -/
def sgn (rows : List Str) : List Nat := (rows.map fun r => r.cps.toList ++ [10]).flatten
theorem join_lines (h : Str) : ∀ rows : List Str, (Str.join ("\n" : Str) (h :: rows)).cps.toList ++ [10] = h.cps.toList ++ [10] ++ sgn rows
  | [] => by
    show h.cps.toList ++ [10] = _
    simp [sgn]
  | r :: rs => by
    have e : (Str.join ("\n" : Str) (h :: r :: rs)) = h ++ ("\n" : Str) ++ Str.join ("\n" : Str) (r :: rs) := rfl
    rw [e, cps_append, cps_append, List.append_assoc, join_lines r rs]
    have e2 : ("\n" : Str).cps.toList = [10] := rfl
    rw [e2]
    simp [sgn]
theorem sgn_len {rows : List Str} {m : Nat} (h : ∀ r ∈ rows, r.length ≤ m) : (sgn rows).length ≤ rows.length * (m + 1) := by
  induction rows with
  | nil => simp [sgn]
  | cons r rs ih =>
    have h1 := ih (fun x hx => h x (List.mem_cons_of_mem _ hx))
    have h2 := h r List.mem_cons_self
    have e : sgn (r :: rs) = r.cps.toList ++ [10] ++ sgn rs := by simp [sgn]
    rw [e, List.length_append, List.length_append, len_cps, List.length_cons (a := r), Nat.add_mul]
    simp
    omega
/-- signs ended by line feeds, split -/
theorem split_lines {hd : List Nat} {rows : List Str} (h0 : 10 ∉ hd) (hr : ∀ r ∈ rows, 10 ∉ r.cps.toList) : Txt.split (S (hd ++ [10] ++ sgn rows)) "\n" = S hd :: (rows ++ [("" : Str)]) := by
  have e : S (hd ++ [10] ++ sgn rows) = Txt.join ("\n" : Str) (S hd :: (rows ++ [("" : Str)])) := by
    refine str_ext ?_
    rw [txt_join, cps_S]
    have h1 : ∀ (a : Str) (rs : List Str), (Str.join ("\n" : Str) (a :: (rs ++ [("" : Str)]))).cps.toList = a.cps.toList ++ [10] ++ sgn rs := by
      intro a rs
      induction rs generalizing a with
      | nil =>
        show (a ++ ("\n" : Str) ++ ("" : Str)).cps.toList = _
        rw [cps_append, cps_append]
        show a.cps.toList ++ [10] ++ [] = _
        simp [sgn]
      | cons r rs ih =>
        show (a ++ ("\n" : Str) ++ Str.join ("\n" : Str) (r :: (rs ++ [("" : Str)]))).cps.toList = _
        rw [cps_append, cps_append, ih r]
        show a.cps.toList ++ [10] ++ _ = _
        simp [sgn]
    rw [h1]
    rfl
  rw [e]
  refine TL.split_join (s := 10) (S := []) rfl (by decide +kernel) (by simp) (fun p hp z => ?_)
  rcases List.mem_cons.mp hp with rfl | hp
  · exact h0 z
  · rcases List.mem_append.mp hp with hp | hp
    · exact hr p hp z
    · rw [List.mem_singleton.mp hp] at z
      exact absurd z (by show ¬ 10 ∈ ([] : List Nat); simp)
theorem sum_le {c : Nat} : ∀ {l : List Nat}, (∀ x ∈ l, x ≤ c) → l.sum ≤ l.length * c
  | [], _ => by simp
  | y :: r, h => by
    have h1 := h y List.mem_cons_self
    have h2 := sum_le (l := r) (fun x hx => h x (List.mem_cons_of_mem _ hx))
    simp only [List.sum_cons, List.length_cons, Nat.add_mul, Nat.one_mul]
    omega
theorem join_empty : ∀ rows : List Str, (Str.join ("" : Str) rows).cps.toList = (rows.map fun r => r.cps.toList).flatten
  | [] => rfl
  | [r] => by show r.cps.toList = _; simp
  | r :: s :: rs => by
    show (r ++ ("" : Str) ++ Str.join ("" : Str) (s :: rs)).cps.toList = _
    rw [cps_append, cps_append, join_empty (s :: rs)]
    show r.cps.toList ++ [] ++ _ = _
    simp
theorem sum_ones : ∀ cs : List Nat, ((cs.map fun c => (⟨#[c]⟩ : Str)).map (·.length)).sum = cs.length
  | [] => rfl
  | c :: r => by
    rw [List.map_cons, List.map_cons, List.sum_cons, sum_ones r, List.length_cons]
    show 1 + _ = _
    omega
theorem join_ones (cs : List Nat) : (Txt.join "" (cs.map fun c => (⟨#[c]⟩ : Str))).cps.toList = cs := by
  rw [txt_join, join_empty, List.map_map]
  induction cs with
  | nil => rfl
  | cons c r ih =>
    rw [List.map_cons, List.flatten_cons, ih]
    rfl
end Bw

namespace Bw
open PySem PySem.Spec PyProof.Rows L2 LamX
/-! ### x == y by an own __eq__ that lets nothing out -/
structure EqO (P : Program) (w : World) (K : PySem.W.Frag) (mg : Str → Option Value) (base : Heap) (C : Addr) (k : Nat) (ps : List Str) (sp : Sp) : Prop where
  ex : ∃ (f : Addr) (fd : FuncData), FnOk P w K mg base CX0 k f fd ps sp ∧ PySem.W.findIn K (.ref C) "__eq__" = some (some (.ref f)) ∧ PySem.W.isFn K (.ref f) = true ∧ Binds K fd ps []
/-- what may stand on the other side -/
inductive Side (K : PySem.W.Frag) (H : Hp) (C : Addr) : V → Prop
  | int (i : Int) : PySem.W.notFirst K C (.type "int") = true → Side K H C (.int i)
  | bl (b : Bool) : PySem.W.notFirst K C (.type "bool") = true → Side K H C (.bl b)
  | str (x : Str) : PySem.W.notFirst K C (.type "str") = true → Side K H C (.str x)
  | non : PySem.W.notFirst K C (.type "NoneType") = true → Side K H C .non
  | lst {a : Addr} {xs : List V} : H a = some (.lst xs) → PySem.W.notFirst K C (.type "list") = true → Side K H C (.ref a)
  | tup {a : Addr} {xs : List V} : H a = some (.tup xs) → PySem.W.notFirst K C (.type "tuple") = true → Side K H C (.ref a)
  | own {a dx : Addr} {fs : List (Str × V)} : H a = some (.ins C dx fs) → Side K H C (.ref a)
section
variable {X : Cx}
theorem side_looks {pins : List (Addr × Obj)} {σ : L2.St} {H : Hp} {s : Shared} {C : Addr} {y : V} {u : Value} (I : L2.Inv X pins σ H s) (r : RelV y u) (d : Side X.K H C y) : ∃ tb, PySem.W.Looks (model X.prog X.w) s.heap (typeOf u) tb ∧ PySem.W.notFirst X.K C tb = true := by
  cases d with
  | int i h => obtain ⟨t, rfl⟩ := r; exact ⟨_, PySem.W.Looks.of_pure rfl, h⟩
  | bl b h => cases r; exact ⟨_, PySem.W.Looks.of_pure rfl, h⟩
  | str x h => obtain ⟨t, rfl⟩ := r; exact ⟨_, PySem.W.Looks.of_pure rfl, h⟩
  | non h => cases r; exact ⟨_, PySem.W.Looks.of_pure rfl, h⟩
  | @lst a xs ea h =>
    cases (show u = Value.ref a from r)
    obtain ⟨_, _, n, _, h1⟩ := (show ObjOk X.prog X.w H s.heap a (.lst xs) from I.hok a _ ea)
    exact ⟨.type "list", fun A Q E s k q => wpAny_typeOf_ref (k _ _ h1) q, h⟩
  | @tup a xs ea h =>
    cases (show u = Value.ref a from r)
    obtain ⟨_, _, _, o, h1, h2, _⟩ := (show ObjOk X.prog X.w H s.heap a (.tup xs) from I.hok a _ ea)
    exact ⟨.type "tuple", fun A Q E s k q => wpAny_typeOf_ref (k _ _ h1) (h2 ▸ q), h⟩
  | @own a dx fs ea =>
    cases (show u = Value.ref a from r)
    obtain ⟨mB, J', _⟩ := ins_get I.hok ea
    obtain ⟨od', J', _⟩ := J'.look
    exact ⟨_, J'.type, by simp [PySem.W.notFirst]⟩
def rEqO (K : PySem.W.Frag) (C : Addr) (sp : Sp) : R2 := fun x y H Q => ∃ a dx fs, x = .ref a ∧ H a = some (.ins C dx fs) ∧ Side K H C y ∧ sp [x, y] H (fun v H' => (∃ b, v = .bl b) ∧ Q v H') C8.E0
theorem op_eqO {C : Addr} {k : Nat} {ps : List Str} {sp : Sp} (O : EqO X.prog X.w X.K X.mg X.base C k ps sp) (hr : Room k X.A) : OpR X (compareOp .Eq) (rEqO X.K C sp) := by
  intro pins s σ H x y v u Q I rx ry h
  obtain ⟨a, dx, fs, rfl, ha, hy, hsp⟩ := h
  obtain ⟨f, fd, F, hs, hf, hb⟩ := O.ex
  cases rx
  obtain ⟨tb, lk, nf⟩ := side_looks I ry hy
  obtain ⟨mA, J, _⟩ := ins_get I.hok ha
  obtain ⟨od, J, _⟩ := J.look
  obtain ⟨m, hF⟩ := I.fr
  show wpAny (model X.prog X.w) X.A (richCompare .Eq (.ref a) u) (EP X pins σ Q) X.xe s
  refine PySem.W.cmp_K (op := .Eq) hr.units0 hF I.ok.mod.kin J lk nf hs hf ?_
  have hl := F.len _ _ _ _ hsp
  have r2 : Vals [V.ref a, y] [Value.ref a, u] := .cons rfl (.cons ry .nil)
  refine wpAny_call (codeAny_mono (F.run X.A X.stack s H ⟨[.ref a, u], []⟩ [.ref a, u] [.ref a, y] _ _ hr I.env0 (by
    have := hb s [.ref a, u] I.kIn (by simpa using hl)
    simpa using this) r2 hsp) fun r s' hq => ?_)
  cases r with
  | error e => exact pass0 pins σ H s e s' I hq
  | ok fl =>
    cases fl with
    | ret w =>
      obtain ⟨z, H', I', rz, ⟨b, ez⟩, q⟩ := I.after hq
      subst ez
      cases rz
      exact ⟨.bl b, H', I', rfl, q⟩
    | next => exact False.elim hq
    | brk => exact False.elim hq
    | cont => exact False.elim hq
end
end Bw

namespace Bw
open PySem PySem.Spec PyProof.Rows L2 LamX
open PySem.W (Frag findIn subIn looks_findIn looks_subIn)
section
variable {prog : Program} {w : World} {A : Around} {E : Value → Shared → Prop} {s : Shared} {K : Frag} {x C : Addr} {ox : Obj} {od : Option Obj} {b tb : Value}
theorem ifBound_B {M : Model} {args : List Value} {name : Str} {id B : String} {Q : Option Value → Shared → Prop} (X : K.In s.heap) (I : PySem.W.InstAt s.heap x ox C od) (hs : findIn K (.ref C) name = some (some (.builtin id))) (S : Slot B name id)
    (h : wpAny M A (call (.builtin id) (.ref x :: args)) (fun v => Q (some v)) E s) : wpAny M A (callSpecialIfBound? (.ref x) name args) Q E s := by
  simp only [callSpecialIfBound?, bindSpecialIfBound?]
  refine wpAny_holding (wpAny_bind (wpAny_bind (wpAny_bind (I.type.here ((looks_findIn X hs).here ?_)))))
  simp only [S.bind]
  refine wpAny_bind (wpAny_askSetting (wpAny_ite ?_))
  have fin : wpAny M A (call (.builtin id) ([.ref x] ++ args) >>= fun v => pure (some v)) Q E s := wpAny_bind (wpAny_mono h (fun v s' h' => wpAny_pure h') fun _ _ h' => h')
  split
  · exact wpAny_bind (wpAny_pure (wpAny_pure fin))
  · exact wpAny_tryCatch (wpAny_bind (wpAny_pure (wpAny_pure fin)))
theorem check_B {M : Model} {id owner n : String} {rest : List Value} {Q : Unit → Shared → Prop} (X : K.In s.heap) (I : PySem.W.InstAt s.heap x ox C od) (hk : builtinKind id = some .slot) (hs : splitId id = some (owner, n))
    (ha : argsOk id ⟨.ref x :: rest, []⟩) (hso : subIn K (.ref C) (.type owner) = some true) (hq : Q () s) :
    wpAny M A (checkBuiltinCall id ⟨.ref x :: rest, []⟩) Q E s := by
  simp only [checkBuiltinCall, hk, hs]
  refine wpAny_bind ?_
  unfold isInstance
  refine wpAny_bind (I.type.here ?_)
  refine (looks_subIn X hso).here ?_
  cases hsig : Manifest.signature? id with
  | none => exact wpAny_pure hq
  | some sig =>
    simp only [argsOk, hsig] at ha
    have h2 : Bind.checkArgs id sig ⟨.ref x :: rest, []⟩ = pure () := ha
    show wpAny M A (Bind.checkArgs id sig ⟨.ref x :: rest, []⟩) Q E _
    rw [h2]
    exact wpAny_pure hq
/-- x != y by an own __eq__ -/
theorem ne_entry {Q : Fin → Shared → Prop} {f : Addr} (hu : A.units < cLine) (X : K.In s.heap) (I : PySem.W.InstAt s.heap x ox C od) (hs : findIn K (.ref C) "__eq__" = some (some (.ref f))) (hf : PySem.W.isFn K (.ref f) = true)
    (h : wpAny (model prog w) A (call (.ref f) [.ref x, b]) (fun v s' => ∃ k, v = .bool k ∧ Q (.done (.ret (.bool (!k)))) s') E s) : wpAny (model prog w) A (Builtin.«object.__ne__» ⟨[.ref x, b], []⟩) Q E s := by
  unfold Builtin.«object.__ne__»
  refine wpAny_bind (wpAny_pure ?_)
  refine wpAny_bind (wpAny_cRoomFor hu ?_)
  refine wpAny_bind (PySem.W.ifBound_K X I hs hf ?_)
  refine wpAny_mono h (fun v s' hv => ?_) (fun _ _ e => e)
  obtain ⟨k, rfl, q⟩ := hv
  refine wpAny_bind (wpAny_truthy_bool ?_)
  exact wpAny_pure q
theorem cmp_ne {Q : Value → Shared → Prop} {f : Addr} {m : Str → Option Value} {L : Addr} {h₀ : Heap} (hu : A.units + 1 < cLine) (G : Fr h₀ L s.heap m) (X₀ : K.In h₀) (I : PySem.W.InstAt s.heap x ox C od) (hb : PySem.W.Looks (model prog w) s.heap (typeOf b) tb) (hn : PySem.W.notFirst K C tb = true)
    (hne : findIn K (.ref C) "__ne__" = some (some (.builtin "object.__ne__"))) (hso : subIn K (.ref C) (.type "object") = some true) (hs : findIn K (.ref C) "__eq__" = some (some (.ref f))) (hf : PySem.W.isFn K (.ref f) = true)
    (h : wpAny (model prog w) A.in1 (call (.ref f) [.ref x, b]) (fun v s' => ∃ k, v = .bool k ∧ Q (.bool (!k)) s') E s) : wpAny (model prog w) A (richCompare .NotEq (.ref x) b) Q E s := by
  have X := X₀.keeps G.keep
  have hu0 : A.units < cLine := by omega
  have one : wpAny (model prog w) A (tryCompare (.ref x) (cmpInfo .NotEq).2.1 b) (fun r s' => ∃ v, r = some v ∧ Q v s') E s := by
    unfold tryCompare
    refine wpAny_bind (ifBound_B X I hne PySem.F.slot_object_ne (wpAny_call (codeAny_call_builtin PySem.F.slot_object_ne.plain PySem.F.cmpEntry_ne (check_B X I PySem.F.cmpKind_ne PySem.F.cmpSplit_ne (PySem.F.cmpArgs_ne _ _) hso (ne_entry (A := A.in1) hu X I hs hf ?_)))))
    refine wpAny_mono h (fun v s' hv => ?_) fun _ _ e => e
    obtain ⟨k, rfl, q⟩ := hv
    exact ⟨k, rfl, wpAny_pure ⟨_, rfl, q⟩⟩
  unfold richCompare
  simp only [oneThing_ref]
  refine wpAny_holding (wpAny_bind (wpAny_cRoomFor hu0 ?_))
  refine wpAny_bind (I.type.here (wpAny_bind (hb.here ?_)))
  split
  · rename_i q
    have e : subIn K tb (.ref C) = some false := by
      rcases Bool.or_eq_true_iff.mp hn with e | e
      · rw [beq_iff_eq.mp e] at q; simp at q
      · exact beq_iff_eq.mp e
    refine wpAny_bind ((looks_subIn X e).here ?_)
    simp only [Bool.false_eq_true, if_false]
    refine wpAny_bind (wpAny_mono one (fun r s' z => ?_) fun _ _ e => e)
    obtain ⟨v, rfl, hq⟩ := z
    exact wpAny_pure hq
  · refine wpAny_bind (wpAny_pure ?_)
    simp only [Bool.false_eq_true, if_false]
    refine wpAny_bind (wpAny_mono one (fun r s' z => ?_) fun _ _ e => e)
    obtain ⟨v, rfl, hq⟩ := z
    exact wpAny_pure hq
end
end Bw

/-! == of own objects, and of lists of such: either answer -/
namespace Bw
open PySem PySem.Spec PySem.SeqAt PyProof.Rows L2 LamX
open AutoSeq1 (wpAny_loadPart')
open MeetsSeq MeetsSeq2 MeetsSeq3 SeqRoads2
section
variable {prog : Program} {w : World} {A : Around} {R : Result → Shared → Prop}
/-- at each turn the two lists are read anew -/
def ListB (prog : Program) (w : World) (A : Around) (E : Value → Shared → Prop) (l b : Addr) (N : Nat) (bs : Nat → Bool) (I : Shared → Prop) : Prop :=
  ∀ s, I s → ∃ (items items2 : Array Value) (n n2 : Nat), s.heap.get? l = some { cls := .type "list", data := .seq items n } ∧ s.heap.get? b = some { cls := .type "list", data := .seq items2 n2 } ∧ items.size = N ∧ items2.size = N ∧
    ∀ i (h1 : i < items.size) (h2 : i < items2.size), wpAny (model prog w) A.in1 (eqBool items[i] items2[i]) (fun r s' => r = bs i ∧ I s') E s
theorem eq_loopB (l b : Addr) (N : Nat) (bs : Nat → Bool) (I : Shared → Prop) (hl : ListB prog w A (fun e s' => R (.error e) s') l b N bs I)
    (fin : ∀ s, I s → R (.ok (.ret (.bool ((List.range N).all bs)))) s) (k : Nat) :
    ∀ i : Nat, N - i = k → i ≤ N → (∀ j, j < i → bs j = true) → ∀ s, I s →
      wpAny (model prog w) A.in1 (Builtin.«list.__eq__.loop» ⟨[.ref l, .ref b, rawInt i, rawInt 2], []⟩) (GQ.FinOf prog w A R) (fun e s' => R (.error e) s') s := by
  induction k with
  | zero =>
    intro i hk hi hbs s h
    obtain ⟨items, items2, n, n2, hl1, hb1, hs1, hs2, _⟩ := hl _ h
    have hi' : i = N := by omega
    have hall : (List.range N).all bs = true := by
      rw [List.all_eq_true]
      intro x hx
      exact hbs x (by rw [hi']; exact List.mem_range.mp hx)
    have hR : R (.ok (.ret (.bool true))) s := hall ▸ fin s h
    obtain ⟨hp, g, d, tk, os⟩ := s
    wp_walk using wpAny_loadPart' hl1, wpAny_loadPart' hb1
    have hi1 : items[((i : Nat) : Int).toNat]? = none := by simp; omega
    have hi2 : items2[((i : Nat) : Int).toNat]? = none := by simp; omega
    rw [hi1, hi2]
    wp_walk using wpAny_loadPart' hl1, wpAny_loadPart' hb1
    show R (.ok (.ret (.bool (items.size == items2.size)))) _
    rw [hs1, hs2]
    simpa using hR
  | succ k ih =>
    intro i hk hi hbs s h
    obtain ⟨items, items2, n, n2, hl1, hb1, hs1, hs2, turn⟩ := hl _ h
    have hlt : i < items.size := by omega
    have hlt2 : i < items2.size := by omega
    have ht := turn i hlt hlt2
    obtain ⟨hp, g, d, tk, os⟩ := s
    wp_walk using wpAny_loadPart' hl1, wpAny_loadPart' hb1
    have hi1 : items[((i : Nat) : Int).toNat]? = some items[i] := by simp [hlt]
    have hi2 : items2[((i : Nat) : Int).toNat]? = some items2[i] := by simp [hlt2]
    have hc : ((i : Int) + 1) = ((i + 1 : Nat) : Int) := by omega
    rw [hi1, hi2]
    refine wpAny_bind (wpAny_mono ht (fun r s2 h2 => ?_) fun _ _ x => x)
    obtain ⟨hr, h2⟩ := h2
    cases hb : bs i with
    | true =>
      rw [hb] at hr
      subst hr
      have hrec := ih (i + 1) (by omega) (by omega) (fun j hj => by
        rcases Nat.lt_or_eq_of_le (Nat.le_of_lt_succ hj) with h | h
        · exact hbs j h
        · exact h ▸ hb) s2 h2
      obtain ⟨hp2, g2, d2, tk2, os2⟩ := s2
      wp_walk
      rw [hc]
      exact ⟨plainId_quiet plain_eq_loop _, codeAny_builtin entry_eq_loop (by
        rw [Around.under_plainId plain_eq_loop _]
        exact hrec)⟩
    | false =>
      rw [hb] at hr
      subst hr
      obtain ⟨itemsB, items2B, nB, n2B, hl1B, hb1B, hs1B, hs2B, _⟩ := hl _ h2
      have hi1B : itemsB[((i : Nat) : Int).toNat]? = some (itemsB[i]'(by omega)) := by
        have : i < itemsB.size := by omega
        simp [this]
      have hi2B : items2B[((i : Nat) : Int).toNat]? = some (items2B[i]'(by omega)) := by
        have : i < items2B.size := by omega
        simp [this]
      have hall : (List.range N).all bs = false := by
        rw [Bool.eq_false_iff]
        intro z
        rw [List.all_eq_true] at z
        have := z i (List.mem_range.mpr (by omega))
        rw [hb] at this
        cases this
      have hR : R (.ok (.ret (.bool false))) s2 := hall ▸ fin s2 h2
      obtain ⟨hp2, g2, d2, tk2, os2⟩ := s2
      wp_walk using wpAny_loadPart' hl1B, wpAny_loadPart' hb1B
      rw [hi1B, hi2B]
      wp_walk
      exact hR
theorem list_eqB (l b : Addr) (N : Nat) (bs : Nat → Bool) (I : Shared → Prop) (hl : ListB prog w A (fun e s' => R (.error e) s') l b N bs I)
    (fin : ∀ s, I s → R (.ok (.ret (.bool ((List.range N).all bs)))) s) {s : Shared} (h : I s) :
    wpAny (model prog w) A.in1 (Builtin.«list.__eq__» ⟨[.ref l, .ref b], []⟩) (GQ.FinOf prog w A R) (fun e s' => R (.error e) s') s := by
  obtain ⟨items, items2, n, n2, hl1, hb1, hs1, hs2, _⟩ := hl _ h
  have hrec := eq_loopB (A := A) (R := R) l b N bs I hl fin _ 0 rfl (Nat.zero_le _) (fun j hj => absurd hj (Nat.not_lt_zero _)) s h
  obtain ⟨hp, g, d, tk, os⟩ := s
  have f3 := AutoSeq1.sub_list_list
  have hne : ¬ (items.size != items2.size) = true := by simp [hs1, hs2]
  wp_walk using wpAny_loadPart' hl1, wpAny_loadPart' hb1
  exact ⟨plainId_quiet plain_eq_loop _, codeAny_builtin entry_eq_loop (by
    rw [Around.under_plainId plain_eq_loop _]
    exact hrec)⟩
/-- x in l -/
def ContB (prog : Program) (w : World) (A : Around) (E : Value → Shared → Prop) (l : Addr) (x : Value) (N : Nat) (bs : Nat → Bool) (I : Shared → Prop) : Prop :=
  ∀ s, I s → ∃ (items : Array Value) (n : Nat), s.heap.get? l = some { cls := .type "list", data := .seq items n } ∧ items.size = N ∧
    ∀ i (h1 : i < items.size), wpAny (model prog w) A.in1 (eqBool items[i] x) (fun r s' => r = bs i ∧ I s') E s
theorem cont_loopB (l : Addr) (x : Value) (N : Nat) (bs : Nat → Bool) (I : Shared → Prop) (hl : ContB prog w A (fun e s' => R (.error e) s') l x N bs I)
    (fin : ∀ s, I s → R (.ok (.ret (.bool ((List.range N).any bs)))) s) (k : Nat) :
    ∀ i : Nat, N - i = k → i ≤ N → (∀ j, j < i → bs j = false) → ∀ s, I s →
      wpAny (model prog w) A.in1 (Builtin.«list.__contains__.loop» ⟨[.ref l, x, rawInt i], []⟩) (GQ.FinOf prog w A R) (fun e s' => R (.error e) s') s := by
  induction k with
  | zero =>
    intro i hk hi hbs s h
    obtain ⟨items, n, hl1, hs1, _⟩ := hl _ h
    have hi' : i = N := by omega
    have hall : (List.range N).any bs = false := by
      rw [List.any_eq_false]
      intro x hx
      rw [hbs x (by rw [hi']; exact List.mem_range.mp hx)]
      exact Bool.false_ne_true
    have hR : R (.ok (.ret (.bool false))) s := hall ▸ fin s h
    obtain ⟨hp, g, d, tk, os⟩ := s
    wp_walk using wpAny_loadPart' hl1
    have hi1 : items[((i : Nat) : Int).toNat]? = none := by simp; omega
    rw [hi1]
    wp_walk
    exact hR
  | succ k ih =>
    intro i hk hi hbs s h
    obtain ⟨items, n, hl1, hs1, turn⟩ := hl _ h
    have hlt : i < items.size := by omega
    have ht := turn i hlt
    obtain ⟨hp, g, d, tk, os⟩ := s
    wp_walk using wpAny_loadPart' hl1
    have hi1 : items[((i : Nat) : Int).toNat]? = some items[i] := by simp [hlt]
    have hc : ((i : Int) + 1) = ((i + 1 : Nat) : Int) := by omega
    rw [hi1]
    refine wpAny_bind (wpAny_mono ht (fun r s2 h2 => ?_) fun _ _ x => x)
    obtain ⟨hr, h2⟩ := h2
    cases hb : bs i with
    | true =>
      rw [hb] at hr
      subst hr
      have hall : (List.range N).any bs = true := by
        rw [List.any_eq_true]
        exact ⟨i, List.mem_range.mpr (by omega), hb⟩
      have hR : R (.ok (.ret (.bool true))) s2 := hall ▸ fin s2 h2
      obtain ⟨hp2, g2, d2, tk2, os2⟩ := s2
      wp_walk
      exact hR
    | false =>
      rw [hb] at hr
      subst hr
      have hrec := ih (i + 1) (by omega) (by omega) (fun j hj => by
        rcases Nat.lt_or_eq_of_le (Nat.le_of_lt_succ hj) with h | h
        · exact hbs j h
        · exact h ▸ hb) s2 h2
      obtain ⟨hp2, g2, d2, tk2, os2⟩ := s2
      wp_walk
      rw [hc]
      exact ⟨plainId_quiet plain_contains_loop _, codeAny_builtin entry_contains_loop (by
        rw [Around.under_plainId plain_contains_loop _]
        exact hrec)⟩
theorem list_contB (l : Addr) (x : Value) (N : Nat) (bs : Nat → Bool) (I : Shared → Prop) (hl : ContB prog w A (fun e s' => R (.error e) s') l x N bs I)
    (fin : ∀ s, I s → R (.ok (.ret (.bool ((List.range N).any bs)))) s) {s : Shared} (h : I s) :
    wpAny (model prog w) A.in1 (Builtin.«list.__contains__» ⟨[.ref l, x], []⟩) (GQ.FinOf prog w A R) (fun e s' => R (.error e) s') s := by
  obtain ⟨items, n, hl1, hs1, _⟩ := hl _ h
  have hrec := cont_loopB (A := A) (R := R) l x N bs I hl fin _ 0 rfl (Nat.zero_le _) (fun j hj => absurd hj (Nat.not_lt_zero _)) s h
  obtain ⟨hp, g, d, tk, os⟩ := s
  wp_walk using wpAny_loadPart' hl1
  exact ⟨plainId_quiet plain_contains_loop _, codeAny_builtin entry_contains_loop (by
    rw [Around.under_plainId plain_contains_loop _]
    exact hrec)⟩
end
section
variable {prog : Program} {w : World} {A : Around} {E : Value → Shared → Prop} {s : Shared}
theorem rc_listB {l b : Addr} {N : Nat} {bs : Nat → Bool} {Q : Value → Shared → Prop} (hu : A.units < cLine) (I : Shared → Prop) (hl : ListB prog w A E l b N bs I)
    (fin : ∀ s, I s → Q (.bool ((List.range N).all bs)) s) (h : I s) : wpAny (model prog w) A (richCompare .Eq (.ref l) (.ref b)) Q E s := by
  obtain ⟨items, items2, n, n2, hl1, hb1, _, _, _⟩ := hl _ h
  refine wpAny_richCompare_same_room (op := .Eq) ⟨_, hl1, rfl⟩ ⟨_, hb1, rfl⟩ F.slot_list_eq (GQ.call_here F.slot_list_eq ⟨_, hl1, rfl⟩ F.entry_list_eq (F.args_list_eq_2 _ _) ?_) hu
  exact list_eqB (R := wants (fun v s' => v ≠ .notImplemented ∧ Q v s') E) l b N bs I hl (fun s' q => ⟨(fun x => nomatch x), fin s' q⟩) h
theorem rc_listD {l b : Addr} {items items2 : Array Value} {n n2 : Nat} {Q : Value → Shared → Prop} (hu : A.units < cLine) (hl : s.heap.get? l = some { cls := .type "list", data := .seq items n }) (hb : s.heap.get? b = some { cls := .type "list", data := .seq items2 n2 }) (hne : items.size ≠ items2.size)
    (fin : Q (.bool false) s) : wpAny (model prog w) A (richCompare .Eq (.ref l) (.ref b)) Q E s := by
  refine wpAny_richCompare_same_room (op := .Eq) ⟨_, hl, rfl⟩ ⟨_, hb, rfl⟩ F.slot_list_eq ?_ hu
  exact call_meets F.slot_list_eq ⟨_, hl, rfl⟩ F.entry_list_eq (F.args_list_eq_2 _ _) (list_eq_lengthsAt l b items items2 n n2 none none #[] #[] (by simp [hne])) ⟨hl, hb, (fun x => nomatch x), fin⟩
end
end Bw

/-! == by own __eq__ over the layer: either answer; !=, in, lists of own objects -/
namespace Bw
open PySem PySem.Spec PyProof.Rows L2 LamX
/-- x == y answers b, by the abstract heap -/
abbrev Eqb := V → V → Hp → Bool → Prop
def MonB (D : Eqb) : Prop := ∀ x y H H' b, Same H H' → D x y H b → D x y H' b
def EqbX (X : Cx) (n : Nat) (D : Eqb) : Prop :=
  ∀ (A : Around) (pins : List (Addr × Obj)) (s : Shared) (σ : L2.St) (H : Hp) (x y : V) (u v : Value) (b : Bool), Sub X n A → Inv X pins σ H s → RelV x u → RelV y v → D x y H b →
    wpAny (model X.prog X.w) A (eqBool u v) (fun r s' => r = b ∧ ∃ H', Inv X pins σ H' s' ∧ Same H H') X.xe s
def RcbX (X : Cx) (n : Nat) (D : Eqb) : Prop :=
  ∀ (A : Around) (pins : List (Addr × Obj)) (s : Shared) (σ : L2.St) (H : Hp) (x y : V) (u v : Value) (b : Bool), Sub X n A → Inv X pins σ H s → RelV x u → RelV y v → D x y H b →
    wpAny (model X.prog X.w) A (richCompare .Eq u v) (fun r s' => r = .bool b ∧ ∃ H', Inv X pins σ H' s' ∧ Same H H') X.xe s
section
variable {X : Cx} {n m : Nat} {D D' : Eqb}
theorem EqbX.mono (h : EqbX X n D) (hn : n ≤ m) : EqbX X m D := fun A pins s σ H x y u v b sb => h A pins s σ H x y u v b (sb.mono hn)
theorem RcbX.mono (h : RcbX X n D) (hn : n ≤ m) : RcbX X m D := fun A pins s σ H x y u v b sb => h A pins s σ H x y u v b (sb.mono hn)
theorem RcbX.or (h : RcbX X n D) (h' : RcbX X n D') : RcbX X n (fun x y H b => D x y H b ∨ D' x y H b) := fun A pins s σ H x y u v b sb I rx ry d =>
  d.elim (h A pins s σ H x y u v b sb I rx ry) (h' A pins s σ H x y u v b sb I rx ry)
theorem EqbX.or (h : EqbX X n D) (h' : EqbX X n D') : EqbX X n (fun x y H b => D x y H b ∨ D' x y H b) := fun A pins s σ H x y u v b sb I rx ry d =>
  d.elim (h A pins s σ H x y u v b sb I rx ry) (h' A pins s σ H x y u v b sb I rx ry)
/-- data -/
def BData (K : PySem.W.Frag) : Eqb := fun x y H b => ∃ d e, Dp K H x d ∧ Dp K H y e ∧ SeqAt.shaped d = true ∧ SeqAt.shaped e = true ∧ PyData.eqv d e = b
theorem rcb_data : RcbX X 1 (BData X.K) := by
  intro A pins s σ H x y u v b sb I rx ry hd
  obtain ⟨d, e, hx, hy, sd, se, rfl⟩ := hd
  obtain ⟨as, r1⟩ := Dp.reads I d x u hx rx
  obtain ⟨bs, r2⟩ := Dp.reads I e y v hy ry
  exact SeqAt.compareEq_shaped r1 r2 sd se sb.room.units ⟨rfl, H, I, fun _ _ h => h⟩
theorem mon_data {K : PySem.W.Frag} : MonB (BData K) := fun x y H H' b s h => by
  obtain ⟨d, e, hx, hy, r⟩ := h
  exact ⟨d, e, same_dp s hx, same_dp s hy, r⟩
/-- the same object equals itself within lists; other ones as by == -/
def BSame (D : Eqb) : Eqb := fun x y H b => (∃ a, x = .ref a ∧ y = .ref a ∧ b = true) ∨ ((∃ a c, x = .ref a ∧ y = .ref c ∧ a ≠ c) ∧ D x y H b)
theorem RcbX.eqb (h : RcbX X n D) : EqbX X n (BSame D) := by
  intro A pins s σ H x y u v b sb I rx ry d
  rcases d with ⟨a, rfl, rfl, rfl⟩ | ⟨⟨a, c, rfl, rfl, hne⟩, d⟩
  · cases rx
    cases ry
    exact SeqAt.EqAt.same (A := A) (s := s) (.ref a) X.prog X.w X.xe _ ⟨rfl, H, I, fun _ _ h => h⟩
  · cases rx
    cases ry
    refine GQ.eqBool_refG hne (wpAny_mono (h A pins s σ H (.ref a) (.ref c) _ _ b sb I rfl rfl d) (fun r s' q => ?_) fun _ _ x => x)
    obtain ⟨hr', q⟩ := q
    exact ⟨b, hr', rfl, q⟩
theorem mon_same (h : MonB D) : MonB (BSame D) := fun x y H H' b s d => d.imp id fun ⟨e, d⟩ => ⟨e, h x y H H' b s d⟩
/-- own objects of the class C -/
def BIns (K : PySem.W.Frag) (C : Addr) (R : Addr → V → Hp → Bool → Prop) : Eqb := fun x y H b => ∃ a dx fs, x = .ref a ∧ H a = some (.ins C dx fs) ∧ Side K H C y ∧ R a y H b
def spEqb (R : Addr → V → Hp → Bool → Prop) : Sp := fun vs H Q _ => ∃ a y b, vs = [.ref a, y] ∧ R a y H b ∧ ∀ H', Same H H' → Q (.bl b) H'
theorem Side.same {K : PySem.W.Frag} {H H' : Hp} {C : Addr} {y : V} (h : Side K H C y) (s : Same H H') : Side K H' C y := by
  cases h with
  | int i h => exact .int i h
  | bl b h => exact .bl b h
  | str x h => exact .str x h
  | non h => exact .non h
  | lst e h => exact .lst (s _ _ e) h
  | tup e h => exact .tup (s _ _ e) h
  | own e => exact .own (s _ _ e)
theorem mon_ins' {K : PySem.W.Frag} {C : Addr} {R : Addr → V → Hp → Bool → Prop} (hR : ∀ a y H H' b, Same H H' → R a y H b → R a y H' b) : MonB (BIns K C R) := fun x y H H' b s d => by
  obtain ⟨a, dx, fs, e, h, sd, r⟩ := d
  exact ⟨a, dx, fs, e, s _ _ h, sd.same s, hR a y H H' b s r⟩
theorem rcb_ins {C : Addr} {ps : List Str} {R : Addr → V → Hp → Bool → Prop} (O : EqO X.prog X.w X.K X.mg X.base C n ps (spEqb R)) : RcbX X n (BIns X.K C R) := by
  intro A pins s σ H x y u v b sb I rx ry d
  obtain ⟨a, dx, fs, rfl, ha, hy, hR⟩ := d
  obtain ⟨f, fd, F, hs, hf, hb⟩ := O.ex
  cases rx
  obtain ⟨tb, lk, nf⟩ := side_looks I ry hy
  obtain ⟨mA, J, _⟩ := ins_get I.hok ha
  obtain ⟨od, J, _⟩ := J.look
  obtain ⟨m, hF⟩ := I.fr
  refine PySem.W.cmp_K (op := .Eq) sb.room.units0 hF I.ok.mod.kin J lk nf hs hf ?_
  have hsp : spEqb R [.ref a, y] H (fun v H' => v = .bl b ∧ Same H H') C8.E0 := ⟨a, y, b, rfl, hR, fun H' e => ⟨rfl, e⟩⟩
  have e0 : Env0 X.prog X.w X.K X.mg X.base A X.stack s H := by
    have e := I.env0
    exact ⟨by rw [sb.fr]; exact e.frames, e.mod, e.bs, e.bsz, e.funs, e.frf, e.hok, e.bare⟩
  have hl := F.len _ _ _ _ hsp
  have r2 : Vals [V.ref a, y] [Value.ref a, v] := .cons rfl (.cons ry .nil)
  refine wpAny_call (codeAny_mono (F.run A X.stack s H ⟨[.ref a, v], []⟩ [.ref a, v] [.ref a, y] _ _ sb.room e0 (by
    have := hb s [.ref a, v] I.kIn (by simpa using hl)
    simpa using this) r2 hsp) fun r s' hq => ?_)
  cases r with
  | error e => exact pass0 pins σ H s e s' I hq
  | ok fl =>
    cases fl with
    | ret w =>
      obtain ⟨z, H', I', rz, ez, ex⟩ := I.after hq
      subst ez
      cases rz
      exact ⟨rfl, H', I', ex⟩
    | next => exact False.elim hq
    | brk => exact False.elim hq
    | cont => exact False.elim hq
/-- lists -/
def BList (D : Eqb) : Eqb := fun x y H b => ∃ a c xs ys, x = .ref a ∧ y = .ref c ∧ H a = some (.lst xs) ∧ H c = some (.lst ys) ∧
  ((xs.length ≠ ys.length ∧ b = false) ∨ (xs.length = ys.length ∧ ∃ bs : Nat → Bool, (∀ i x y, xs[i]? = some x → ys[i]? = some y → D x y H (bs i)) ∧ b = (List.range xs.length).all bs))
theorem mon_list' (h : MonB D) : MonB (BList D) := fun x y H H' b s d => by
  obtain ⟨a, c, xs, ys, e1, e2, h1, h2, d⟩ := d
  refine ⟨a, c, xs, ys, e1, e2, s _ _ h1, s _ _ h2, d.imp id fun ⟨l, bs, hb, e⟩ => ⟨l, bs, fun i x y k1 k2 => h x y H H' _ s (hb i x y k1 k2), e⟩⟩
def LoopB (X : Cx) (pins : List (Addr × Obj)) (σ : L2.St) (H : Hp) (s' : Shared) : Prop := ∃ H', Inv X pins σ H' s' ∧ Same H H'
theorem turnB (hD : MonB D) (h : EqbX X n D) {A : Around} (sb : Sub X (n + 1) A) {pins : List (Addr × Obj)} {σ : L2.St} {H : Hp} {xs ys : List V} {its its2 : List Value} {bs : Nat → Bool}
    (p : ∀ i x y, xs[i]? = some x → ys[i]? = some y → D x y H (bs i)) (r : Vals xs its) (r2 : Vals ys its2)
    (i : Nat) (h1 : i < its.toArray.size) (h2 : i < its2.toArray.size) (s' : Shared) (l : LoopB X pins σ H s') :
    wpAny (model X.prog X.w) A.in1 (eqBool its.toArray[i] its2.toArray[i]) (fun r s2 => r = bs i ∧ LoopB X pins σ H s2) X.xe s' := by
  obtain ⟨H1, I1, e1⟩ := l
  have g1 : its[i]? = some its.toArray[i] := by
    have h1' : i < its.length := by simpa using h1
    rw [List.getElem?_eq_getElem h1'] <;> simp
  have g2 : its2[i]? = some its2.toArray[i] := by
    have h2' : i < its2.length := by simpa using h2
    rw [List.getElem?_eq_getElem h2'] <;> simp
  have k1 : i < xs.length := by rw [r.length]; simpa using h1
  have k2 : i < ys.length := by rw [r2.length]; simpa using h2
  obtain ⟨u, hu, ru⟩ := r.get (List.getElem?_eq_getElem k1)
  obtain ⟨v, hv, rv⟩ := r2.get (List.getElem?_eq_getElem k2)
  rw [g1] at hu
  rw [g2] at hv
  rw [Option.some.inj hu, Option.some.inj hv]
  refine wpAny_mono (h A.in1 pins s' σ H1 _ _ u v (bs i) sb.in1 I1 ru rv (hD _ _ _ _ _ e1 (p i _ _ (List.getElem?_eq_getElem k1) (List.getElem?_eq_getElem k2)))) (fun r s2 q => ?_) fun _ _ x => x
  obtain ⟨hr, H2, I2, e2⟩ := q
  exact ⟨hr, H2, I2, e1.trans e2⟩
theorem rcb_list (hD : MonB D) (h : EqbX X n D) : RcbX X (n + 1) (BList D) := by
  intro A pins s σ H x y u v b sb I rx ry d
  obtain ⟨a, c, xs, ys, rfl, rfl, ha, hc, d⟩ := d
  cases rx
  cases ry
  rcases d with ⟨hne, rfl⟩ | ⟨hl, bs, hb, rfl⟩
  · obtain ⟨z, its, k, r, e⟩ := I.hok a _ ha
    obtain ⟨z2, its2, k2, r2, e2⟩ := I.hok c _ hc
    exact rc_listD sb.room.units0 e e2 (by rw [List.size_toArray, List.size_toArray, ← r.length, ← r2.length]; exact hne) ⟨rfl, H, I, fun _ _ h => h⟩
  · refine rc_listB (N := xs.length) (bs := bs) sb.room.units0 (fun s' => LoopB X pins σ H s') (fun s' q => ?_) (fun s' q => ⟨rfl, q⟩) ⟨H, I, fun _ _ h => h⟩
    obtain ⟨H1, I1, e1⟩ := id q
    obtain ⟨z, its, k, r, e⟩ := I1.hok a _ (e1 _ _ ha)
    obtain ⟨z2, its2, k2, r2, e2⟩ := I1.hok c _ (e1 _ _ hc)
    refine ⟨its.toArray, its2.toArray, k, k2, e, e2, by rw [List.size_toArray, ← r.length], by rw [List.size_toArray, ← r2.length, hl], fun i h1 h2 => ?_⟩
    exact turnB hD h sb hb r r2 i h1 h2 s' q
/-- x == y as an expression -/
def rEqb (D : Eqb) : R2 := fun x y H Q => ∃ b, D x y H b ∧ ∀ H', Same H H' → Q (.bl b) H'
theorem op_eqb (h : RcbX X n D) (hr : Room n X.A) : OpR X (compareOp .Eq) (rEqb D) := by
  intro pins s σ H x y v u Q I rx ry hq
  obtain ⟨b, d, q⟩ := hq
  show wpAny (model X.prog X.w) X.A (richCompare .Eq v u) (EP X pins σ Q) X.xe s
  refine wpAny_mono (h X.A pins s σ H x y v u b ⟨hr, rfl⟩ I rx ry d) (fun r s' z => ?_) fun _ _ x => x
  obtain ⟨hr', H', I', e⟩ := z
  subst hr'
  exact ⟨.bl b, H', I', rfl, q H' e⟩
/-- the class's != is that of object -/
structure NeO (K : PySem.W.Frag) (C : Addr) : Prop where
  ne : PySem.W.findIn K (.ref C) "__ne__" = some (some (.builtin "object.__ne__"))
  so : PySem.W.subIn K (.ref C) (.type "object") = some true
/-- x != y by an own __eq__ -/
def rNeO (K : PySem.W.Frag) (C : Addr) (R : Addr → V → Hp → Bool → Prop) : R2 := fun x y H Q => ∃ b, BIns K C R x y H b ∧ ∀ H', Same H H' → Q (.bl (!b)) H'
theorem op_neO {C : Addr} {ps : List Str} {R : Addr → V → Hp → Bool → Prop} (O : EqO X.prog X.w X.K X.mg X.base C n ps (spEqb R)) (N : NeO X.K C) (hr : Room (n + 1) X.A) : OpR X (compareOp .NotEq) (rNeO X.K C R) := by
  intro pins s σ H x y v u Q I rx ry h
  obtain ⟨b, ⟨a, dx, fs, rfl, ha, hy, hR⟩, q⟩ := h
  obtain ⟨f, fd, F, hs, hf, hb⟩ := O.ex
  cases rx
  obtain ⟨tb, lk, nf⟩ := side_looks I ry hy
  obtain ⟨mA, J, _⟩ := ins_get I.hok ha
  obtain ⟨od, J, _⟩ := J.look
  obtain ⟨m, hF⟩ := I.fr
  show wpAny (model X.prog X.w) X.A (richCompare .NotEq (.ref a) u) (EP X pins σ Q) X.xe s
  have hu1 : X.A.units + 1 < cLine := by have := hr.units; omega
  refine cmp_ne hu1 hF I.ok.mod.kin J lk nf N.ne N.so hs hf ?_
  have hsp : spEqb R [.ref a, y] H (fun v H' => v = .bl b ∧ Same H H') C8.E0 := ⟨a, y, b, rfl, hR, fun H' e => ⟨rfl, e⟩⟩
  have sb : Sub X n X.A.in1 := Sub.in1 ⟨hr, rfl⟩
  have e0 : Env0 X.prog X.w X.K X.mg X.base X.A.in1 X.stack s H := by
    have e := I.env0
    exact ⟨by rw [sb.fr]; exact e.frames, e.mod, e.bs, e.bsz, e.funs, e.frf, e.hok, e.bare⟩
  have hl := F.len _ _ _ _ hsp
  have r2 : Vals [V.ref a, y] [Value.ref a, u] := .cons rfl (.cons ry .nil)
  refine wpAny_call (codeAny_mono (F.run X.A.in1 X.stack s H ⟨[.ref a, u], []⟩ [.ref a, u] [.ref a, y] _ _ sb.room e0 (by
    have := hb s [.ref a, u] I.kIn (by simpa using hl)
    simpa using this) r2 hsp) fun r s' hq => ?_)
  cases r with
  | error e => exact pass0 pins σ H s e s' I hq
  | ok fl =>
    cases fl with
    | ret w =>
      obtain ⟨z, H', I', rz, ez, ex⟩ := I.after hq
      subst ez
      cases rz
      exact ⟨b, rfl, .bl (!b), H', I', rfl, q H' ex⟩
    | next => exact False.elim hq
    | brk => exact False.elim hq
    | cont => exact False.elim hq
/-- x in a list -/
def rInB (D : Eqb) : R2 := fun x y H Q => ∃ l xs, y = .ref l ∧ H l = some (.lst xs) ∧ ∃ bs : Nat → Bool, (∀ i z, xs[i]? = some z → D z x H (bs i)) ∧ ∀ H', Same H H' → Q (.bl ((List.range xs.length).any bs)) H'
theorem op_inB (hD : MonB D) (h : EqbX X n D) (hr : Room (n + 1) X.A) : OpR X (compareOp .In) (rInB D) := by
  intro pins s σ H x y v u Q I rx ry hq
  obtain ⟨l, xs, rfl, hl, bs, hb, q⟩ := hq
  cases ry
  have key : ContB X.prog X.w X.A (fun e s' => wants (fun v s' => ∃ b, v = .bool b ∧ EP X pins σ Q (.bool b) s') X.xe (.error e) s') l v xs.length bs (fun s' => LoopB X pins σ H s') := by
    intro s' hI
    obtain ⟨H1, I1, e1⟩ := id hI
    obtain ⟨z, its, k, r, e⟩ := I1.hok l _ (e1 _ _ hl)
    refine ⟨its.toArray, k, e, by rw [List.size_toArray, ← r.length], fun i h1 => ?_⟩
    have h1' : i < its.length := by simpa using h1
    have g1 : its[i]? = some its.toArray[i] := by rw [List.getElem?_eq_getElem h1'] <;> simp
    have k1 : i < xs.length := by rw [r.length]; simpa using h1
    obtain ⟨u, hu, ru⟩ := r.get (List.getElem?_eq_getElem k1)
    rw [g1] at hu
    rw [Option.some.inj hu]
    refine wpAny_mono (h X.A.in1 pins s' σ H1 _ x u v (bs i) (Sub.in1 ⟨hr, rfl⟩) I1 ru rx (hD _ _ _ _ _ e1 (hb i _ (List.getElem?_eq_getElem k1)))) (fun r s2 q => ?_) fun _ _ x => x
    obtain ⟨hr, H2, I2, e2⟩ := q
    exact ⟨hr, H2, I2, e1.trans e2⟩
  obtain ⟨z, its, k, r, e⟩ := I.hok l _ hl
  show wpAny (model X.prog X.w) X.A (do return Value.bool (← contains (.ref l) v)) (EP X pins σ Q) X.xe s
  refine wpAny_bind (wpAny_contains_slot ⟨_, e, rfl⟩ F.slot_list_contains (wpAny_mono (Q := fun v s' => ∃ b, v = .bool b ∧ EP X pins σ Q (.bool b) s') (GQ.call_here F.slot_list_contains ⟨_, e, rfl⟩ F.entry_list_contains (F.args_list_contains_2 _ _)
    (list_contB (R := wants (fun v s' => ∃ b, v = .bool b ∧ EP X pins σ Q (.bool b) s') X.xe) l v xs.length bs (fun s' => LoopB X pins σ H s') key (fun s' hI => ?_) ⟨H, I, fun _ _ h => h⟩)) (fun v s' hv => ?_) fun _ _ e => e))
  · obtain ⟨H', I', e'⟩ := hI
    exact ⟨_, rfl, .bl _, H', I', rfl, q H' e'⟩
  · obtain ⟨b, rfl, hq⟩ := hv
    exact wpAny_truthy_bool (wpAny_pure hq)
end
/-! ### steps -/
section
variable {H : Hp} {Q : VK} {D : Eqb} {K : PySem.W.Frag} {x y : V}
theorem w_eqb {b : Bool} (d : D x y H b) (k : ∀ H', Same H H' → Q (.bl b) H') : rEqb D x y H Q := ⟨b, d, k⟩
theorem w_neO {C : Addr} {R : Addr → V → Hp → Bool → Prop} {b : Bool} (d : BIns K C R x y H b) (k : ∀ H', Same H H' → Q (.bl (!b)) H') : rNeO K C R x y H Q := ⟨b, d, k⟩
end
/-- either reading of an operator -/
def rOr (r r' : R2) : R2 := fun x y H Q => r x y H Q ∨ r' x y H Q
theorem op_or {X : Cx} {f : Value → Value → Sem Value} {r r' : R2} (h : OpR X f r) (h' : OpR X f r') : OpR X f (rOr r r') := fun pins s σ H x y v u Q I rx ry q =>
  q.elim (h pins s σ H x y v u Q I rx ry) (h' pins s σ H x y v u Q I rx ry)
/-- a class whose instances isinstance knows -/
structure Kls (K : PySem.W.Frag) (C : Addr) : Prop where
  cl : Cls K C
  ha : PySem.W.findIn K (.ref C) "__class__" = some (some (.builtin "object.__class__"))
  hn : PySem.W.specialIn K (.builtin "object.__class__") "__get__" = some (some (.builtin "getset_descriptor.__get__"))
  htk : PySem.W.takesIn K (.builtin "object.__class__") = some true
  hm : PySem.W.mroIn K C (.type "object") = some true
theorem Kls.ty {K : PySem.W.Frag} {H : Hp} {C a dx : Addr} {fs : List (Str × V)} (k : Kls K C) (h : H a = some (.ins C dx fs)) : TyX K H (.ref a) (.ref C) := .base (.ins h k.cl k.ha k.hn k.htk k.hm)
theorem kit_self {K : PySem.W.Frag} {C : Addr} : PySem.W.kitOne K (.ref C) (.ref C) = some true := by
  unfold PySem.W.kitOne
  rw [if_pos (beq_self_eq_true _)]
/-- no instance of C -/
def NotC (K : PySem.W.Frag) (H : Hp) (C : Addr) (y : V) : Prop := ∃ tv, TyX K H y tv ∧ PySem.W.kitOne K tv (.ref C) = some false
/-- what isinstance(x, C) says of the plain kinds -/
structure PlainNot (K : PySem.W.Frag) (C : Addr) : Prop where
  k : ∀ tv ∈ (["int", "bool", "str", "NoneType", "list", "tuple"] : List String), PySem.W.kitOne K (.type tv) (.ref C) = some false ∧ PySem.W.notFirst K C (.type tv) = true
def plainNotB (K : PySem.W.Frag) (C : Addr) : Bool := (["int", "bool", "str", "NoneType", "list", "tuple"] : List String).all fun tv => decide (PySem.W.kitOne K (.type tv) (.ref C) = some false) && PySem.W.notFirst K C (.type tv)
theorem plainNotB_ok {K : PySem.W.Frag} {C : Addr} (h : plainNotB K C = true) : PlainNot K C := ⟨fun tv ht => by
  unfold plainNotB at h
  rw [List.all_eq_true] at h
  have := h tv ht
  simp only [Bool.and_eq_true, decide_eq_true_eq] at this
  exact this⟩
theorem PlainNot.of {K : PySem.W.Frag} {H : Hp} {C : Addr} {y : V} (p : PlainNot K C) (h : Thg H y) : NotC K H C y ∧ Side K H C y := by
  cases h with
  | non => exact ⟨⟨_, tyx_non, (p.k _ (by simp)).1⟩, .non (p.k _ (by simp)).2⟩
  | int i => exact ⟨⟨_, tyx_int, (p.k _ (by simp)).1⟩, .int _ (p.k _ (by simp)).2⟩
  | bl b => exact ⟨⟨_, tyx_bl, (p.k _ (by simp)).1⟩, .bl _ (p.k _ (by simp)).2⟩
  | str x => exact ⟨⟨_, tyx_str, (p.k _ (by simp)).1⟩, .str _ (p.k _ (by simp)).2⟩
  | lst e => exact ⟨⟨_, tyx_lst e, (p.k _ (by simp)).1⟩, .lst e (p.k _ (by simp)).2⟩
  | tup e => exact ⟨⟨_, tyx_tup e, (p.k _ (by simp)).1⟩, .tup e (p.k _ (by simp)).2⟩
theorem w_isiO {K : PySem.W.Frag} {H : Hp} {C : Addr} {y : V} {tv : Value} {k : Bool} {Q : VK} (h : TyX K H y tv) (hk : PySem.W.kitOne K tv (.ref C) = some k) (q : Q (.bl k) H) : rIsi K [y, .ref C] H Q := w_isi (.own C) h hk q
end Bw

namespace Bw
open PySem PySem.Spec PyProof.Rows L2 LamX
section
variable {K : PySem.W.Frag} {H : Hp} {Q : VK}
theorem dpAll_ix : ∀ {xs : List V} {ds : List PyData}, xs.length = ds.length → (∀ (i : Nat) x d, xs[i]? = some x → ds[i]? = some d → Dp K H x d) → DpAll K H xs ds
  | [], [], _, _ => .nil
  | [], _ :: _, h, _ => by cases h
  | _ :: _, [], h, _ => by cases h
  | x :: xs, d :: ds, h, k => .cons (k 0 x d rfl rfl) (dpAll_ix (by simpa using h) fun i y e h1 h2 => k (i + 1) y e h1 h2)
theorem w_rep {l : Addr} {xs : List V} {n : Int} (h : H l = some (.lst xs)) (h0 : -1000 ≤ n) (h1 : n ≤ 100000) (hl : xs.length * n.toNat ≤ 100000) (k : ∀ p H2, H p = none → Same H H2 → H2 p = some (.lst (List.replicate n.toNat xs).flatten) → Q (.ref p) H2) : rRep (.ref l) (.int n) H Q :=
  ⟨l, n, xs, rfl, rfl, h, by omega, by omega, Nat.le_trans hl (by decide), fun p np => k p _ np (same_new np) upd_same⟩
/-- a list is the empty one -/
theorem w_eqNil {x y : V} {ds : List PyData} {n : Nat} (hx : Dp K H x (.list ds)) (hy : Dp K H y (.list [])) (g : GoodD (.list ds) n) (hn : n ≤ 64) (q : Q (.bl ds.isEmpty) H) : rEqD K x y H Q := by
  refine w_eqD hx hy (g.shaped hn) (by simp [SeqAt.shaped, PyData.canLay0, PyData.canLayAll0, PyData.depth, PyData.depthAll]) (k := ds.isEmpty) ?_ q
  cases ds <;> simp [PyData.eqv, PyData.eqvAll]
theorem w_neNil {x y : V} {ds : List PyData} {n : Nat} (hx : Dp K H x (.list ds)) (hy : Dp K H y (.list [])) (g : GoodD (.list ds) n) (hn : n ≤ 64) (q : Q (.bl (!ds.isEmpty)) H) : rNeD K x y H Q := by
  refine w_neD hx hy (g.shaped hn) (by simp [SeqAt.shaped, PyData.canLay0, PyData.canLayAll0, PyData.depth, PyData.depthAll]) (k := ds.isEmpty) ?_ q
  cases ds <;> simp [PyData.eqv, PyData.eqvAll]
/-- a reading whose answer is known, what is behind it once -/
theorem w_val {te : TE} {σ : L2.St} {v : V} {H' : Hp} (h : ∀ Q' : VK, Q' v H' → te σ H Q') (k : Q v H') : te σ H Q := h Q k
theorem tyx_same {H' : Hp} {v : V} {t : Value} (h : TyX K H v t) (s : Same H H') : TyX K H' v t := by
  cases h with
  | base h =>
    refine .base ?_
    cases h with
    | non => exact .non
    | bl x => exact .bl x
    | int i => exact .int i
    | str x => exact .str x
    | flt x => exact .flt x
    | lst e => exact .lst (s _ _ e)
    | frz e => exact .frz (s _ _ e)
    | tup e => exact .tup (s _ _ e)
    | dK e => exact .dK (s _ _ e)
    | dT e => exact .dT (s _ _ e)
    | ins e cl ha hn htk hm => exact .ins (s _ _ e) cl ha hn htk hm
  | byt b => exact .byt b
  | set e => exact .set (s _ _ e)
  | kList e c => exact .kList e c
  | kTuple e c => exact .kTuple e c
  | kDict e c => exact .kDict e c
  | fTuple e => exact .fTuple (s _ _ e)
  | fDict e => exact .fDict (s _ _ e)
end
end Bw

/-! len, str, repr by own methods -/
namespace Bw
open PySem PySem.Spec PyProof.Rows L2 LamX
/-- a class's own special method m -/
structure Spc (P : Program) (w : World) (K : PySem.W.Frag) (mg : Str → Option Value) (base : Heap) (C : Addr) (m : Str) (k : Nat) (ps : List Str) (sp : Sp) : Prop where
  ex : ∃ (f : Addr) (fd : FuncData), FnOk P w K mg base CX0 k f fd ps sp ∧ PySem.W.findIn K (.ref C) m = some (some (.ref f)) ∧ PySem.W.isFn K (.ref f) = true ∧ Binds K fd ps []
section
variable {X : Cx}
theorem run_spc {k : Nat} {f : Addr} {fd : FuncData} {ps : List Str} {sp : Sp} {A : Around} {pins : List (Addr × Obj)} {σ : L2.St} {H : Hp} {s : Shared} {a : Addr} {Q : VK} (F : FnOk X.prog X.w X.K X.mg X.base CX0 k f fd ps sp) (hb : Binds X.K fd ps []) (sb : Sub X k A) (I : L2.Inv X pins σ H s) (h : sp [.ref a] H Q C8.E0) :
    wpAny (model X.prog X.w) A (call (.ref f) [.ref a]) (EP X pins σ Q) X.xe s := by
  have e0 : Env0 X.prog X.w X.K X.mg X.base A X.stack s H := by
    have e := I.env0
    exact ⟨by rw [sb.fr]; exact e.frames, e.mod, e.bs, e.bsz, e.funs, e.frf, e.hok, e.bare⟩
  have hl := F.len _ _ _ _ h
  have r2 : Vals [V.ref a] [Value.ref a] := .cons rfl .nil
  refine wpAny_call (codeAny_mono (F.run A X.stack s H ⟨[.ref a], []⟩ [.ref a] [.ref a] _ _ sb.room e0 (by
    have := hb s [.ref a] I.kIn (by simpa using hl)
    simpa using this) r2 h) fun r s' hq => ?_)
  cases r with
  | error e => exact pass0 pins σ H s e s' I hq
  | ok fl =>
    cases fl with
    | ret w => exact I.after hq
    | next => exact False.elim hq
    | brk => exact False.elim hq
    | cont => exact False.elim hq
/-- len(o) -/
def rLenO (C : Addr) (sp : Sp) : List V → Hp → VK → Prop := fun xs H Q => ∃ a dx fs, xs = [.ref a] ∧ H a = some (.ins C dx fs) ∧ sp [.ref a] H (fun v H' => ∃ n : Nat, v = .int n ∧ n < 2 ^ 63 ∧ Q (.int n) H') C8.E0
theorem cl_lenO {C : Addr} {k : Nat} {ps : List Str} {sp : Sp} (O : Spc X.prog X.w X.K X.mg X.base C "__len__" k ps sp) (hr : Room (k + 1) X.A) : CallR X (.builtin "len") (rLenO C sp) := by
  intro pins s σ H xs us Q I rv h
  obtain ⟨a, dx, fs, rfl, ha, hsp⟩ := h
  obtain ⟨f, fd, F, hs, hf, hb⟩ := O.ex
  cases rv with
  | cons r0 rt =>
    cases rt
    cases r0
    obtain ⟨mA, J, _⟩ := ins_get I.hok ha
    obtain ⟨od, J, _⟩ := J.look
    obtain ⟨m, hF⟩ := I.fr
    refine PySem.W.len_K hF I.ok.mod.kin J hs hf (wpAny_mono (run_spc F hb (Sub.in1 ⟨hr, rfl⟩) I hsp) (fun u s' hq => ?_) fun _ _ e => e)
    obtain ⟨v, H', I', rz, n, rfl, hn, q⟩ := hq
    obtain ⟨t, rfl⟩ := rz
    exact ⟨⟨by omega, by omega⟩, .int n, H', I'.tok _, ⟨_, rfl⟩, q⟩
/-- repr(o), str(o) -/
def rTxtO (C : Addr) (sp : Sp) : List V → Hp → VK → Prop := fun xs H Q => ∃ a dx fs, xs = [.ref a] ∧ H a = some (.ins C dx fs) ∧ sp [.ref a] H (fun v H' => ∃ x : Str, v = .str x ∧ Q (.str x) H') C8.E0
theorem cl_reprO {C : Addr} {k : Nat} {ps : List Str} {sp : Sp} (O : Spc X.prog X.w X.K X.mg X.base C "__repr__" k ps sp) (hr : Room (k + 1) X.A) : CallR X (.builtin "repr") (rTxtO C sp) := by
  intro pins s σ H xs us Q I rv h
  obtain ⟨a, dx, fs, rfl, ha, hsp⟩ := h
  obtain ⟨f, fd, F, hs, hf, hb⟩ := O.ex
  cases rv with
  | cons r0 rt =>
    cases rt
    cases r0
    obtain ⟨mA, J, _⟩ := ins_get I.hok ha
    obtain ⟨od, J, _⟩ := J.look
    obtain ⟨m, hF⟩ := I.fr
    refine PySem.W.repr_K (Sub.in1 (X := X) ⟨hr, rfl⟩).room.units0 hF I.ok.mod.kin J hs hf (wpAny_mono (run_spc F hb (Sub.in1 ⟨hr, rfl⟩) I hsp) (fun u s' hq => ?_) fun _ _ e => e)
    obtain ⟨v, H', I', rz, x, rfl, q⟩ := hq
    obtain ⟨t, rfl⟩ := rz
    exact ⟨.str x, H', I', ⟨_, rfl⟩, q⟩
theorem cl_strO {C : Addr} {k : Nat} {ps : List Str} {sp : Sp} (O : Spc X.prog X.w X.K X.mg X.base C "__str__" k ps sp) (hr : Room (k + 2) X.A) : CallR X (.type "str") (rTxtO C sp) := by
  intro pins s σ H xs us Q I rv h
  obtain ⟨a, dx, fs, rfl, ha, hsp⟩ := h
  obtain ⟨f, fd, F, hs, hf, hb⟩ := O.ex
  cases rv with
  | cons r0 rt =>
    cases rt
    cases r0
    obtain ⟨mA, J, _⟩ := ins_get I.hok ha
    obtain ⟨od, J, _⟩ := J.look
    have sb : Sub X k X.A.in1.in1 := Sub.in1 (Sub.in1 ⟨hr, rfl⟩)
    refine PySem.W.kso_call sb.room.units0 I.kIn J hs hf (wpAny_mono (run_spc F hb sb I hsp) (fun u s' hq => ?_) fun _ _ e => e)
    obtain ⟨v, H', I', rz, x, rfl, q⟩ := hq
    obtain ⟨t, rfl⟩ := rz
    exact ⟨.str x, H', I', ⟨_, rfl⟩, q⟩
/-- either reading of a call -/
def rOrC (r r' : List V → Hp → VK → Prop) : List V → Hp → VK → Prop := fun xs H Q => r xs H Q ∨ r' xs H Q
theorem cl_or {f : Value} {r r' : List V → Hp → VK → Prop} (h : CallR X f r) (h' : CallR X f r') : CallR X f (rOrC r r') := fun pins s σ H xs us Q I rv q =>
  q.elim (h pins s σ H xs us Q I rv) (h' pins s σ H xs us Q I rv)
def tJoin (ts : List TE) : TE := fun σ H Q => tJs ts Str.empty σ H fun out H1 => Q (.str out) H1
theorem pe_fj {v1 v2 : Expr} {rest : List Expr} {ts : List TE} {pos : Pos} (h : PJ X (v1 :: v2 :: rest) ts) : PE X (.JoinedStr (v1 :: v2 :: rest) pos) (tJoin ts) := pe_joined h
end
theorem u1_of {k : Nat} {A : Around} (r : Room k A) : A.units + 1 < cLine := by have := r.un; omega
section
variable {σ : L2.St} {H : Hp} {Q : VK} {te : TE}
theorem w_lenO {C a dx : Addr} {fs : List (Str × V)} {sp : Sp} (h : H a = some (.ins C dx fs)) (k : sp [.ref a] H (fun v H' => ∃ n : Nat, v = .int n ∧ n < 2 ^ 63 ∧ Q (.int n) H') C8.E0) : rLenO C sp [.ref a] H Q := ⟨a, dx, fs, rfl, h, k⟩
theorem w_txtO {C a dx : Addr} {fs : List (Str × V)} {sp : Sp} (h : H a = some (.ins C dx fs)) (k : sp [.ref a] H (fun v H' => ∃ x : Str, v = .str x ∧ Q (.str x) H') C8.E0) : rTxtO C sp [.ref a] H Q := ⟨a, dx, fs, rfl, h, k⟩
theorem w_fmtE (h : te σ H fun x H1 => (∃ y : Str, x = .str y ∧ y.length ≤ sizeLine ∧ Q (.str y) H1) ∨ ∃ i : Int, x = .int i ∧ i.natAbs.log2 < 1920 ∧ Q (.str (toString i)) H1) : tFmt te σ H Q := h
theorem w_fmtS {y : Str} {R : V → Prop} (hl : y.length ≤ sizeLine) (q : R (.str y)) : (∃ z : Str, V.str y = .str z ∧ z.length ≤ sizeLine ∧ R (.str z)) ∨ ∃ i : Int, V.str y = .int i ∧ i.natAbs.log2 < 1920 ∧ R (.str (toString i)) := .inl ⟨y, rfl, hl, q⟩
theorem w_fmtI {i : Int} {R : V → Prop} (h : i.natAbs < 2 ^ 1919) (q : R (.str (toString i))) : (∃ z : Str, V.int i = .str z ∧ z.length ≤ sizeLine ∧ R (.str z)) ∨ ∃ j : Int, V.int i = .int j ∧ j.natAbs.log2 < 1920 ∧ R (.str (toString j)) :=
  .inr ⟨i, rfl, PySem.Flt.log2_lt_of (by decide) (Nat.lt_of_lt_of_le h (Nat.pow_le_pow_right (by decide) (by decide))), q⟩
theorem w_fmtRE (h : te σ H fun x H1 => (∃ y : Str, x = .str y ∧ (reprText y).length ≤ sizeLine ∧ Q (.str (reprText y)) H1) ∨ ∃ i : Int, x = .int i ∧ i.natAbs.log2 < 1920 ∧ Q (.str (toString i)) H1) : tFmtR te σ H Q := h
theorem w_isB {a b : Bool} (q : Q (.bl (decide (a = b))) H) : rIsB (.bl a) (.bl b) H Q := ⟨a, b, rfl, rfl, q⟩
theorem w_isnB {a b : Bool} (q : Q (.bl (!decide (a = b))) H) : rNotB (.bl a) (.bl b) H Q := ⟨a, b, rfl, rfl, q⟩
theorem w_dget2 {td ty tx : TE} (h : td σ H fun x H1 => ∃ a, x = .ref a ∧ IsD H1 a ∧ ty σ H1 fun y H2 => tx σ H2 fun z H3 => ∃ o, DGet H3 a y o ∧ Q (o.getD z) H3) : tDGet2 td ty tx σ H Q := h
theorem w_dgetK {a : Addr} {kvs : List (Key × V)} {k : Key} {y z : V} {R : V → Prop} (h : H a = some (.dK kvs)) (hy : y = kV k) (q : R ((valV kvs k).getD z)) : ∃ o, DGet H a y o ∧ R (o.getD z) := ⟨valV kvs k, .inl ⟨kvs, k, .inl h, hy, rfl⟩, q⟩
theorem w_joinE {ts : List TE} (h : tJs ts Str.empty σ H fun out H1 => Q (.str out) H1) : tJoin ts σ H Q := h
theorem w_js {t : TE} {ts : List TE} {acc : Str} {QS : Str → Hp → Prop} (h : t σ H fun x H1 => ∃ y : Str, x = .str y ∧ (acc ++ y).length ≤ sizeLine ∧ tJs ts (acc ++ y) σ H1 QS) : tJs (t :: ts) acc σ H QS := h
theorem w_jn {acc : Str} {QS : Str → Hp → Prop} (h : QS acc H) : tJs [] acc σ H QS := h
theorem w_jt {acc y : Str} {R : Str → Prop} (hl : acc.length + y.length ≤ sizeLine) (h : R y) : ∃ z : Str, V.str y = .str z ∧ (acc ++ z).length ≤ sizeLine ∧ R z := ⟨y, rfl, by rw [Str.length_append]; exact hl, h⟩
end
end Bw

/-! words and texts of words, plainly -/
namespace Bw
open PySem PySem.Spec PyProof.Rows L2 LamX
def abc : Str := "abcdefghijklmnopqrstuvwxyz"
def isW (x : Str) : Bool := decide (1 ≤ x.length ∧ x.length ≤ 12) && x.cps.toList.all fun c => decide (c ∈ abc.cps.toList)
def isWV : V → Bool
  | .str x => isW x
  | _ => false
def okWs (ws : List Str) : Bool := decide (ws.length ≤ 120) && ws.all isW
def okVs (xs : List V) : Bool := decide (xs.length ≤ 120) && xs.all isWV
theorem okVs_str (ws : List Str) : okVs (ws.map V.str) = okWs ws := by
  unfold okVs okWs
  rw [List.length_map, List.all_map]
  rfl
theorem strs_of : ∀ {xs : List V}, xs.all isWV = true → ∃ ws : List Str, xs = ws.map V.str
  | [], _ => ⟨[], rfl⟩
  | x :: r, h => by
    rw [List.all_cons, Bool.and_eq_true] at h
    obtain ⟨ws, rfl⟩ := strs_of h.2
    cases x with
    | str y => exact ⟨y :: ws, rfl⟩
    | _ => exact absurd h.1 (by unfold isWV; exact Bool.noConfusion)
theorem okVs_of {xs : List V} (h : okVs xs = true) : ∃ ws : List Str, xs = ws.map V.str ∧ okWs ws = true := by
  have h2 := h
  unfold okVs at h2
  rw [Bool.and_eq_true] at h2
  obtain ⟨ws, rfl⟩ := strs_of h2.2
  exact ⟨ws, rfl, (okVs_str ws) ▸ h⟩
def wsOf (x : Str) : List Str := if x = "" then [] else Txt.split x " "
theorem split_bounds (x : Str) (h : x.length ≤ 40000) : (wsOf x).length ≤ 50000 ∧ ∀ y ∈ wsOf x, y.length ≤ 100000 := by
  unfold wsOf
  split
  · simp
  · have h1 := PyProof.Rows.split_weight x " " (Nat.le_refl 1)
    refine ⟨by omega, fun y hy => ?_⟩
    have h2 := le_sum (List.mem_map.mpr ⟨y, hy, rfl⟩ : y.length ∈ (Txt.split x " ").map (·.length))
    omega
theorem txtv_strs {H : Hp} {ws : List Str} (h : ∀ y ∈ ws, y.length ≤ 100000) : ∀ x ∈ ws.map V.str, TxtV H x := fun x hx => by
  obtain ⟨y, hy, rfl⟩ := List.mem_map.mp hx
  exact .inl ⟨y, rfl, h y hy⟩
theorem isW_len {x : Str} (h : isW x = true) : x.length ≤ 12 := by
  unfold isW at h
  simp only [Bool.and_eq_true, decide_eq_true_eq] at h
  exact h.1.2
theorem ok_bounds {ws : List Str} (h : okWs ws = true) : ws.length ≤ 120 ∧ (∀ y ∈ ws, y.length ≤ 12) ∧ (ws.map (·.length)).sum ≤ 1440 := by
  unfold okWs at h
  simp only [Bool.and_eq_true, decide_eq_true_eq, List.all_eq_true] at h
  have h2 : ∀ y ∈ ws, y.length ≤ 12 := fun y hy => isW_len (h.2 y hy)
  refine ⟨h.1, h2, ?_⟩
  have h3 := sum_le (l := ws.map (·.length)) (c := 12) (fun x hx => by
    obtain ⟨y, hy, rfl⟩ := List.mem_map.mp hx
    exact h2 y hy)
  rw [List.length_map] at h3
  omega
theorem isW_strOk {x : Str} (h : isW x = true) : PyData.strOk x = true := by
  unfold isW at h
  simp only [Bool.and_eq_true, decide_eq_true_eq, List.all_eq_true] at h
  unfold PyData.strOk
  rw [Array.all_eq_true']
  intro c hc
  have h1 := h.2 c (Array.mem_toList_iff.mpr hc)
  have h2 : ∀ c ∈ abc.cps.toList, c < 0x110000 := by decide +kernel
  exact decide_eq_true (h2 c h1)
theorem okWs_all {ws : List Str} (h : okWs ws = true) : ∀ b ∈ ws, isW b = true := by
  unfold okWs at h
  simp only [Bool.and_eq_true, decide_eq_true_eq, List.all_eq_true] at h
  exact h.2
theorem ok_strs {ws : List Str} (h : okWs ws = true) : ∀ b ∈ ws, PyData.strOk b = true := fun b hb => isW_strOk (okWs_all h b hb)
theorem join_ws (x : Str) : Txt.join " " (wsOf x) = x := by
  unfold wsOf
  split
  · rename_i h
    rw [h]
    rfl
  · rw [txt_join]
    exact StrLaws.join_split x " "
theorem join_ne {ws : List Str} (h : ∀ b ∈ ws, isW b = true) (hn : ws ≠ []) : Txt.join " " ws ≠ "" := by
  intro e
  rw [txt_join] at e
  cases ws with
  | nil => exact hn rfl
  | cons b r =>
    have h1 := PyProof.Rows.len_join_cons " " b r
    rw [e] at h1
    have h2 := h b List.mem_cons_self
    unfold isW at h2
    simp only [Bool.and_eq_true, decide_eq_true_eq] at h2
    have h3 : ("" : Str).length = 0 := rfl
    rw [h3] at h1
    simp only [List.map_cons, List.sum_cons] at h1
    omega
theorem ws_join {ws : List Str} (h : ∀ b ∈ ws, isW b = true) : wsOf (Txt.join " " ws) = ws := by
  unfold wsOf
  cases hw : ws with
  | nil => rfl
  | cons b r =>
    rw [← hw, if_neg (join_ne h (by rw [hw]; simp))]
    refine TL.split_join (s := 32) (S := []) rfl (by decide +kernel) (by rw [hw]; simp) (fun p hp z => ?_)
    have h2 := h p hp
    unfold isW at h2
    simp only [Bool.and_eq_true, decide_eq_true_eq, List.all_eq_true] at h2
    have h3 := h2.2 32 z
    revert h3
    decide +kernel
theorem isW_signs {x : Str} (h : isW x = true) : ∀ c ∈ x.cps.toList, 97 ≤ c ∧ c ≤ 122 := by
  unfold isW at h
  simp only [Bool.and_eq_true, decide_eq_true_eq, List.all_eq_true] at h
  have key : ∀ c ∈ abc.cps.toList, 97 ≤ c ∧ c ≤ 122 := by decide +kernel
  exact fun c hc => key c (h.2 c hc)
/-- the places of a word -/
def plc (ws : List Str) (w : Str) : List Nat := (List.range ws.length).filter fun i => decide (ws[i]? = some w)
theorem plc_snoc (ws : List Str) (u w : Str) : plc (ws ++ [u]) w = plc ws w ++ (if u = w then [ws.length] else []) := by
  unfold plc
  rw [List.length_append, List.length_singleton, List.range_succ, List.filter_append]
  congr 1
  · refine List.filter_congr fun i hi => ?_
    rw [List.mem_range] at hi
    rw [List.getElem?_append_left hi]
  · rw [List.filter_cons, List.filter_nil, List.getElem?_append_right (Nat.le_refl _), Nat.sub_self]
    by_cases h : u = w
    · simp [h]
    · simp [h]
theorem plc_nil (w : Str) : plc [] w = [] := rfl
theorem plc_len (ws : List Str) (w : Str) : (plc ws w).length ≤ ws.length := by
  have := List.length_filter_le (fun i => decide (ws[i]? = some w)) (List.range ws.length)
  rwa [List.length_range] at this
theorem plc_none {ws : List Str} {w : Str} (h : w ∉ ws) : plc ws w = [] := by
  unfold plc
  rw [List.filter_eq_nil_iff]
  intro i _ hi
  exact h (List.mem_of_getElem? (of_decide_eq_true hi))
/-- repr of a text of letters and blanks -/
theorem repr_plain {x : Str} (h : ∀ c ∈ x.cps.toList, c = 32 ∨ (97 ≤ c ∧ c ≤ 122)) : reprText x = S (39 :: (x.cps.toList ++ [39])) := by
  have hq : PySem.reprQuote x = 39 := by
    have h39 : ¬ 39 ∈ x.cps.toList := fun z => by
      have := h 39 z
      omega
    have : x.cps.contains 39 = false := by
      rw [Bool.eq_false_iff]
      intro z
      exact h39 (by simpa using z)
    unfold PySem.reprQuote
    rw [this]
    rfl
  have hc : ∀ c ∈ x.cps.toList, Builtin.Str.reprChar 39 c = [c] := by
    have key : ∀ c, c < 128 → (c = 32 ∨ (97 ≤ c ∧ c ≤ 122)) → Builtin.Str.reprChar 39 c = [c] := by decide +kernel
    intro c hc
    have := h c hc
    exact key c (by omega) this
  refine str_ext ?_
  unfold reprText
  rw [hq]
  show ((x.cps.foldl (fun out c => out ++ (Builtin.Str.reprChar 39 c).toArray) #[39]).push 39).toList = _
  rw [Array.toList_push, ← Array.foldl_toList]
  have key : ∀ (l : List Nat) (acc : Array Nat), (∀ c ∈ l, Builtin.Str.reprChar 39 c = [c]) → (l.foldl (fun out c => out ++ (Builtin.Str.reprChar 39 c).toArray) acc).toList = acc.toList ++ l := by
    intro l
    induction l with
    | nil => intro acc _; simp
    | cons c r ih =>
      intro acc hl
      rw [List.foldl_cons, ih _ (fun d hd => hl d (List.mem_cons_of_mem _ hd)), hl c List.mem_cons_self]
      simp
  rw [key _ _ hc]
  rfl
theorem join_signs {ws : List Str} (h : ∀ b ∈ ws, isW b = true) : ∀ c ∈ (Txt.join " " ws).cps.toList, c = 32 ∨ (97 ≤ c ∧ c ≤ 122) := by
  rw [txt_join]
  induction ws with
  | nil => intro c hc; exact absurd hc (by show ¬ c ∈ ([] : List Nat); simp)
  | cons b r ih =>
    cases r with
    | nil =>
      intro c hc
      exact .inr (isW_signs (h b List.mem_cons_self) c hc)
    | cons d r =>
      intro c hc
      have e : Str.join (" " : Str) (b :: d :: r) = b ++ (" " : Str) ++ Str.join (" " : Str) (d :: r) := rfl
      rw [e, cps_append, cps_append] at hc
      rcases List.mem_append.mp hc with hc | hc
      · rcases List.mem_append.mp hc with hc | hc
        · exact .inr (isW_signs (h b List.mem_cons_self) c hc)
        · left
          have : c ∈ ([32] : List Nat) := hc
          simpa using this
      · exact ih (fun x hx => h x (List.mem_cons_of_mem _ hx)) c hc
theorem join_len {ws : List Str} (h : ∀ b ∈ ws, isW b = true) : (Txt.join " " ws).length ≤ ws.length * 13 := by
  have hsum := sum_le (l := ws.map (·.length)) (c := 12) (fun x hx => by
    obtain ⟨y, hy, rfl⟩ := List.mem_map.mp hx
    exact isW_len (h y hy))
  rw [List.length_map] at hsum
  rw [txt_join]
  cases hys : ws with
  | nil => decide +kernel
  | cons y rr =>
    have h1s : (" " : Str).length = 1 := rfl
    rw [PyProof.Rows.len_join_cons, h1s, ← hys]
    have : ws.length = rr.length + 1 := by rw [hys]; rfl
    omega
end Bw

namespace Bw
open PySem PySem.Spec PyProof.Rows L2 LamX
/-! ### comprehensions with two fors -/
def NxJ (D : Addr) (i : Nat) (Iv : Nat → List V → Hp → Prop) : Hp → Prop := fun H' => ∃ acc', H' D = some (.lst acc') ∧ Iv (i + 1) acc' H'
theorem w_accJ {D : Addr} {i : Nat} {Iv : Nat → List V → Hp → Prop} {acc : List V} {y : V} {H4 : Hp} (hD : H4 D = some (.lst acc)) (hn : acc.length ≤ 100000) (k : ∀ H5, KB D H4 H5 → H5 D = some (.lst (acc ++ [y])) → Iv (i + 1) (acc ++ [y]) H5) :
    ∃ acc, H4 D = some (.lst acc) ∧ acc.length < sizeLine ∧ NxJ D i Iv (upd H4 D (.lst (acc ++ [y]))) := ⟨acc, hD, Nat.lt_of_le_of_lt hn (by decide), acc ++ [y], upd_same, k _ kb_upd upd_same⟩
theorem in_fin {J : It} {n : Nat} {ok : Hp → Prop} {it : Nat → V → Hp → Hp → Prop} {g : TG} {tt : TT} {te : TE} {vs : List Nat} {σ : L2.St} {H1 : Hp} {D : Addr} {Nx : Hp → Prop} (F : Fini J n ok it) (Jv : Nat → List V → Hp → Prop)
    (h0 : ∃ acc, H1 D = some (.lst acc) ∧ Jv 0 acc H1) (hl : ∀ i acc H, i ≤ n → Jv i acc H → ok H)
    (hs : ∀ i x acc H H', i < n → Jv i acc H → H D = some (.lst acc) → it i x H H' → g x (wipe σ vs) H' fun σ2 H2 => wipe σ2 vs = wipe σ vs ∧ tt σ2 H2 fun b H3 =>
      if b = true then te σ2 H3 fun y H4 => ∃ acc, H4 D = some (.lst acc) ∧ acc.length < sizeLine ∧ NxJ D i Jv (upd H4 D (.lst (acc ++ [y]))) else NxJ D i Jv H3)
    (hd : ∀ acc H, Jv n acc H → H D = some (.lst acc) → Nx H) :
    ∃ W1 : Nat → Nat → Hp → Prop, (∃ m, W1 0 m H1) ∧ ∀ j k H, W1 j k H →
      (J.stop j H ∧ Nx H) ∨ (J.go j H ∧ ∃ Nx1 : Hp → Prop, (∀ H', Nx1 H' → ∃ k', k' < k ∧ W1 (j + 1) k' H') ∧ ∀ x H', J.yld j H x H' → g x (wipe σ vs) H' fun σ3 H5 => wipe σ3 vs = wipe σ vs ∧ tt σ3 H5 fun b H6 =>
        if b = true then te σ3 H6 fun y H7 => ∃ acc, H7 D = some (.lst acc) ∧ acc.length < sizeLine ∧ Nx1 (upd H7 D (.lst (acc ++ [y]))) else Nx1 H6) := by
  obtain ⟨acc0, e0, i0⟩ := h0
  refine ⟨fun i m H => m = n - i ∧ i ≤ n ∧ ∃ acc, H D = some (.lst acc) ∧ Jv i acc H, ⟨n, by simp, Nat.zero_le _, acc0, e0, i0⟩, ?_⟩
  rintro i m H ⟨rfl, hi, acc, hD, p⟩
  have o := hl i acc H hi p
  rcases Nat.lt_or_ge i n with hlt | hge
  · exact .inr ⟨F.go i H hlt o, NxJ D i Jv, fun H' p' => ⟨n - (i + 1), by omega, rfl, hlt, p'⟩, fun x H' y => hs i x acc H H' hlt p hD (F.yl i H x H' hlt o y)⟩
  · obtain rfl : i = n := Nat.le_antisymm hi hge
    exact .inl ⟨F.st H o, hd acc H p hD⟩
theorem lc2_fin {J : It} {n : Nat} {ok : Hp → Prop} {it : Nat → V → Hp → Hp → Prop} {wi1 : TI} {g g1 : TG} {tt tt1 : TT} {te : TE} {vs vs1 : List Nat} {σ : L2.St} {H1 : Hp} {Qd : Addr → Hp → Prop} (F : Fini J n ok it) (Iv : Nat → List V → Hp → Prop)
    (h0 : ∀ D H2, H1 D = none → Same H1 H2 → H2 D = some (.lst []) → Iv 0 [] H2) (hl : ∀ i acc H, i ≤ n → Iv i acc H → ok H)
    (hs : ∀ D i x acc H H', H1 D = none → i < n → Iv i acc H → H D = some (.lst acc) → it i x H H' → g x (wipe σ vs) H' fun σ2 H2 => wipe σ2 vs = wipe σ vs ∧ tt σ2 H2 fun b H3 =>
      if b = true then wi1 σ2 H3 fun J1 H4 => ∃ W1 : Nat → Nat → Hp → Prop, (∃ m, W1 0 m H4) ∧ ∀ j k H, W1 j k H →
        (J1.stop j H ∧ NxJ D i Iv H) ∨ (J1.go j H ∧ ∃ Nx1 : Hp → Prop, (∀ H', Nx1 H' → ∃ k', k' < k ∧ W1 (j + 1) k' H') ∧ ∀ x H', J1.yld j H x H' → g1 x (wipe σ2 vs1) H' fun σ3 H5 => wipe σ3 vs1 = wipe σ2 vs1 ∧ tt1 σ3 H5 fun b H6 =>
          if b = true then te σ3 H6 fun y H7 => ∃ acc, H7 D = some (.lst acc) ∧ acc.length < sizeLine ∧ Nx1 (upd H7 D (.lst (acc ++ [y]))) else Nx1 H6)
      else NxJ D i Iv H3)
    (hd : ∀ D acc H, H1 D = none → Iv n acc H → H D = some (.lst acc) → Qd D H) :
    ∀ D, H1 D = none → ∃ W : Nat → Nat → Hp → Prop, (∃ m, W 0 m (upd H1 D (.lst []))) ∧ ∀ i m H, W i m H →
      (J.stop i H ∧ Qd D H) ∨ (J.go i H ∧ ∃ Nx : Hp → Prop, (∀ H', Nx H' → ∃ m', m' < m ∧ W (i + 1) m' H') ∧ ∀ x H', J.yld i H x H' → g x (wipe σ vs) H' fun σ2 H2 => wipe σ2 vs = wipe σ vs ∧ tt σ2 H2 fun b H3 =>
        if b = true then wi1 σ2 H3 fun J1 H4 => ∃ W1 : Nat → Nat → Hp → Prop, (∃ m, W1 0 m H4) ∧ ∀ j k H, W1 j k H →
          (J1.stop j H ∧ Nx H) ∨ (J1.go j H ∧ ∃ Nx1 : Hp → Prop, (∀ H', Nx1 H' → ∃ k', k' < k ∧ W1 (j + 1) k' H') ∧ ∀ x H', J1.yld j H x H' → g1 x (wipe σ2 vs1) H' fun σ3 H5 => wipe σ3 vs1 = wipe σ2 vs1 ∧ tt1 σ3 H5 fun b H6 =>
            if b = true then te σ3 H6 fun y H7 => ∃ acc, H7 D = some (.lst acc) ∧ acc.length < sizeLine ∧ Nx1 (upd H7 D (.lst (acc ++ [y]))) else Nx1 H6)
        else Nx H3) := by
  intro D nD
  refine ⟨fun i m H => m = n - i ∧ i ≤ n ∧ ∃ acc, H D = some (.lst acc) ∧ Iv i acc H, ⟨n, by simp, Nat.zero_le _, [], upd_same, h0 D _ nD (same_new nD) upd_same⟩, ?_⟩
  rintro i m H ⟨rfl, hi, acc, hD, p⟩
  have o := hl i acc H hi p
  rcases Nat.lt_or_ge i n with hlt | hge
  · exact .inr ⟨F.go i H hlt o, NxJ D i Iv, fun H' p' => ⟨n - (i + 1), by omega, rfl, hlt, p'⟩, fun x H' y => hs D i x acc H H' nD hlt p hD (F.yl i H x H' hlt o y)⟩
  · obtain rfl : i = n := Nat.le_antisymm hi hge
    exact .inl ⟨F.st H o, hd D acc H nD p hD⟩
theorem w_lc2E {wi wi1 : TI} {g g1 : TG} {tt tt1 : TT} {te : TE} {vs vs1 : List Nat} {σ : L2.St} {H : Hp} {Q : VK} (h : wi σ H fun J H1 => ∀ D, H1 D = none → ∃ W : Nat → Nat → Hp → Prop, (∃ m, W 0 m (upd H1 D (.lst []))) ∧ ∀ i m H, W i m H →
  (J.stop i H ∧ Q (.ref D) H) ∨ (J.go i H ∧ ∃ Nx : Hp → Prop, (∀ H', Nx H' → ∃ m', m' < m ∧ W (i + 1) m' H') ∧ ∀ x H', J.yld i H x H' → g x (wipe σ vs) H' fun σ2 H2 => wipe σ2 vs = wipe σ vs ∧ tt σ2 H2 fun b H3 =>
    if b = true then wi1 σ2 H3 fun J1 H4 => ∃ W1 : Nat → Nat → Hp → Prop, (∃ m, W1 0 m H4) ∧ ∀ j k H, W1 j k H →
      (J1.stop j H ∧ Nx H) ∨ (J1.go j H ∧ ∃ Nx1 : Hp → Prop, (∀ H', Nx1 H' → ∃ k', k' < k ∧ W1 (j + 1) k' H') ∧ ∀ x H', J1.yld j H x H' → g1 x (wipe σ2 vs1) H' fun σ3 H5 => wipe σ3 vs1 = wipe σ2 vs1 ∧ tt1 σ3 H5 fun b H6 =>
        if b = true then te σ3 H6 fun y H7 => ∃ acc, H7 D = some (.lst acc) ∧ acc.length < sizeLine ∧ Nx1 (upd H7 D (.lst (acc ++ [y]))) else Nx1 H6)
    else Nx H3)) : tLc2 wi g tt wi1 g1 tt1 te vs vs1 σ H Q := h
/-! ### data as it stands on the heap -/
mutual
inductive Rp (H : Hp) : V → PyData → Prop
  | non : Rp H .non .none
  | bl (b : Bool) : Rp H (.bl b) (.bool b)
  | int (i : Int) : Rp H (.int i) (.int i)
  | str (x : Str) : Rp H (.str x) (.str x)
  | lst {a : Addr} {xs : List V} {ds : List PyData} : H a = some (.lst xs) → RpAll H xs ds → Rp H (.ref a) (.list ds)
  | tup {a : Addr} {xs : List V} {ds : List PyData} : H a = some (.tup xs) → RpAll H xs ds → Rp H (.ref a) (.tuple ds)
inductive RpAll (H : Hp) : List V → List PyData → Prop
  | nil : RpAll H [] []
  | cons {v : V} {d : PyData} {vs : List V} {ds : List PyData} : Rp H v d → RpAll H vs ds → RpAll H (v :: vs) (d :: ds)
end
section
variable {K : PySem.W.Frag} {H H' : Hp}
mutual
theorem Rp.dp : ∀ {v : V} {d : PyData}, Rp H v d → Dp K H v d
  | _, _, .non => .non
  | _, _, .bl b => .bl b
  | _, _, .int i => .int i
  | _, _, .str x => .str x
  | _, _, .lst h r => .lst (.of h) (RpAll.dp r)
  | _, _, .tup h r => .tup (.of h) (RpAll.dp r)
theorem RpAll.dp : ∀ {vs : List V} {ds : List PyData}, RpAll H vs ds → DpAll K H vs ds
  | _, _, .nil => .nil
  | _, _, .cons h r => .cons (Rp.dp h) (RpAll.dp r)
end
mutual
theorem Rp.same (s : Same H H') : ∀ {v : V} {d : PyData}, Rp H v d → Rp H' v d
  | _, _, .non => .non
  | _, _, .bl b => .bl b
  | _, _, .int i => .int i
  | _, _, .str x => .str x
  | _, _, .lst h r => .lst (s _ _ h) (RpAll.same s r)
  | _, _, .tup h r => .tup (s _ _ h) (RpAll.same s r)
theorem RpAll.same (s : Same H H') : ∀ {vs : List V} {ds : List PyData}, RpAll H vs ds → RpAll H' vs ds
  | _, _, .nil => .nil
  | _, _, .cons h r => .cons (Rp.same s h) (RpAll.same s r)
end
/-- tuples stay -/
def TupK (H H' : Hp) : Prop := ∀ a xs, H a = some (.tup xs) → H' a = some (.tup xs)
theorem TupK.of (s : Same H H') : TupK H H' := fun _ _ h => s _ _ h
theorem TupK.kb {p : Addr} {xs : List V} (k : KB p H H') (hp : H p = some (.lst xs)) : TupK H H' := fun a ys h => k _ _ h (fun z => by rw [z, hp] at h; cases h)
theorem TupK.trans {H2 : Hp} (a : TupK H H') (b : TupK H' H2) : TupK H H2 := fun _ _ h => b _ _ (a _ _ h)
mutual
def noL : PyData → Bool
  | .list _ => false
  | .tuple ds => noLs ds
  | _ => true
def noLs : List PyData → Bool
  | [] => true
  | d :: r => noL d && noLs r
end
mutual
theorem Rp.tupk (t : TupK H H') : ∀ {v : V} {d : PyData}, Rp H v d → noL d = true → Rp H' v d
  | _, _, .non, _ => .non
  | _, _, .bl b, _ => .bl b
  | _, _, .int i, _ => .int i
  | _, _, .str x, _ => .str x
  | _, _, .lst h r, n => by simp [noL] at n
  | _, _, .tup h r, n => .tup (t _ _ h) (RpAll.tupk t r (by simpa [noL] using n))
theorem RpAll.tupk (t : TupK H H') : ∀ {vs : List V} {ds : List PyData}, RpAll H vs ds → noLs ds = true → RpAll H' vs ds
  | _, _, .nil, _ => .nil
  | _, _, .cons h r, n => by
    rw [noLs, Bool.and_eq_true] at n
    exact .cons (Rp.tupk t h n.1) (RpAll.tupk t r n.2)
end
theorem RpAll.length : ∀ {vs : List V} {ds : List PyData}, RpAll H vs ds → vs.length = ds.length
  | _, _, .nil => rfl
  | _, _, .cons _ r => congrArg Nat.succ (RpAll.length r)
theorem RpAll.at : ∀ {vs : List V} {ds : List PyData}, RpAll H vs ds → ∀ {i : Nat} {v : V}, vs[i]? = some v → ∃ d, ds[i]? = some d ∧ Rp H v d
  | _, _, .nil, i, v, h => by simp at h
  | _, _, .cons h r, 0, v, e => by
    cases e
    exact ⟨_, rfl, h⟩
  | _, _, .cons h r, i + 1, v, e => by
    obtain ⟨d, h1, h2⟩ := RpAll.at r (i := i) (v := v) (by simpa using e)
    exact ⟨d, by simpa using h1, h2⟩
theorem RpAll.append : ∀ {xs ys : List V} {ds es : List PyData}, RpAll H xs ds → RpAll H ys es → RpAll H (xs ++ ys) (ds ++ es)
  | _, _, _, _, .nil, h => h
  | _, _, _, _, .cons h r, h2 => .cons h (RpAll.append r h2)
theorem RpAll.drop : ∀ {vs : List V} {ds : List PyData} (n : Nat), RpAll H vs ds → RpAll H (vs.drop n) (ds.drop n)
  | _, _, 0, h => h
  | _, _, n + 1, .nil => .nil
  | _, _, n + 1, .cons _ r => RpAll.drop n r
theorem RpAll.take : ∀ {vs : List V} {ds : List PyData} (n : Nat), RpAll H vs ds → RpAll H (vs.take n) (ds.take n)
  | _, _, 0, h => .nil
  | _, _, n + 1, .nil => .nil
  | _, _, n + 1, .cons h r => .cons h (RpAll.take n r)
theorem rpAll_str : ∀ ws : List Str, RpAll H (ws.map V.str) (ws.map PyData.str)
  | [] => .nil
  | w :: r => .cons (.str w) (rpAll_str r)
/-! ### things of bounded size -/
def Fit : Nat → PyData → Prop
  | 0, d => (d = .none ∨ (∃ b, d = .bool b) ∨ (∃ i, d = .int i)) ∨ ∃ x, d = .str x ∧ x.length ≤ 1000 ∧ PyData.strOk x = true
  | n + 1, d => ((d = .none ∨ (∃ b, d = .bool b) ∨ (∃ i, d = .int i)) ∨ ∃ x, d = .str x ∧ x.length ≤ 1000 ∧ PyData.strOk x = true) ∨ ∃ ds : List PyData, (d = .tuple ds ∨ d = .list ds) ∧ ds.length ≤ 1000 ∧ ∀ e ∈ ds, Fit n e
theorem Fit.succ : ∀ {n : Nat} {d : PyData}, Fit n d → Fit (n + 1) d
  | 0, d, h => .inl h
  | n + 1, d, h => by
    rcases h with h | ⟨ds, h1, h2, h3⟩
    · exact .inl h
    · exact .inr ⟨ds, h1, h2, fun e he => (h3 e he).succ⟩
theorem Fit.mono {n m : Nat} {d : PyData} (h : Fit n d) (l : n ≤ m) : Fit m d := by
  induction l with
  | refl => exact h
  | step _ ih => exact ih.succ
theorem Fit.good : ∀ {n : Nat} {d : PyData}, Fit n d → GoodD d n
  | 0, d, h => by
    rcases h with (rfl | ⟨b, rfl⟩ | ⟨i, rfl⟩) | ⟨x, rfl, _, h⟩
    · exact good_none
    · exact good_bool
    · exact good_int
    · exact good_str h
  | n + 1, d, h => by
    rcases h with ((rfl | ⟨b, rfl⟩ | ⟨i, rfl⟩) | ⟨x, rfl, _, h⟩) | ⟨ds, rfl | rfl, _, h⟩
    · exact good_none
    · exact good_bool
    · exact good_int
    · exact good_str h
    · exact good_tuple fun e he => (h e he).good
    · exact good_list fun e he => (h e he).good
theorem fit_str {x : Str} {n : Nat} (h1 : x.length ≤ 1000) (h2 : PyData.strOk x = true) : Fit n (.str x) := Fit.mono (n := 0) (.inr ⟨x, rfl, h1, h2⟩) (Nat.zero_le _)
theorem fit_int {i : Int} {n : Nat} : Fit n (.int i) := Fit.mono (n := 0) (.inl (.inr (.inr ⟨i, rfl⟩))) (Nat.zero_le _)
theorem fit_word {x : Str} {n : Nat} (h : isW x = true) : Fit n (.str x) := fit_str (Nat.le_trans (isW_len h) (by decide)) (isW_strOk h)
theorem fit_tup {ds : List PyData} {n : Nat} (h1 : ds.length ≤ 1000) (h : ∀ e ∈ ds, Fit n e) : Fit (n + 1) (.tuple ds) := .inr ⟨ds, .inl rfl, h1, h⟩
theorem Fit.tup {ds : List PyData} {n : Nat} (h : Fit (n + 1) (.tuple ds)) : ds.length ≤ 1000 ∧ ∀ e ∈ ds, Fit n e := by
  rcases h with ((h | ⟨b, h⟩ | ⟨i, h⟩) | ⟨x, h, _⟩) | ⟨es, h | h, h1, h2⟩
  · cases h
  · cases h
  · cases h
  · cases h
  · cases h
    exact ⟨h1, h2⟩
  · cases h
/-- such a thing, as a text or none -/
theorem Rp.txt {v : V} {d : PyData} {n : Nat} (h : Rp H v d) (f : Fit n d) : TxtV H v := by
  cases h with
  | non => exact .inr .non
  | bl b => exact .inr (.bl b)
  | int i => exact .inr (.int i)
  | str x =>
    have : x.length ≤ 1000 := by
      cases n with
      | zero => rcases f with (h | ⟨b, h⟩ | ⟨i, h⟩) | ⟨y, h, hl, _⟩ <;> cases h; exact hl
      | succ n => rcases f with ((h | ⟨b, h⟩ | ⟨i, h⟩) | ⟨y, h, hl, _⟩) | ⟨es, h | h, _⟩ <;> cases h; exact hl
    exact .inl ⟨x, rfl, by omega⟩
  | lst h r => exact .inr (.lst h)
  | tup h r => exact .inr (.tup h)
theorem Rp.thg {v : V} {d : PyData} (h : Rp H v d) : Thg H v := by
  cases h with
  | non => exact .non
  | bl b => exact .bl b
  | int i => exact .int i
  | str x => exact .str x
  | lst h r => exact .lst h
  | tup h r => exact .tup h
end
/-- what a def keeps at its room, it keeps at more -/
theorem fnok_mono {P : Program} {w : World} {K : PySem.W.Frag} {mg : Str → Option Value} {base : Heap} {CX : CXT} {k k' : Nat} {f : Addr} {fd : FuncData} {ps : List Str} {sp : Sp} (F : FnOk P w K mg base CX k f fd ps sp) (h : k ≤ k') : FnOk P w K mg base CX k' f fd ps sp :=
  ⟨F.len, fun A outer s H args us vs Q E hr => F.run A outer s H args us vs Q E (hr.mono h)⟩
end Bw

/-! a comprehension within a comprehension -/
namespace Bw
open PySem PySem.Spec PyProof.Rows L2
theorem blkOk_in {N : List PySem.Str} {sc scope1 scope2 : Scope} {own : List (PySem.Str × Nat)} {env : Env} {cl : List (PySem.Str × Addr)} {C : Addr} (he : env.scope = sc) (h : blkC N (relS scope1 sc) scope2 own = true) : BlkOk N (compEnvC scope1 cl C env).scope scope2 own := by
  subst he
  have e : (compEnvC scope1 cl C env).scope = relS scope1 env.scope := rfl
  rw [e]
  exact blkOk_by h
end Bw

/-! exceptions whose contexts are a chain that ends (raised anywhere, also in an except suite) -/
namespace Bw
open PySem PySem.Spec PyProof.Rows L2 L2H HotX
/-! ### chains of contexts -/
inductive Chn (h : Heap) (N : Addr → Prop) : Value → Prop
  | non : Chn h N .none
  | ref {x : Addr} {o : Obj} {vs : Array Value} {c : Value} : h.get? x = some o → o.data = .fields vs → N x → vs[2]? = some c → Chn h N c → Chn h N (.ref x)
theorem Chn.keeps {h h' : Heap} {N : Addr → Prop} (k : ∀ b o, h.get? b = some o → h'.get? b = some o) : ∀ {c : Value}, Chn h N c → Chn h' N c
  | _, .non => .non
  | _, .ref a b n d e => .ref (k _ _ a) b n d (e.keeps k)
theorem Chn.imp {h : Heap} {N N' : Addr → Prop} (n : ∀ x o, h.get? x = some o → N x → N' x) : ∀ {c : Value}, Chn h N c → Chn h N' c
  | _, .non => .non
  | _, .ref a b m d e => .ref a b (n _ _ a m) d (e.imp n)
theorem Chn.both {h h' : Heap} {N N' : Addr → Prop} (k : ∀ b o vs, h.get? b = some o → o.data = .fields vs → N b → h'.get? b = some o ∧ N' b) : ∀ {c : Value}, Chn h N c → Chn h' N' c
  | _, .non => .non
  | _, .ref a b m d e => .ref (k _ _ _ a b m).1 b (k _ _ _ a b m).2 d (e.both k)
/-- from y to x along the contexts -/
inductive Way (h : Heap) : Addr → Addr → Prop
  | refl (x : Addr) : Way h x x
  | step {y z x : Addr} {o : Obj} {vs : Array Value} : h.get? y = some o → o.data = .fields vs → vs[2]? = some (.ref z) → Way h z x → Way h y x
theorem Way.snoc {h : Heap} {x z : Addr} {o : Obj} {vs : Array Value} (h1 : h.get? x = some o) (h2 : o.data = .fields vs) (h3 : vs[2]? = some (.ref z)) : ∀ {y : Addr}, Way h y x → Way h y z
  | _, .refl _ => .step h1 h2 h3 (.refl _)
  | _, .step a b c w => .step a b c (w.snoc h1 h2 h3)
section
variable {prog : Program} {w : World} {A : Around} {E : Value → Shared → Prop} {s : Shared}
theorem unchain_any {a : Addr} {c : Value} (C : Chn s.heap (fun x => x ≠ a) c) : ∀ {A : Around} {x y : Addr} {o : Obj} {vs : Array Value} {t : Bool} {R : Result → Shared → Prop}, s.heap.get? x = some o → o.data = .fields vs → vs[2]? = some c → Way s.heap y x → R (.ok (.ret .none)) s →
    codeAny (model prog w) A (.builtin "proto.unchain" ⟨[.ref a, .ref x, .ref y, .bool t], []⟩) R s := by
  induction C with
  | non =>
    intro A x y o vs t R h1 h2 h3 W q
    refine codeAny_builtin HotX.entry_unchain ?_
    show wpAny _ _ (field (.ref x) 2 >>= _) _ _ s
    refine wpAny_bind (wpAny_field h1 h2 h3 ?_)
    rw [if_pos (show (Value.none == Value.none) = true from rfl)]
    first
    | exact wpAny_bind (wpAny_pure (wpAny_pure q))
    | exact wpAny_pure q
  | @ref z oz vz cz g1 g2 g3 g4 C ih =>
    intro A x y o vs t R h1 h2 h3 W q
    refine codeAny_builtin HotX.entry_unchain ?_
    show wpAny _ _ (field (.ref x) 2 >>= _) _ _ s
    refine wpAny_bind (wpAny_field h1 h2 h3 ?_)
    have n1 : ¬ ((Value.ref z == Value.none) = true) := by simp
    have n2 : ¬ ((Value.ref z == Value.ref a) = true) := by
      simp
      exact g3
    rw [if_neg n1]
    first
    | rw [if_neg n2]
    | (refine wpAny_bind (wpAny_pure ?_); rw [if_neg n2])
    have go : ∀ (y' : Addr), Way s.heap y' z → wpAny (model prog w) (A.under (.builtin "proto.unchain" ⟨[.ref a, .ref x, .ref y, .bool t], []⟩)) (again (.builtin "proto.unchain" ⟨[.ref a, .ref z, .ref y', .bool !t], []⟩))
        (fun fin s' => match fin with | .done f => R (.ok f) s' | .again c' => c'.quiet = true ∧ codeAny (model prog w) A c' R s') (fun e s' => R (.error e) s') s := fun y' W' => by
      refine wpAny_pure ⟨Code.quiet_builtin _ (by decide +kernel), ?_⟩
      exact ih g1 g2 g4 W' q
    have W1 : Way s.heap y z := W.snoc h1 h2 h3
    by_cases hy : z = y
    · have e1 : (Value.ref z == Value.ref y) = true := by simp [hy]
      first
      | rw [if_pos e1]
      | (refine wpAny_bind (wpAny_pure ?_); rw [if_pos e1])
      first
      | exact wpAny_rule (wpAny_pure q)
      | exact wpAny_bind (wpAny_rule (wpAny_pure q))
      | exact wpAny_rule (wpAny_bind (wpAny_pure (wpAny_pure q)))
    · have e1 : ¬ ((Value.ref z == Value.ref y) = true) := by
        simp
        exact hy
      first
      | rw [if_neg e1]
      | (refine wpAny_bind (wpAny_pure ?_); rw [if_neg e1])
      cases t with
      | false =>
        first
        | (show wpAny _ _ (again _) _ _ _; exact go y W1)
        | (simp only [Bool.false_eq_true, if_false]; first | exact wpAny_bind (wpAny_pure (go y W1)) | exact go y W1)
        | exact wpAny_bind (wpAny_pure (go y W1))
      | true =>
        cases W with
        | refl _ =>
          simp only [if_true]
          refine wpAny_bind (wpAny_field h1 h2 h3 ?_)
          exact go z (.refl z)
        | @step _ z2 _ o2 v2 k1 k2 k3 W2 =>
          simp only [if_true]
          refine wpAny_bind (wpAny_field k1 k2 k3 ?_)
          exact go z2 (W2.snoc h1 h2 h3)
/-- the exception that is handled, the chain behind it -/
def HotL (A : Around) (x1 : Addr) (h : Heap) : Prop := A.handled = some (.ref x1) ∧ Chn h (fun _ => True) (.ref x1)
theorem raiseNewL {α : Type} {a x1 : Addr} {oe : Obj} {vs : Array Value} {Q : α → Shared → Prop} (hot : HotL A x1 s.heap) (hne : Chn s.heap (fun x => x ≠ a) (.ref x1)) (ha : s.heap.get? a = some oe) (da : oe.data = .fields vs) (hi : 2 < vs.size)
    (hE : E (.ref a) { s with heap := s.heap.update a (Obj.mapFields (·.setIfInBounds 2 (.ref x1))) }) : wpAny (model prog w) A (raiseNew (.ref a) : Sem α) Q E s := by
  obtain ⟨hh, _⟩ := hot
  cases hne with
  | @ref _ o1 vs1 c h1 d1 n1 c1 C =>
    unfold raiseNew
    refine wpAny_bind (wpAny_handled ?_)
    rw [hh]
    have hb : (Value.ref x1 != Value.ref a) = true := ref_bne n1
    have U : ∀ {Q : Value → Shared → Prop}, Q .none s → wpAny (model prog w) A (holding [Value.ref a] (runValue (.builtin "proto.unchain" ⟨[.ref a, .ref x1, .ref x1, .bool false], []⟩))) Q E s := fun q =>
      wpAny_holding (wpAny_runValue (unchain_any C h1 d1 c1 (.refl x1) q))
    first
    | (show wpAny _ _ (if (Value.ref x1 != Value.ref a) = true then _ else _) _ _ _
       rw [if_pos hb]
       first
       | exact wpAny_bind (U (wpAny_bind (chained ha da hi (wpAny_throw hE))))
       | exact wpAny_bind (wpAny_bind (U (chained ha da hi (wpAny_throw hE)))))
    | (refine wpAny_bind ?_
       show wpAny _ _ (if (Value.ref x1 != Value.ref a) = true then _ else _) _ _ _
       rw [if_pos hb]
       exact wpAny_bind (U (chained ha da hi (wpAny_throw hE))))
/-- a new object isn't on the chain -/
theorem chn_new {h h' : Heap} {a : Addr} {N : Addr → Prop} {c : Value} (C : Chn h N c) (k : ∀ b o, h.get? b = some o → h'.get? b = some o) (na : h.get? a = none) : Chn h' (fun x => x ≠ a) c :=
  C.both fun b o vs e _ _ => ⟨k b o e, fun z => by rw [z, na] at e; cases e⟩
end
/-! ### exceptions in the air, with their chains -/
/-- what is kept of the exception's object -/
def Zb (B : Heap) (H : Hp) (cls : Value) (d : Option Addr) : Obj → Prop := fun o => o.cls = cls ∧ o.dict = d ∧ ∀ vs : Array Value, o.data = .fields vs → ∃ c, vs[2]? = some c ∧ Chn B (fun x => H x = none) c
theorem Zb.zc {B : Heap} {H : Hp} {cls : Value} {d : Option Addr} {o : Obj} (h : Zb B H cls d o) : Zc cls d o := ⟨h.1, h.2.1⟩
theorem Zb.steady {B : Heap} {H : Hp} {cls : Value} {d : Option Addr} : PXN.Steady1 (Zb B H cls d) := fun o v h => ⟨PXN.steady_cls o v h.1, PXN.steady_dict o v h.2.1, by
  obtain ⟨c, d, dt, sl⟩ := o
  cases dt with
  | fields vs0 =>
    intro vs e
    have e2 : vs0.setIfInBounds 1 v = vs := Data.fields.inj e
    obtain ⟨k, hk, C⟩ := h.2.2 vs0 rfl
    refine ⟨k, ?_, C⟩
    rw [← e2]
    exact set_other (by decide) hk
  | _ =>
    intro vs e
    first
    | exact Data.noConfusion e
    | cases e⟩
def XEc (X : Cx) (W : WX) (u : Value) (s' : Shared) : Prop :=
  ∃ (a : Addr) (B : Heap) (sI : Shared) (pins : List (Addr × Obj)) (σ : L2.St) (H : Hp) (cls : Value) (d : Option Addr),
    u = .ref a ∧ Inv X pins σ H sI ∧ (∀ b o, sI.heap.get? b = some o → b ∉ frs X.stack → B.get? b = some o) ∧ sI.heap.UpToSlots s'.heap ∧
      Sky B X.stack a (Zb B H cls d) X.env.locals s'.heap ∧ H a = none ∧ s'.os = sI.os ∧ AllBare s'.gens ∧ W cls d σ H
def TakesC (X : Cx) (W : WX) : Prop := ∀ u s', XEc X W u s' → X.xe u s'
theorem TakesC.imp {X : Cx} {W W' : WX} (t : TakesC X W) (h : ∀ c d σ H, W' c d σ H → W c d σ H) : TakesC X W' := fun u s' ⟨a, B, sI, pins, σ, H, cls, d, e, I, nb, up, sky, na, os, ag, w⟩ =>
  t u s' ⟨a, B, sI, pins, σ, H, cls, d, e, I, nb, up, sky, na, os, ag, h _ _ _ _ w⟩
theorem heldZ_imp {h B : Heap} {l : List Env} {a L : Addr} {Z Z' : Obj → Prop} (z : ∀ o, Z o → Z' o) (x : HandSPX.HeldZ B l a Z L h) : HandSPX.HeldZ B l a Z' L h := ⟨x.1, x.2.1, x.2.2.1, tracedZ_imp z x.2.2.2⟩
theorem sky_imp {h B : Heap} {l : List Env} {a L : Addr} {Z Z' : Obj → Prop} (z : ∀ o, Z o → Z' o) (x : Sky B l a Z L h) : Sky B l a Z' L h := by
  rcases x with ⟨h1, h2, h3, oe, vs, h4, h5, h6⟩ | x | x
  · exact .inl ⟨h1, h2, h3, oe, vs, h4, z _ h5, h6⟩
  · exact .inr (.inl (flyingZ_imp z x))
  · exact .inr (.inr (heldZ_imp z x))
/-- what takes any exception takes these -/
theorem TakesC.of {X : Cx} {W : WX} (t : L2.Takes X W) : TakesC X W := fun u s' ⟨a, B, sI, pins, σ, H, cls, d, e, I, nb, up, sky, na, os, ag, w⟩ =>
  t u s' ⟨a, B, sI, pins, σ, H, cls, d, e, I, nb, up, sky_imp (fun _ z => z.zc) sky, na, os, ag, w⟩
def CXc (P : Program) (w : World) (outer : List Env) (H : Hp) (s : Shared) (E : XK) (u : Value) (s' : Shared) : Prop :=
  ∃ (a : Addr) (B : Heap) (H' : Hp) (cls : Value) (d : Option Addr), u = .ref a ∧ HandSPX.FlyingZ B outer a (Zb B H' cls d) s'.heap ∧ HOk P w H' B ∧ UB (frs outer) H H' s.heap B s'.heap ∧ H' a = none ∧ s'.os = s.os ∧ AllBare s'.gens ∧ E cls d H'
section
variable {X : Cx} {pins : List (Addr × Obj)} {σ : L2.St} {H : Hp} {sI s s' : Shared} {B : Heap} {W : WX} {E : XK}
theorem XEc.of_call (I : Inv X pins σ H s) (hW : ∀ cls d H', E cls d H' → W cls d σ H') {u : Value} (c : CXc X.prog X.w X.stack H s E u s') : XEc X W u s' := by
  obtain ⟨a, B, H', cls, d, rfl, fl, hok, ub, na, os, ag, hE⟩ := c
  obtain ⟨G, g1, g2⟩ := restrict s'.heap fun b => (B.get? b).isSome || decide (b ∈ frs X.stack)
  have st : B.StaysIn s'.heap := fl.1
  have gB : ∀ b o, B.get? b = some o → G.get? b = some o := fun b o e => by
    rw [g1 b (by simp [e])]
    exact st b o e
  have gF : ∀ b, b ∈ frs X.stack → G.get? b = s'.heap.get? b := fun b hb => g1 b (by simp [hb])
  have og : ∀ b o, G.get? b = some o → s'.heap.get? b = some o ∧ ((B.get? b).isSome = true ∨ b ∈ frs X.stack) := fun b o e => by
    cases q : ((B.get? b).isSome || decide (b ∈ frs X.stack)) with
    | false => rw [g2 b q] at e; cases e
    | true =>
      rw [g1 b q] at e
      exact ⟨e, by simpa [Bool.or_eq_true] using q⟩
  refine ⟨a, B, { s with heap := G, gens := s'.gens, drawn := s'.drawn, toks := s'.toks }, pins, σ, H', cls, d, rfl, ?_, fun b o e hb => ?_, Heap.UpToSlots.of_keeps fun b o e => (og b o e).1, .inr (.inl fl), na, os, ag, hW _ _ _ hE⟩
  · refine I.call (ch := []) ⟨fun b o e n hb _ => gB b o (ub.keep b o e n hb), fun b o e n hb _ => ?_, fun b o e n _ => ub.free b o e n, fun b o e _ => ?_, ub.tups, ub.frzs, ub.tbls⟩ (hok.kept gB) ag (fun _ z => nomatch z)
    · obtain ⟨sl, q⟩ := ub.slot b o e hb
      exact ⟨sl, by rw [gF b hb]; exact q⟩
    · by_cases hb : b ∈ frs X.stack
      · obtain ⟨sl, q⟩ := ub.slot b o e hb
        exact ⟨_, by rw [gF b hb]; exact q⟩
      · obtain ⟨o', q⟩ := ub.there b o e hb
        exact ⟨o', gB b o' q⟩
  · obtain ⟨e', h⟩ := og b o e
    rcases h with h | h
    · obtain ⟨o', q⟩ := Option.isSome_iff_exists.mp h
      have z := st b o' q
      rw [e'] at z; cases z
      exact q
    · exact absurd h hb
theorem chn_ground (I : Inv X pins σ H sI) {N : Addr → Prop} {c : Value} (C : Chn sI.heap N c) : Chn (PySem.W.hideAll sI.heap (frs X.stack)) N c :=
  C.both fun b o vs e d n => ⟨PySem.W.hideAll_get _ e fun hb => by
    obtain ⟨_, o', e', hd⟩ := I.stack.mem hb
    rw [e] at e'; cases e'
    exact hd _ d, n⟩
/-- a new exception is in our air -/
theorem XEc.new {a : Addr} {oe : Obj} {vs : Array Value} {cls : Value} {d : Option Addr} {c : Value} (I : Inv X pins σ H sI) (k : ∀ b o, sI.heap.get? b = some o → s'.heap.get? b = some o) (hne : sI.heap.get? a = none) (he : s'.heap.get? a = some oe)
    (hz : Zc cls d oe) (hd : oe.data = .fields vs) (h1 : vs[1]? = some .none) (h2 : vs[2]? = some c) (C : Chn sI.heap (fun x => H x = none) c) (na : H a = none) (os : s'.os = sI.os) (ag : AllBare s'.gens) (w : W cls d σ H) : XEc X W (.ref a) s' := by
  refine ⟨a, PySem.W.hideAll sI.heap (frs X.stack), sI, pins, σ, H, cls, d, rfl, I, fun b o e hb => PySem.W.hideAll_get _ e hb, Heap.UpToSlots.of_keeps k,
    .inl ⟨fun b o e => k b o (PySem.W.of_hideAll _ e), ?_, ?_, oe, vs, he, ⟨hz.1, hz.2, fun vs' e => ?_⟩, hd, h1⟩, na, os, ag, w⟩
  · cases q : (PySem.W.hideAll sI.heap (frs X.stack)).get? a with
    | none => rfl
    | some o =>
      have z := PySem.W.of_hideAll _ q
      rw [hne] at z; cases z
  · exact Heap.FunFrames.of_keeps (fun b o e _ => ⟨o, k b o e, rfl⟩) (funFrames_none I.stack fun b hb => PySem.W.hideAll_none _ hb)
  · rw [hd] at e
    cases e
    exact ⟨c, h2, chn_ground I C⟩
theorem XEc.leave (hs : X.stack = X.env :: X.outer) (hf : X.env.frame = some X.env.locals) (hex : X.ex = []) {E₁ : Value → Shared → Prop} (hW : ∀ cls d σ H, W cls d σ H → E cls d H) {u : Value} (x : XEc X W u s') :
    wpAny (model X.prog X.w) X.A (leaving X.env u) (fun _ s'' => CXc X.prog X.w X.outer X.H_0 X.s_0 E u s'') E₁ s' := by
  obtain ⟨a, B, sI, pins, σ, H, cls, d, rfl, I, nb, up, sky, na, os, ag, w⟩ := x
  have hfr : X.A.frames = some (X.env :: X.outer) := by rw [I.ok.frames, hs]
  have nst : ∀ b o, X.s_0.heap.get? b = some o → b ∉ X.fs → b ∉ frs X.stack := fun b o e hb hm => by
    rcases List.mem_cons.mp (I.stkSub b hm) with z | z
    · have h1 := Heap.lt_size e
      have h2 := I.ok.above
      rw [z] at h1
      exact absurd (Nat.lt_of_lt_of_le h1 h2) (Nat.lt_irrefl _)
    · exact hb z
  have hex' : ∀ b, b ∉ X.ex := fun b hb => by rw [hex] at hb; cases hb
  have hokB := I.inGround nb
  have fin : ∀ h', HandSPX.FlyingZ B X.outer a (Zb B H cls d) h' → s'.heap.UpToSlots h' → CXc X.prog X.w X.outer X.H_0 X.s_0 E (.ref a) { s' with heap := h' } := fun h' fl up' => by
    refine ⟨a, B, H, cls, d, rfl, fl, hokB, ⟨fun b o e n hb => nb b o (I.base.keep b o e n hb (hex' b)) (nst b o e hb), fun b o e hb => ?_, fun b o e n => I.base.free b o e n (hex' b), fun b o e hb => ?_, I.base.tups, I.base.frzs, I.base.tbls⟩,
      na, os.trans I.os, ag, hW _ _ _ _ w⟩
    · obtain ⟨_, o₀, e₀, hnf⟩ := I.ok.funs.mem hb
      rw [e] at e₀; cases e₀
      obtain ⟨sl, e1⟩ := I.base.slot b o e (I.ok.frf b hb) hb (hex' b)
      obtain ⟨sl2, e2⟩ := up b _ e1 hnf
      obtain ⟨sl3, e3⟩ := up' b _ e2 hnf
      exact ⟨sl3, e3⟩
    · obtain ⟨o', e1⟩ := I.base.there b o e (hex' b)
      exact ⟨o', nb b o' e1 (nst b o e hb)⟩
  rw [hs] at sky
  rcases sky with ⟨hB, hn, hl, oe, vs, he, hz, hd, h1⟩ | fl | hd
  · exact PXN.leaving_firstZ Zb.steady hfr hl hf he hB hn hd h1 hz fin
  · exact PXN.leaves_onZ Zb.steady hfr hf fl fin
  · exact HandSPX.leaves_heldZ hf hd fin
theorem takesC_of (hs : X.stack = X.env :: X.outer) (hf : X.env.frame = some X.env.locals) (hex : X.ex = []) {E₁ : Value → Shared → Prop}
    (hx : X.xe = fun e s' => wpAny (model X.prog X.w) X.A (leaving X.env e) (fun _ s'' => CXc X.prog X.w X.outer X.H_0 X.s_0 E e s'') E₁ s') : TakesC X (fun cls d _ H => E cls d H) := fun u s' x => by
  rw [hx]
  exact XEc.leave (W := fun cls d _ H => E cls d H) (E := E) hs hf hex (fun _ _ _ _ h => h) x
theorem passesC_call (tk : TakesC X W) (hW : ∀ cls d σ H, E cls d H → W cls d σ H) : ∀ (pins : List (Addr × Obj)) (σ : L2.St) (H : Hp) (s : Shared) (e : Value) (s' : Shared), Inv X pins σ H s → CXc X.prog X.w X.stack H s E e s' → X.xe e s' :=
  fun _ σ _ _ e s' I c => tk e s' (XEc.of_call I (fun cls d H' h => hW cls d σ H' h) c)
end
theorem CXc.cx {P : Program} {w : World} {outer : List Env} {H : Hp} {s : Shared} {E : XK} {u : Value} {s' : Shared} (h : CXc P w outer H s E u s') : L2.CX P w outer H s E u s' := by
  obtain ⟨a, B, H', cls, d, e, fl, r⟩ := h
  exact ⟨a, B, H', cls, d, e, flyingZ_imp (fun _ z => z.zc) fl, r⟩
/-! ### an except suite's context -/
/-- the chain stands among the pins -/
inductive ChP (pn : List (Addr × Obj)) : Value → Prop
  | non : ChP pn .none
  | ref {q : Addr × Obj} {vs : Array Value} {c : Value} : q ∈ pn → q.2.data = .fields vs → vs[2]? = some c → ChP pn c → ChP pn (.ref q.1)
theorem ChP.mono {pn pn' : List (Addr × Obj)} (k : ∀ q ∈ pn, q ∈ pn') : ∀ {c : Value}, ChP pn c → ChP pn' c
  | _, .non => .non
  | _, .ref a b d e => .ref (k _ a) b d (e.mono k)
/-- p is handled, its chain ends -/
structure HotP (A : Around) (pn : List (Addr × Obj)) (p : Addr × Obj) : Prop where
  mem : p ∈ pn
  hd : A.handled = some (.ref p.1)
  ch : ChP pn (.ref p.1)
def HotD (X : Cx) : Prop := ∃ p : Addr × Obj, HotP X.A X.pn p
theorem ChP.at {X : Cx} {pins : List (Addr × Obj)} {σ : L2.St} {H : Hp} {s : Shared} (I : Inv X pins σ H s) : ∀ {c : Value}, ChP X.pn c → Chn s.heap (fun x => H x = none) c
  | _, .non => .non
  | _, .ref a b d e => .ref (I.pin _ (List.mem_append_left _ a)).1 b (I.pin _ (List.mem_append_left _ a)).2.1 d (e.at I)
theorem HotD.at {X : Cx} {pins : List (Addr × Obj)} {σ : L2.St} {H : Hp} {s : Shared} (c : HotD X) (I : Inv X pins σ H s) : ∃ x1, X.A.handled = some (.ref x1) ∧ Chn s.heap (fun x => H x = none) (.ref x1) := by
  obtain ⟨p, h⟩ := c
  exact ⟨p.1, h.hd, h.ch.at I⟩
theorem Chn.pins {h : Heap} {N : Addr → Prop} : ∀ {c : Value}, Chn h N c → ∃ pl : List (Addr × Obj), (∀ q ∈ pl, h.get? q.1 = some q.2 ∧ N q.1 ∧ ∃ vs, q.2.data = .fields vs) ∧ ChP pl c
  | _, .non => ⟨[], fun q hq => absurd hq (by simp), .non⟩
  | _, @Chn.ref _ _ x o vs c a b n d e => by
    obtain ⟨pl, h1, h2⟩ := e.pins
    refine ⟨(x, o) :: pl, fun q hq => ?_, .ref (q := (x, o)) List.mem_cons_self b d (h2.mono fun q hq => List.mem_cons_of_mem _ hq)⟩
    rcases List.mem_cons.mp hq with rfl | hq
    · exact ⟨a, n, _, b⟩
    · exact h1 q hq
/-! ### raise -/
section
variable {X : Cx} {W : WX} {e : Expr} {t : L2.St → Hp → XK → Prop} {pos : Pos}
theorem ps_rse (hc : X.calm = true) (tk : TakesC X W) (he : L2N.PMk X e t) : PS X (.Raise (some e) none pos) (fun _ σ H => t σ H fun cls d H' => W cls d σ H') := by
  refine ⟨fun pins s σ H D I h => ?_⟩
  show wpAny _ _ (do standAt pos; raiseStmt X.env (some (do let v ← eval e X.env; standAt pos; pure v)) none) _ _ _
  refine wpAny_bind (wpAny_standAt (raise_made (I.ok.hd hc) (wpAny_bind (wpAny_mono (he pins s σ H _ I h) (fun u s1 hu => wpAny_bind (wpAny_standAt (wpAny_pure ?_))) fun _ _ x => x))))
  obtain ⟨a, oe, vs, sI, H', cls, d, rfl, J, k, hne, ha, hz, hd, h1, na, os, ag, r, q⟩ := hu
  obtain ⟨r1, r2⟩ := r (model X.prog X.w) s1.heap (J.kIn.keeps k)
  exact ⟨a, oe, vs, cls, rfl, ha, hz.1, hd, h1, r1, r2, tk _ _ (XEc.new J k hne ha hz.zc hd h1 (hz.2.2 vs hd) .non na os ag q)⟩
end
end Bw

/-! list comprehensions over a text while an exception is handled -/
namespace Bw
open PySem PySem.Spec PyProof.Rows L2 L2H HotX
section
variable {prog : Program} {w : World} {A : Around} {E : Value → Shared → Prop} {s : Shared}
/-- the StopIteration at an iterator's end, the handled exception put behind it -/
theorem stop_hot {x1 : Addr} (hot : HotL A x1 s.heap)
    (hE : ∀ h' e, (∀ b o, s.heap.get? b = some o → h'.get? b = some o) → (∃ o, h'.get? e = some o ∧ o.cls = .type "StopIteration") → E (.ref e) { s with heap := h' }) {Q : Fin → Shared → Prop} :
    wpAny (model prog w) A (do raiseNew (← newExc (.type "StopIteration") []) : Sem Fin) Q E s := by
  obtain ⟨hh, C⟩ := hot
  refine wpAny_bind ?_
  simp only [newExc, newTuple]
  refine wpAny_bind (wpAny_newObj_type ?_ (by size_fits))
  refine wpAny_bind (m := firstArgMember _ _) (wpAny_of_eq (a := Value.none) (by first | rfl | (simp only [firstArgMember]; rfl)) ?_)
  refine wpAny_newObj_type ?_ (by size_fits)
  refine raiseNewL ⟨hh, C.keeps fun b o e => Heap.get?_push_of_some _ (Heap.get?_push_of_some _ e)⟩ (chn_new C (fun b o e => Heap.get?_push_of_some _ (Heap.get?_push_of_some _ e)) ?_) (Heap.get?_push_size _ rfl) rfl (by first | (simp; done) | (simp; omega) | (simp only [Array.size_append]; simp; omega)) ?_
  · cases q : s.heap.get? _ with
    | none => rfl
    | some o =>
      have z : (s.heap.push _).objs.size < s.heap.objs.size := Heap.lt_size q
      rw [Heap.size_push] at z
      exact absurd z (by omega)
  refine hE _ _ (fun b o e => ?_) ⟨_, Heap.get?_update_self _ (Heap.get?_push_size _ rfl) rfl, rfl⟩
  rw [Heap.get?_update_other _ _ (Nat.ne_of_gt (Heap.lt_size (Heap.get?_push_of_some _ e)))]
  exact Heap.get?_push_of_some _ (Heap.get?_push_of_some _ e)
theorem chn_iter {h : Heap} {N : Addr → Prop} {it : Addr} {ty : String} {x : Str} {t : Tok} {i : Nat} (hit : h.IsStrIter it ty x t i) : ∀ {c : Value}, Chn h N c → Chn h (fun y => N y ∧ y ≠ it) c
  | _, .non => .non
  | _, .ref a b n d e => .ref a b ⟨n, fun z => by
      obtain ⟨o, ho, hc, hd⟩ := hit
      rw [z, ho] at a
      cases a
      rw [hd] at b
      cases b
      simp at d⟩ d (chn_iter hit e)
theorem ascii_end_hot {it x1 : Addr} {x : Str} {t : Tok} {i : Nat} {Q : Option Value → Shared → Prop} (hot : HotL A x1 s.heap)
    (hit : s.heap.IsStrIter it "str_ascii_iterator" x t i) (hx : x.cps[i]? = none)
    (hQ : ∀ h', Heap.ExtBut it s.heap h' → Q none { s with heap := h' }) : wpAny (model prog w) A (pyNext (.ref it)) Q E s := by
  obtain ⟨o, ho, hc, hd⟩ := id hit
  unfold pyNext
  refine wpAny_bind (wpAny_attempt (wpAny_callSpecial?_slot (name := Str.ofString "__next__") hit.typeIs F.slot_str_ascii_iterator_next
    (wpAny_call_entry F.slot_str_ascii_iterator_next hit.typeIs F.entry_str_ascii_iterator_next ?_ (F.args_str_ascii_iterator_next_1 _))))
  show wpAny _ _ (field (.ref it) 0 >>= _) _ _ s
  refine wpAny_bind (wpAny_field ho hd (x := .str x t) rfl ?_)
  show wpAny _ _ (field (.ref it) 1 >>= _) _ _ s
  refine wpAny_bind (wpAny_field ho hd (x := .int i 0) rfl ?_)
  simp only [Int.toNat_natCast, hx]
  refine wpAny_bind (wpAny_rule (wpAny_bind (wpAny_setField ho hd (by simp) (wpAny_bind (wpAny_letGo ?_)))))
  obtain ⟨hh, C⟩ := hot
  refine stop_hot (x1 := x1) (by refine ⟨hh, ?_⟩; exact (chn_iter hit C).both fun b o vs e _ n => ⟨(Heap.get?_update_other _ _ (Ne.symm n.2)).trans e, trivial⟩) (fun h' e hk he => ?_)
  obtain ⟨oe, hoe, hce⟩ := he
  refine wpAny_bind (wpAny_isInstance (T := "StopIteration") (b := true) ⟨oe, hoe, hce⟩ isSubtype_stop ?_)
  refine wpAny_pure (hQ _ fun b o' nb e => hk _ _ ?_)
  exact (Heap.get?_update_other _ _ (Ne.symm nb)).trans e
theorem wide_end_hot {it x1 : Addr} {x : Str} {t : Tok} {i : Nat} {Q : Option Value → Shared → Prop} (hot : HotL A x1 s.heap)
    (hit : s.heap.IsStrIter it "str_iterator" x t i) (hx : x.cps[i]? = none)
    (hQ : ∀ h', Heap.ExtBut it s.heap h' → Q none { s with heap := h' }) : wpAny (model prog w) A (pyNext (.ref it)) Q E s := by
  obtain ⟨o, ho, hc, hd⟩ := id hit
  unfold pyNext
  refine wpAny_bind (wpAny_attempt (wpAny_callSpecial?_slot (name := Str.ofString "__next__") hit.typeIs F.slot_str_iterator_next
    (wpAny_call_entry F.slot_str_iterator_next hit.typeIs F.entry_str_iterator_next ?_ (F.args_str_iterator_next_1 _))))
  show wpAny _ _ (field (.ref it) 0 >>= _) _ _ s
  refine wpAny_bind (wpAny_field ho hd (x := .str x t) rfl ?_)
  show wpAny _ _ (field (.ref it) 1 >>= _) _ _ s
  refine wpAny_bind (wpAny_field ho hd (x := .int i 0) rfl ?_)
  simp only [Int.toNat_natCast, hx]
  refine wpAny_bind (wpAny_rule (wpAny_bind (wpAny_setField ho hd (by simp) (wpAny_bind (wpAny_letGo ?_)))))
  obtain ⟨hh, C⟩ := hot
  refine stop_hot (x1 := x1) (by refine ⟨hh, ?_⟩; exact (chn_iter hit C).both fun b o vs e _ n => ⟨(Heap.get?_update_other _ _ (Ne.symm n.2)).trans e, trivial⟩) (fun h' e hk he => ?_)
  obtain ⟨oe, hoe, hce⟩ := he
  refine wpAny_bind (wpAny_isInstance (T := "StopIteration") (b := true) ⟨oe, hoe, hce⟩ isSubtype_stop ?_)
  refine wpAny_pure (hQ _ fun b o' nb e => hk _ _ ?_)
  exact (Heap.get?_update_other _ _ (Ne.symm nb)).trans e
end
/-! ### walks that end while an exception is handled -/
structure TurnK (P : Program) (w : World) (K : PySem.W.Frag) (tg : Expr) (J : It) (fp : List Addr) (it : Addr) (tn : Nat → Heap → Prop) : Prop where
  mem : it ∈ fp
  obj : ∀ i h, tn i h → ∀ b ∈ fp, ∃ o, h.get? b = some o ∧ ∀ v, o.data ≠ .cell v
  keep : ∀ i h h', tn i h → (∀ b ∈ fp, ∀ o, h.get? b = some o → h'.get? b = some o) → tn i h'
  item : ∀ (X : Cx), X.prog = P → X.w = w → X.K = K → ∀ (i : Nat) (pins : List (Addr × Obj)) (s : Shared) (σ : L2.St) (H : Hp) (E : Value → Shared → Prop), Inv X pins σ H s → (∀ b ∈ fp, FpOk X pins H b) → tn i s.heap → J.go i H →
    wpAny (model P w) X.A (pyNext (.ref it)) (fun r s1 => ∃ u, r = some u ∧
      wpAny (model P w) X.A (letOwnedTupleGo tg (.ref it) u) (fun _ s2 => ∃ x H', Inv X pins σ H' s2 ∧ RelV x u ∧ J.yld i H x H' ∧ tn (i + 1) s2.heap ∧ ∀ b ∈ fp, H' b = none) E s1) E s
  done : ∀ (X : Cx), X.prog = P → X.w = w → X.K = K → ∀ (i : Nat) (pins : List (Addr × Obj)) (s : Shared) (σ : L2.St) (H : Hp) (E : Value → Shared → Prop), (∃ x1, HotL X.A x1 s.heap) → Inv X pins σ H s → (∀ b ∈ fp, FpOk X pins H b) → tn i s.heap → J.stop i H →
    wpAny (model P w) X.A (pyNext (.ref it)) (fun r s1 => r = none ∧ Inv X pins σ H s1) E s
  self : ∀ (A : Around) (i : Nat) (s : Shared) (Q : Value → Shared → Prop) (E : Value → Shared → Prop), tn i s.heap → Q (.ref it) s → wpAny (model P w) A (pyIter (.ref it)) Q E s
theorem turn_strK {P : Program} {w : World} {K : PySem.W.Frag} {tg : Expr} (it : Addr) (x : Str) (t : Tok) (ty : String) (hty : ty = "str_ascii_iterator" ∨ ty = "str_iterator") :
    TurnK P w K tg (Its x) [it] it (fun i h => h.IsStrIter it ty x t i) where
  mem := by simp
  obj := fun i h st b hb => by
    have e : b = it := by simpa using hb
    subst e
    obtain ⟨o, e, c, d⟩ := st
    exact ⟨o, e, fun v z => by rw [d] at z; cases z⟩
  keep := fun i h h' st k => let ⟨o, ho, r⟩ := st; ⟨o, k it (by simp) o ho, r⟩
  item := by
    intro X hP hw hK i pins s σ H E I hf st hg
    subst hP hw hK
    obtain ⟨f0, f1, f2, f3, f4, f5⟩ := hf it (by simp)
    have hlt : i < x.cps.size := hg
    have hx : x.cps[i]? = some x.cps[i] := Array.getElem?_eq_getElem hlt
    have hno : ["enumerate", "zip", "dict_itemiterator", "dict_reverseitemiterator", "odict_iterator", "itertools.zip_longest", "itertools.pairwise"].contains ty = false := by
      rcases hty with e | e
      · rw [e]; decide
      · rw [e]; decide
    have fin : ∀ h', h'.IsStrIter it ty x t (i + 1) → Heap.SameBut it s.heap h' → ∃ u, some (Value.str ⟨#[x.cps[i]]⟩ s.toks) = some u ∧
        wpAny (model X.prog X.w) X.A (letOwnedTupleGo tg (.ref it) u) (fun _ s2 => ∃ y H', Inv X pins σ H' s2 ∧ RelV y u ∧ (Its x).yld i H y H' ∧ s2.heap.IsStrIter it ty x t (i + 1) ∧ ∀ b ∈ [it], H' b = none) E { s with heap := h', toks := s.toks + 1 } := fun h' st' sb => by
      have I1 : Inv X pins σ H { s with heap := h', toks := s.toks + 1 } := I.turned (fun b o hb e => (sb.2 b hb).trans e) f0 f1 f3 f4 f5
      obtain ⟨oi, e, cc, dd⟩ := id st'
      exact ⟨_, rfl, go_of (s := { s with heap := h', toks := s.toks + 1 }) e cc dd hno ⟨.str ⟨#[x.cps[i]]⟩, H, I1, ⟨s.toks, rfl⟩, ⟨rfl, _, hx, rfl⟩, st', fun b hb => (hf b hb).1⟩⟩
    rcases hty with e | e
    · subst e
      exact wpAny_pyNext_ascii_item st hx fun h' st' sb => fin h' st' sb
    · subst e
      exact wpAny_pyNext_wide_item st hx fun h' st' sb => fin h' st' sb
  done := by
    intro X hP hw hK i pins s σ H E hot I hf st hg
    subst hP hw hK
    obtain ⟨f0, f1, f2, f3, f4, f5⟩ := hf it (by simp)
    obtain ⟨x1, hot⟩ := hot
    have hx : x.cps[i]? = none := Array.getElem?_eq_none hg
    rcases hty with e | e
    · rw [e] at st
      exact ascii_end_hot hot st hx fun h' eb => ⟨rfl, I.turned (t' := s.toks) (fun b o hb e => eb b o hb e) f0 f1 f3 f4 f5⟩
    · rw [e] at st
      exact wide_end_hot hot st hx fun h' eb => ⟨rfl, I.turned (t' := s.toks) (fun b o hb e => eb b o hb e) f0 f1 f3 f4 f5⟩
  self := fun A i s Q E st h => by
    rcases hty with e | e
    · rw [e] at st; exact wpAny_pyIter_striter_ascii st h
    · rw [e] at st; exact wpAny_pyIter_striter_wide st h
def PIEK (X : Cx) (pins : List (Addr × Obj)) (σ : L2.St) (tg : Expr) (R : It → Hp → Prop) (itv : Value) (s2 : Shared) : Prop :=
  ∃ (it : Addr) (fp : List Addr) (tn : Nat → Heap → Prop) (J : It) (H' : Hp), itv = .ref it ∧ Inv X pins σ H' s2 ∧ TurnK X.prog X.w X.K tg J fp it tn ∧ tn 0 s2.heap ∧ (∀ b ∈ fp, FpOk X pins H' b) ∧ R J H'
structure PIK (X : Cx) (tg iter : Expr) (wi : TI) : Prop where
  run : ∀ (pins : List (Addr × Obj)) (s : Shared) (σ : L2.St) (H : Hp) (R : It → Hp → Prop), Inv X pins σ H s → wi σ H R →
    wpAny (model X.prog X.w) X.A (eval iter X.env) (fun v s1 => wpAny (model X.prog X.w) X.A (pyIter v) (PIEK X pins σ tg R) X.xe s1) X.xe s
theorem pi_oneK {X : Cx} {tg : Expr} {pins : List (Addr × Obj)} {σ : L2.St} {H : Hp} {s : Shared} {R : It → Hp → Prop} {J : It} {tn : Nat → Heap → Prop} {tk : Nat} (I : Inv X pins σ H s) (o : Obj)
    (T : TurnK X.prog X.w X.K tg J [s.heap.objs.size] s.heap.objs.size tn) (st : tn 0 (s.heap.push o)) (q : R J H) : PIEK X pins σ tg R (.ref s.heap.objs.size) { s with heap := s.heap.push o, toks := tk } := by
  refine ⟨s.heap.objs.size, [s.heap.objs.size], tn, J, H, rfl, I.kept fun b ob e => Heap.get?_push_of_some _ e, T, st, fun b hb => ?_, q⟩
  have e : b = s.heap.objs.size := by simpa using hb
  subst e
  exact I.fpOk (Nat.le_refl _) (I.hok.fresh (Nat.le_refl _))
theorem pi_strK {X : Cx} {tg e : Expr} {te : TE} (he : PE X e te) : PIK X tg e (iStr te) := by
  refine ⟨fun pins s σ H R I h => ?_⟩
  refine thn (he.run pins s σ H _ I h) fun v s1 ⟨y, H1, I1, r1, x, ex, q⟩ => ?_
  subst ex
  obtain ⟨t, rfl⟩ := r1
  cases ha : x.cps.all (· < 128)
  · exact wpAny_pyIter_wide ha (pi_oneK (tk := s1.toks) I1 _ (turn_strK _ x t "str_iterator" (.inr rfl)) ⟨_, Heap.get?_push_size _ rfl, rfl, rfl⟩ q)
  · exact wpAny_pyIter_ascii ha (pi_oneK (tk := s1.toks) I1 _ (turn_strK _ x t "str_ascii_iterator" (.inl rfl)) ⟨_, Heap.get?_push_size _ rfl, rfl, rfl⟩ q)
section
variable {X : Cx}
/-- as the library's lc_core, the walk's end while an exception is handled -/
theorem lc_coreK {pins : List (Addr × Obj)} {s : Shared} {σ : L2.St} {H : Hp} {Q : VK} {elt tg iter : Expr} {ifs : List Expr} {scope : Scope} {own : List (Str × Nat)} {pos pos' : Pos} {wi : TI} {g : TG} {tt : TT} {te : TE} {use : Option (Value → Sem Unit)} {Qf : Value → Shared → Prop}
    (hc : HotD X) (hN : X.N.Nodup) (I : Inv X pins σ H s) (hi : PIK X tg iter wi) (ok : BlkOk X.N X.env.scope scope own)
    (hg : ∀ (s : Shared) (H : Hp) (C : Addr) (cl : List (Str × Addr)) (fp : List Addr), PG (X.blk s H scope (compEnvC scope cl C X.env) fp) tg g) (ht : ∀ (s : Shared) (H : Hp) (C : Addr) (cl : List (Str × Addr)) (fp : List Addr), PTs (X.blk s H scope (compEnvC scope cl C X.env) fp) ifs tt)
    (he : ∀ (s : Shared) (H : Hp) (C : Addr) (cl : List (Str × Addr)) (fp : List Addr), PE (X.blk s H scope (compEnvC scope cl C X.env) fp) elt te) (hs : ∀ x, foldedSetIterable iter X.env x = pure x)
    (h : tLc wi g tt te (own.map (·.2)) σ H Q)
    (hRR : ∀ D C s' m H', Inv X pins σ H' s' → Q (.ref D) H' → s'.heap.Ns C m → FpOk X pins H' C → compPost (model X.prog X.w) X.A X.xe use Qf (.ref D) C (.ok .next) s') :
    wpAny (model X.prog X.w) X.A (comprehension (.ListComp elt [⟨tg, iter, ifs, 0⟩] scope pos) scope X.env pos' (newList []) false (eval iter X.env) use) Qf X.xe s := by
  have hfree : ∀ y ∈ scope.names, y.2 = .free → ∃ c, X.env.cells.lookup y.1 = some c := fun y hy e => by
    rcases ok.free y hy e with k | k
    · exact I.ok.has _ (.inl k)
    · exact I.ok.has _ (.inr k)
  refine wpAny_comprehension_free (use := use) rfl hs (closure_ok hfree) ok.kind (fun y hy e => by rw [ok.uniq y hy, e])
    (thn (hi.run pins s σ H _ I h) fun xv s1 hx => thn hx fun itv s2 h2 => ?_)
  obtain ⟨it, fp, tn, J, H2, e, I2, T, st2, f2, q⟩ := h2
  subst e
  refine wpAny_newObj_type (newEnv_comp ?_) (by show 0 ≤ sizeLine; decide)
  generalize hD : s2.heap.objs.size = D
  have hDn : H2 D = none := I2.hok.fresh (Nat.le_of_eq hD)
  obtain ⟨W, ⟨m0, w0⟩, turn⟩ := q D hDn
  generalize hs3 : ({ s2 with heap := s2.heap.push { cls := .type "list", data := .seq ([] : List Value).toArray } } : Shared) = s3
  have I3 : Inv X pins σ (upd H2 D (.lst [])) s3 := by
    rw [← hs3]
    refine I2.laid (t' := s2.toks) (fun b o e => Heap.get?_push_of_some _ e) (Nat.le_of_eq hD) ⟨Nat.zero_le _, [], 0, .nil, ?_⟩
    rw [← hD]
    exact Heap.get?_push_size _ rfl
  have h3 : s3.heap = s2.heap.push { cls := .type "list", data := .seq ([] : List Value).toArray } := by rw [← hs3]
  have sz : ∀ b ∈ fp, b < s2.heap.objs.size := fun b hb => by
    obtain ⟨o, e, _⟩ := T.obj _ _ st2 b hb
    exact Heap.lt_size e
  have f3 : ∀ b ∈ fp, FpOk X pins (upd H2 D (.lst [])) b ∧ b < s3.heap.objs.size := fun b hb => by
    have hlt := sz b hb
    refine ⟨⟨?_, (f2 b hb).2⟩, by rw [h3, Heap.size_push]; exact Nat.lt_succ_of_lt hlt⟩
    rw [upd_ne (by rw [← hD]; exact Nat.ne_of_lt hlt)]
    exact (f2 b hb).1
  have st3 : tn 0 s3.heap := T.keep _ _ _ st2 fun b _ o e => by rw [h3]; exact Heap.get?_push_of_some _ e
  have I4 := block_start I3 ok hN f3
  have pg := hg s3 (upd H2 D (.lst [])) s3.heap.objs.size (cellsFrom (s3.heap.objs.size + 1) scope.names (cloFrom X.env.cells scope.names [])) fp
  have pt := ht s3 (upd H2 D (.lst [])) s3.heap.objs.size (cellsFrom (s3.heap.objs.size + 1) scope.names (cloFrom X.env.cells scope.names [])) fp
  have pe := he s3 (upd H2 D (.lst [])) s3.heap.objs.size (cellsFrom (s3.heap.objs.size + 1) scope.names (cloFrom X.env.cells scope.names [])) fp
  show codeAny _ _ (.compStart (.ListComp elt [⟨tg, iter, ifs, 0⟩] scope pos) 0 (.ref it) (.ref D) (compEnvC scope (cellsFrom (s3.heap.objs.size + 1) scope.names (cloFrom X.env.cells scope.names [])) s3.heap.objs.size X.env)) (compPost (model X.prog X.w) X.A X.xe use Qf (.ref D) s3.heap.objs.size) { s3 with heap := pushCells (s3.heap.push { cls := .type "dict", data := .dict #[] }) scope.names }
  have nfp : ∀ b ∈ fp, (upd H2 D (.lst [])) b = none := fun b hb => (f3 b hb).1.1
  generalize hce : compEnvC scope (cellsFrom (s3.heap.objs.size + 1) scope.names (cloFrom X.env.cells scope.names [])) s3.heap.objs.size X.env = ce at I4 pg pt pe ⊢
  have cL : ce.locals = s3.heap.objs.size := by subst hce; rfl
  generalize hH3 : upd H2 D (.lst []) = H3 at I3 I4 pg pt pe w0 nfp f3
  generalize hs4 : ({ s3 with heap := pushCells (s3.heap.push { cls := .type "dict", data := .dict #[] }) scope.names } : Shared) = s4 at I4 ⊢
  have st4 : tn 0 s4.heap := T.keep _ _ _ st3 fun b _ o e => by rw [← hs4]; exact pushCells_keeps _ _ _ _ (Heap.get?_push_of_some _ e)
  have stat : ∀ {σ' : L2.St} {H' : Hp} {s' : Shared}, Inv (X.blk s3 H3 scope ce fp) [] σ' H' s' → (∀ b ∈ fp, H' b = none) → ∀ b ∈ fp, FpOk (X.blk s3 H3 scope ce fp) [] H' b := fun {σ' H' s'} I' hn b hb =>
    ⟨hn b hb, (I'.ok.exf b hb).1, I'.ok.exfs b hb, .inl hb, fun x c e => (I'.ok.exf b hb).2 x c e, fun p hp => absurd (show p ∈ ([] : List (Addr × Obj)) ++ [] from hp) (by simp)⟩
  have loop : codeAny (model X.prog X.w) X.A (.compLoop (.ListComp elt [⟨tg, iter, ifs, 0⟩] scope pos) 0 (.ref it) (.ref D) ce) (compPost (model X.prog X.w) X.A X.xe use Qf (.ref D) s3.heap.objs.size) s4 := by
    refine compLoop_any (fun n s' => ∃ i H', Inv (X.blk s3 H3 scope ce fp) [] (wipe σ (own.map (·.2))) H' s' ∧ tn i s'.heap ∧ (∀ b ∈ fp, H' b = none) ∧ W i n H') ?_ m0 ⟨0, H3, I4, st4, nfp, w0⟩
    rintro n s5 ⟨i, H5, I5, st5, n5, w5⟩
    have out : ∀ {σ' : L2.St} {H' : Hp} {s' : Shared}, Inv (X.blk s3 H3 scope ce fp) [] σ' H' s' → Inv X pins σ H' s' := fun {σ' H' s'} I' =>
      I3.call' (ch := fp) I'.os I'.base I'.hok I'.bare fun b hb => ⟨(f3 b hb).1.2.2.2.1, (f3 b hb).1.2.1, (f3 b hb).1.2.2.2.2.1, (f3 b hb).1.2.2.2.2.2⟩
    rcases turn i n H5 w5 with ⟨stop, qq⟩ | ⟨go, Nx, hNx, step⟩
    · have td := T.done (X.blk s3 H3 scope ce fp) rfl rfl rfl i [] s5 _ H5 (fun _ _ => False) (let ⟨x1, h1, h2⟩ := hc.at (out I5); ⟨x1, h1, h2.imp fun _ _ _ _ => trivial⟩) I5 (stat I5 n5) st5 stop
      refine thnF td fun r s6 ⟨hr, I6⟩ => ?_
      subst hr
      have I7 : Inv X pins σ H5 s6 := out I6
      have nC : H5 s3.heap.objs.size = none := by
        have z : H5 ce.locals = none := I6.free
        rw [cL] at z
        exact z
      obtain ⟨m, hn, _⟩ := I6.loc
      have hn : s6.heap.Ns ce.locals m := hn
      rw [cL] at hn
      exact hRR D s3.heap.objs.size s6 m H5 I7 qq hn (I3.fpOk (Nat.le_refl _) nC)
    · have ti := T.item (X.blk s3 H3 scope ce fp) rfl rfl rfl i [] s5 _ H5 (fun _ _ => False) I5 (stat I5 n5) st5 go
      refine thnF ti fun r s6 ⟨u, hr, h6⟩ => ?_
      subst hr
      refine thnF h6 fun _ s7 ⟨x, H7, I7, r7, y7, st7, n7⟩ => ?_
      have I7' := I7.pinned (stat I7 n7) (T.obj _ _ st7)
      refine thnF (pg.run _ s7 _ H7 x u _ I7' r7 (step x H7 y7)) fun _ s8 ⟨σ8, H8, I8, hw8, q8⟩ => ?_
      refine thnF (pt.run _ s8 σ8 H8 _ I8 q8) fun b s9 ⟨H9, I9, q9⟩ => ?_
      have fin : ∀ {s' : Shared} {H' : Hp}, Inv (X.blk s3 H3 scope ce fp) ([] ++ pinsAt fp s7.heap) σ8 H' s' → Nx H' → ∃ m, m < n ∧ ∃ i H', Inv (X.blk s3 H3 scope ce fp) [] (wipe σ (own.map (·.2))) H' s' ∧ tn i s'.heap ∧ (∀ b ∈ fp, H' b = none) ∧ W i m H' := fun {s' H'} I' nx => by
        obtain ⟨m', hm, w'⟩ := hNx H' nx
        have pin' : ∀ b ∈ fp, ∀ o, s7.heap.get? b = some o → s'.heap.get? b = some o ∧ H' b = none := fun b hb o e =>
          let z := I'.pin (b, o) (List.mem_append_right _ (List.mem_append_right _ (mem_pinsAt hb e)))
          ⟨z.1, z.2.1⟩
        have hl : (wipe σ (own.map (·.2))).length = σ8.length := by rw [← hw8, wipe_length]
        refine ⟨m', hm, i + 1, H', (I'.unpinned (pins := [])).weak hl (fun j v e => ?_), T.keep _ _ _ st7 fun b hb o e => (pin' b hb o e).1, fun b hb => ?_, w'⟩
        · rw [← hw8] at e
          exact (wipe_some e).1
        · obtain ⟨o, e, _⟩ := T.obj _ _ st7 b hb
          exact (pin' b hb o e).2
      cases b with
      | false =>
        simp only [Bool.false_eq_true, if_false] at q9 ⊢
        exact fin I9 q9
      | true =>
        simp only [if_true] at q9 ⊢
        refine thnF (pe.run _ s9 σ8 H9 _ I9 q9) fun z s10 ⟨yv, H10, I10, r10, acc, hD10, hz10, nx⟩ => ?_
        exact app_ok (X := X.blk s3 H3 scope ce fp) I10 hD10 hz10 r10 fun s11 I11 => fin I11 nx
  exact codeAny_compStart_list loop (T.self X.A 0 _ _ _ st4 loop)
/-- as a value, while an exception is handled -/
theorem pe_lcK {elt tg iter : Expr} {ifs : List Expr} {scope : Scope} {own : List (Str × Nat)} {pos : Pos} {wi : TI} {g : TG} {tt : TT} {te : TE} (hc : HotD X) (hN : X.N.Nodup) (hi : PIK X tg iter wi) (ok : BlkOk X.N X.env.scope scope own)
    (hg : ∀ (s : Shared) (H : Hp) (C : Addr) (cl : List (Str × Addr)) (fp : List Addr), PG (X.blk s H scope (compEnvC scope cl C X.env) fp) tg g) (ht : ∀ (s : Shared) (H : Hp) (C : Addr) (cl : List (Str × Addr)) (fp : List Addr), PTs (X.blk s H scope (compEnvC scope cl C X.env) fp) ifs tt)
    (he : ∀ (s : Shared) (H : Hp) (C : Addr) (cl : List (Str × Addr)) (fp : List Addr), PE (X.blk s H scope (compEnvC scope cl C X.env) fp) elt te) (hs : ∀ x, foldedSetIterable iter X.env x = pure x := by intro _; rfl) :
    PE X (.ListComp elt [⟨tg, iter, ifs, 0⟩] scope pos) (tLc wi g tt te (own.map (·.2))) := by
  refine ⟨fun pins s σ H Q I h => ?_⟩
  rw [eval_ListComp]
  refine lc_coreK hc hN I hi ok hg ht he hs h fun D C s' m H' I' q hn f => ⟨m, hn, fun h'' sb => ?_⟩
  obtain ⟨f0, f1, f2, f3, f4, f5⟩ := f
  exact ⟨.ref D, H', I'.turned (t' := s'.toks) (fun b o hb e => (sb.2 b hb).trans e) f0 f1 f3 f4 f5, rfl, q⟩
end
end Bw

/-! except suites in which an iteration may end, defs that are called there -/
namespace Bw
open PySem PySem.Spec PyProof.Rows L2 L2H HotX
inductive HdsC (X : Cx) : List ExceptHandler → List (List Value × Nat × (Addr → Value → Option Addr → TS)) → Prop
  | nil : HdsC X [] []
  | cons {te : Expr} {cs : List Value} {n : Str} {i : Nat} {ts : Addr → Value → Option Addr → TS} {b₀ : Stmt} {suite : List Stmt} {pos' : Pos} {hds : List ExceptHandler} {l : List (List Value × Nat × (Addr → Value → Option Addr → TS))} (hc : ClsE X te cs)
      (hi : X.N[i]? = some n) (hln : X.env.kindOf n = some .local)
      (hsu : ∀ (a : Addr) (oe : Obj) (cls : Value) (d : Option Addr) (pn : List (Addr × Obj)), Zc cls d oe → (∃ vs, oe.data = .fields vs) → HotD (X.suite a ((a, oe) :: pn)) → PSs (X.suite a ((a, oe) :: pn)) (b₀ :: suite) (ts a cls d)) (r : HdsC X hds l) :
      HdsC X (.ExceptHandler (some te) (some n) (b₀ :: suite) pos' :: hds) ((cs, i, ts) :: l)
section
variable {X : Cx} {body : List Stmt} {h₀ : ExceptHandler} {hds : List ExceptHandler} {l : List (List Value × Nat × (Addr → Value → Option Addr → TS))} {pos : Pos} {tb : WX → TS} {Wout : WX}
theorem ps_try_mac (hs : X.stack = X.env :: X.outer) (hf : X.env.frame = some X.env.locals) (hN : X.N.Nodup) (tk : TakesC X Wout) (hsz : ∀ x ∈ l, x.1.length ≤ 1000)
    (hb : ∀ (W : WX) (pn : List (Addr × Obj)) (xe : Value → Shared → Prop), TakesC (X.tr pn xe) W → PassesOwn (model X.prog X.w) X.A X.env xe → PSs (X.tr pn xe) body (tb W))
    (hh : HdsC X (h₀ :: hds) l) : PS X (.Try body (h₀ :: hds) [] [] pos) (fun D σ H => tb (wMas X.K Wout D l) D σ H) := by
  refine ⟨fun pins s σ H D I h => ?_⟩
  have ok := I.ok
  have hfr : X.A.frames = some (X.env :: X.outer) := by rw [ok.frames, hs]
  refine wpAny_Try_except ?_
  refine wpAny_mono ((hb (wMas X.K Wout D l) (X.pn ++ pins) (fun e s₁ => wpAny (model X.prog X.w) X.A (noteFrame e X.env) (fun _ s₂ => wpAny (model X.prog X.w) X.A (setFlight e none) (fun _ s₃ =>
    wpAny (model X.prog X.w) X.A (handleBy e X.env (h₀ :: hds)) (SP X pins D) X.xe s₃) X.xe s₂) X.xe s₁) (fun u s' xx => ?_) PassesOwn.looking).run [] s σ H D (I.toTry _) h) (fun f s1 hsp => ?_) (fun e s1 he => he)
  · -- the catch
    obtain ⟨a, B, sI, pins', σ', H', cls, d, rfl, J', nb, up, sky, na, os, ag, w⟩ := xx
    have J : Inv X pins σ' H' sI := J'.ofTry ok
    have sky' : Sky B (X.env :: X.outer) a (Zb B H' cls d) X.env.locals s'.heap := by rw [← hs]; exact sky
    show wpAny (model X.prog X.w) X.A (noteFrame (.ref a) X.env) _ _ _
    refine L2N.Sky.land Zb.steady hfr hf sky' fun h3 fl3 up3 => ?_
    have notFr : ∀ {h : Heap} {o : Obj} {vs : Array Value}, h.FunFrames B (X.env :: X.outer) → h.get? a = some o → o.data = .fields vs → a ∉ frs (X.env :: X.outer) := fun {h o vs} ff e dd hm => by
      obtain ⟨_, o', e', hnf⟩ := ff.mem hm
      rw [e] at e'; cases e'
      exact hnf _ dd
    have nfr : a ∉ frs (X.env :: X.outer) := by
      obtain ⟨oe3, vs3, he3, hz3, hd3⟩ := fl3.there
      exact notFr fl3.2.2.1 he3 hd3
    have nL : a ≠ X.env.locals := fun z => nfr (List.mem_filterMap.mpr ⟨X.env, List.mem_cons_self, by rw [hf, z]⟩)
    have nF : a ∉ X.fs := fun hm => by
      obtain ⟨e, he, q⟩ := List.mem_filterMap.mp hm
      exact nfr (List.mem_filterMap.mpr ⟨e, List.mem_cons_of_mem _ he, q⟩)
    have go : ∀ {hds' : List ExceptHandler} {l' : List (List Value × Nat × (Addr → Value → Option Addr → TS))}, HdsC X hds' l' → (∀ x ∈ l', x.1.length ≤ 1000) → wMas X.K Wout D l' cls d σ' H' → ∀ h3, HandSPX.FlyingZ B (X.env :: X.outer) a (Zb B H' cls d) h3 → sI.heap.UpToSlots h3 →
        wpAny (model X.prog X.w) X.A (handleBy (.ref a) X.env hds') (SP X pins D) X.xe { s' with heap := h3 } := by
      intro hds' l' hk
      induction hk with
      | nil =>
        intro _ w h3 fl3 up3
        refine wpAny_handleBy_nil ?_
        obtain ⟨k1, k2, k3, oe, vs, T, oT, ts', he, hz, hd, h1, hr⟩ := id fl3
        unfold PySem.passOn
        refine wpAny_bind (wpAny_field he hd h1 ?_)
        rw [if_neg (show ¬ ((Value.ref T == Value.none) = true) from by simp)]
        have fin : wpAny (model X.prog X.w) X.A (setFlight (.ref a) X.env.frame) (fun _ s4 => wpAny (model X.prog X.w) X.A (throw (.ref a) : Sem Flow) (SP X pins D) X.xe s4) X.xe { s' with heap := h3 } := by
          rw [hf]
          refine HandSPX.setFlight_upZ fl3 fun h4 hh4 up4 => wpAny_throw (tk _ _ ?_)
          exact ⟨a, B, sI, pins, σ', H', cls, d, rfl, J, nb, up3.trans up4, .inr (.inr (by rw [hs]; exact hh4)), na, os, ag, w⟩
        first
          | exact wpAny_bind (wpAny_pure (wpAny_bind fin))
          | exact wpAny_bind fin
      | @cons te cs n i ts b₀ suite pos' hds2 l2 hc hi hln hsu r ih =>
        intro hz0 w h3 fl3 up3
        obtain ⟨b, hb1, hyes, hno⟩ := w
        have J3 : Inv X pins σ' H' { s' with heap := h3 } := J.landed nb fl3.1 up3 os ag
        obtain ⟨oe3, vs3, he3, hz3, hd3⟩ := fl3.there
        have S3 := J3.suite he3 hd3 na nL nF
        refine wpAny_handleBy_cons (codeAny_handlers_test ?_) (by intro q; cases q)
        -- the classes, then the match, in a heap that is kept
        have test : ∀ {R : Bool → Shared → Prop} {E : Value → Shared → Prop}, (∀ h4, (∀ b o, h3.get? b = some o → h4.get? b = some o) → R b { s' with heap := h4 }) →
            wpAny (model X.prog X.w) (X.A.mark (some (.ref a))) (eval te X.env) (fun c s₁ => wpAny (model X.prog X.w) (X.A.mark (some (.ref a))) (excMatches (.ref a) c) R E s₁) E { s' with heap := h3 } := fun {R E} q => by
          cases hc with
          | one hn =>
            rename_i x c np
            have LT : PySem.W.Looks (model X.prog X.w) h3 (typeOf (.ref a)) cls := fun A Q E s k q => wpAny_typeOf_ref (k _ _ he3) (by rw [hz3.1]; exact q)
            obtain ⟨b1, d1, h1, h2, eb⟩ := PySem.W.exmAny_cons hb1
            have w2 : some false = some d1 := h2
            cases w2
            rw [Bool.or_false] at eb
            subst eb
            have LM := PySem.W.exm_one (M := model X.prog X.w) (J3.kIn) LT h1
            obtain ⟨hg, hdbg, hm | ⟨hm, hv, hnn⟩⟩ := hn
            · exact ld_glob (X := X.suite a ((a, oe3) :: (X.pn ++ pins))) S3 hg hm (LM.here (q h3 fun _ _ z => z)) hdbg
            · exact ld_blt (X := X.suite a ((a, oe3) :: (X.pn ++ pins))) S3 hg hm hv (LM.here (q h3 fun _ _ z => z)) hnn hdbg
          | tup hn =>
            rename_i es kk np
            refine wpAny_Tuple_spliced (eval_names (Y := X.suite a ((a, oe3) :: (X.pn ++ pins))) S3 _ hn.suite ⟨?_, ?_⟩)
            · exact Nat.le_trans (hz0 _ List.mem_cons_self) (by decide)
            · have kp : ∀ b o, h3.get? b = some o → (h3.push { cls := .type "tuple", data := .seq cs.toArray }).get? b = some o := fun b o e => Heap.get?_push_of_some _ e
              have LT : PySem.W.Looks (model X.prog X.w) (h3.push { cls := .type "tuple", data := .seq cs.toArray }) (typeOf (.ref a)) cls := fun A Q E s k q => wpAny_typeOf_ref (k _ _ (kp _ _ he3)) (by rw [hz3.1]; exact q)
              have LM := PySem.W.exm_tupN (M := model X.prog X.w) (J3.kIn.keeps kp) LT (Heap.get?_push_size _ rfl) hb1
              exact LM.here (q _ kp)
        refine test fun h4 kp => ?_
        have fl4 := flying_kept fl3 kp
        have up4 : sI.heap.UpToSlots h4 := up3.trans (.of_keeps kp)
        cases b with
        | true =>
          refine codeAny_handlers_suite_as ?_
          refine HandSPX.lands_againZ fl4 fun h5 fl5 up5 => ?_
          have J5 : Inv X pins σ' H' { s' with heap := h5 } := J.landed nb fl5.1 (up4.trans up5) os ag
          obtain ⟨oe5, vs5, he5, hz5, hd5⟩ := fl5.there
          obtain ⟨c5, hc5, C5⟩ := hz5.2.2 vs5 hd5
          obtain ⟨pl, hpl, Cpl⟩ := (C5.keeps fl5.1).pins
          have J5' : Inv X (pins ++ pl) σ' H' { s' with heap := h5 } := J5.pins_of fun p hp => (List.mem_append.mp hp).elim (fun z => J5.pin p (List.mem_append_right _ z)) fun z => by
            obtain ⟨g1, g2, vq, g3⟩ := hpl p z
            have nfq : p.1 ∉ frs (X.env :: X.outer) := fun hm => by
              obtain ⟨_, o', e', hnf⟩ := fl5.2.2.1.mem hm
              rw [g1] at e'; cases e'
              exact hnf _ g3
            refine ⟨g1, g2, fun y => nfq (List.mem_filterMap.mpr ⟨X.env, List.mem_cons_self, by rw [hf, y]⟩), fun hm => ?_, fun v y => by rw [g3] at y; cases y⟩
            obtain ⟨e, he, q⟩ := List.mem_filterMap.mp hm
            exact nfq (List.mem_filterMap.mpr ⟨e, List.mem_cons_of_mem _ he, q⟩)
          have S5 := J5'.suite he5 hd5 na nL nF
          have hot : HotD (X.suite a ((a, oe5) :: (X.pn ++ (pins ++ pl)))) := ⟨(a, oe5), List.mem_cons_self, rfl, .ref (q := (a, oe5)) List.mem_cons_self hd5 hc5 (Cpl.mono fun q hq => List.mem_cons_of_mem _ (List.mem_append_right _ (List.mem_append_right _ hq)))⟩
          refine store_ok (X := X.suite a ((a, oe5) :: (X.pn ++ (pins ++ pl)))) (v := .ref a) S5 hN hi (.inl hln) rfl (fun s6 S6 => ?_) (.inr hln)
          refine wpAny_mono ((hsu a oe5 cls d (X.pn ++ (pins ++ pl)) hz5.zc ⟨_, hd5⟩ hot).run [] s6 _ H' _ S6 (hyes rfl a na)) (fun f s6 hsp => ?_) (fun _ _ z => False.elim z)
          have end_ : ∀ {σ6 : L2.St} {H6 : Hp} {Q : Shared → Prop}, Inv (X.suite a ((a, oe5) :: (X.pn ++ (pins ++ pl)))) [] σ6 H6 s6 → (∀ s7, Inv X pins (σ6.set i none) H6 s7 → Q s7) →
              wpAny (model X.prog X.w) X.A (do bindName X.env n .none; unbindBehindTheSuite X.env n pos') (fun _ s7 => Q s7) X.xe s6 := fun {σ6 H6 Q} S6 hq => gone_ok (Inv.unpinned (S6.unsuite ok)) hN hi hln hq
          cases f with
          | next =>
            obtain ⟨σ6, H6, S6, q6⟩ := hsp
            exact end_ S6 fun s7 J7 => ⟨_, _, J7, q6⟩
          | brk =>
            obtain ⟨σ6, H6, S6, q6⟩ := hsp
            exact end_ S6 fun s7 J7 => ⟨_, _, J7, q6⟩
          | cont =>
            obtain ⟨σ6, H6, S6, q6⟩ := hsp
            exact end_ S6 fun s7 J7 => ⟨_, _, J7, q6⟩
          | ret u =>
            obtain ⟨v6, σ6, H6, S6, r6, q6⟩ := hsp
            exact end_ S6 fun s7 J7 => ⟨_, _, _, J7, r6, q6⟩
        | false =>
          show wpAny _ X.A (handleBy (.ref a) X.env hds2) _ _ _
          exact ih (fun x hx => hz0 x (List.mem_cons_of_mem _ hx)) (hno rfl) h4 fl4 up4
    exact go hh hsz w h3 fl3 (up.trans up3)
  · cases f with
    | next =>
      obtain ⟨σ', H', J', q⟩ := hsp
      exact wpAny_execs_nil ⟨σ', H', J'.ofTry ok, q⟩
    | brk =>
      obtain ⟨σ', H', J', q⟩ := hsp
      exact ⟨σ', H', J'.ofTry ok, q⟩
    | cont =>
      obtain ⟨σ', H', J', q⟩ := hsp
      exact ⟨σ', H', J'.ofTry ok, q⟩
    | ret u =>
      obtain ⟨v, σ', H', J', r, q⟩ := hsp
      exact ⟨v, σ', H', J'.ofTry ok, r, q⟩
end
/-! ### defs that are called with the caught exception -/
def cxL (CX : CXT) (P : Program) (w : World) (K : PySem.W.Frag) (mg : Str → Option Value) (base : Heap) (N : List Str) (qual : Str) (scope : Scope) (f : Addr) (cd : Value) (A : Around) (outer : List Env) (s : Shared) (H : Hp) (E : XK) (pl : List (Addr × Obj)) : Cx :=
  { cxOf CX P w K mg base N qual scope f cd A outer s H E with calm := false, pn := pl }
theorem inv_startL {CX : CXT} {P : Program} {w : World} {K : PySem.W.Frag} {mg : Str → Option Value} {base : Heap} {N ps : List Str} {qual : Str} {scope : Scope} {f : Addr} {cd : Value} {A : Around} {outer : List Env} {s s1 : Shared} {H : Hp} {E : XK} {us : List Value} {vs : List V}
    (S : FnScope N ps scope) {pl : List (Addr × Obj)} (hpin : ∀ p ∈ pl, PinOk outer H s p) (e0 : Env0 P w K mg base A outer s H) (hl : vs.length = ps.length) (r : Vals vs us)
    (x : InCallC s s.heap.objs.size (bindL (envOfC qual scope s.heap.objs.size f cd).kindOf (ps.zip us) fun _ => none) (cellsFrom (s.heap.objs.size + 1) scope.names []) (bindC (envOfC qual scope s.heap.objs.size f cd).kindOf (ps.zip us) fun _ => none) s1) :
    Inv (cxL CX P w K mg base N qual scope f cd A outer s H E pl) [] (L2.start N vs) H s1 := by
  have hpl : ps.length ≤ N.length := by have := congrArg List.length S.pre; rw [List.length_take] at this; omega
  obtain ⟨h1, tk, rfl, hk⟩ := x.done
  have noA : ∀ b : Addr, b ∉ (cxL CX P w K mg base N qual scope f cd A outer s H E pl).ex := fun b z => absurd (show b ∈ ([] : List Addr) from z) (by simp)
  refine ⟨⟨e0.mod, S.kind, rfl, rfl, Nat.le_refl _, fun y z c h1 h2 => ?_, fun y hy => ?_, fun y c _ h => ?_, (fun z => Bool.noConfusion (show false = true from z)), Around.frames_deeper e0.frames, .inr ⟨rfl, rfl⟩, fun b z => absurd z (noA b), e0.bs, e0.bsz, fun b _ _ => noA b, fun b z => absurd z (noA b), e0.funs, e0.frf⟩,
    rfl, e0.bare, Un.kept hk, ⟨_, x.toInCall.ns, fun i y v h1 h2 h3 => ?_⟩, fun y c h => ⟨_, x.cell y c h⟩, e0.hok.fresh (Nat.le_refl _), fun y c h => ?_, fun q hq => ?_, e0.hok.kept hk, ?_⟩
  · exact name_of_addr x.apart (PySem.mem_of_lookup h1) (PySem.mem_of_lookup h2)
  · have hy : scope.names.lookup y = some .cell ∨ scope.names.lookup y = some .free := hy
    rcases hy with hy | hy
    · exact cell_has hy
    · exact absurd rfl (S.nofree _ (PySem.mem_of_lookup hy))
  · exact Nat.le_of_lt (x.above y c (PySem.mem_of_lookup h))
  · have hi : i < vs.length := by
      unfold L2.start at h2
      by_cases hi : i < vs.length
      · exact hi
      · rw [List.getElem?_append_right (by simpa using hi)] at h2
        rw [List.getElem?_replicate] at h2
        split at h2 <;> cases h2
    have ha : vs[i]? = some v := by
      unfold L2.start at h2
      rw [List.getElem?_append_left (by simpa using hi), List.getElem?_map] at h2
      cases e : vs[i]? with
      | none => rw [e] at h2; cases h2
      | some a => rw [e] at h2; cases h2; rfl
    obtain ⟨u, hu, rv⟩ := r.get ha
    have hp : ps[i]? = some y := by
      rw [← S.pre, List.getElem?_take_of_lt (by omega)]; exact h1
    have ndP : ps.Nodup := by rw [← S.pre]; exact S.nd.sublist (List.take_sublist _ _)
    refine ⟨u, rv, ?_⟩
    rcases S.par y (List.mem_of_getElem? hp) with k | k
    · exact .inl ⟨k, bindL_get ndP hp hu k⟩
    · obtain ⟨c, e⟩ := cell_has (n := s.heap.objs.size + 1) k
      refine .inr ⟨.inl k, c, e, ?_⟩
      have q := x.cell y c e
      rw [bindC_get ndP hp hu (by show scope.names.lookup y ≠ _; rw [k]; decide)] at q
      exact q
  · exact e0.hok.fresh (Nat.le_of_lt (x.above y c (PySem.mem_of_lookup h)))
  · have hq' : q ∈ pl := by simpa using (show q ∈ pl ++ ([] : List (Addr × Obj)) from hq)
    have z := hpin q hq'
    exact ⟨hk q.1 q.2 z.get, z.free, Nat.ne_of_lt (Heap.lt_size z.get), z.nofs, z.nocell⟩
  · unfold L2.start
    show _ = N.length
    rw [List.length_append, List.length_map, List.length_replicate]
    omega
structure FnQ0 (P : Program) (w : World) (K : PySem.W.Frag) (mg : Str → Option Value) (base : Heap) (k : Nat) (f : Addr) (fd : FuncData) (ps : List Str) (sp : SpP) : Prop where
  len : ∀ p vs H Q, sp p vs H Q → vs.length = ps.length
  run : ∀ (A : Around) (outer : List Env) (s : Shared) (H : Hp) (args : Args) (us : List Value) (vs : List V) (Q : VK) (p : Addr × Obj) (pl : List (Addr × Obj)), L2H.RoomH k A → HotP A pl p → (∀ q ∈ pl, L2H.PinOk outer H s q) → Env0 P w K mg base A outer s H → BindsTo s fd args (ps.zip us) → Vals vs us → sp p vs H Q →
    codeAny (model P w) A (.call (.ref f) args) (CR CX0 outer P w H s Q E0) s
theorem Fun_okQ {P : Program} {w : World} {K : PySem.W.Frag} {mg : Str → Option Value} {base : Heap} {x qual : Str} {st : Stmt} {f : Addr} {fd : FuncData} {N ps : List Str} {k : Nat} {sp : SpP} (F : Fun K x qual st f fd) (S : FnScope N ps (defScope st)) (len : ∀ p vs H Q, sp p vs H Q → vs.length = ps.length)
    (hbody : ∀ (cdv : Value) (A : Around) (outer : List Env) (s : Shared) (H : Hp) (vs : List V) (Q : VK) (p : Addr × Obj) (pl : List (Addr × Obj)), HotP A pl p → L2H.RoomH k (A.deeper (envOfC qual (defScope st) s.heap.objs.size f cdv)) → sp p vs H Q →
      ∃ t, PSs (cxL CX0 P w K mg base N qual (defScope st) f cdv A outer s H E0 pl).nox (defBody st) t ∧ t { nx := fun _ H' => Q .non H', rt := Q } (L2.start N vs) H) : FnQ0 P w K mg base (k + 1) f fd ps sp := by
  obtain ⟨oc, od, kV, doc, pm, an, cdv, ct, osl, rfl, lk, hcd⟩ := F.ex
  refine ⟨len, fun A outer s H args us vs Q p pl hr hot hpin e0 hb r hsp => ?_⟩
  have hl := len _ _ _ _ hsp
  have KX : K.In s.heap := e0.mod.kin.keeps fun b o e => (e0.bs b o e).1
  refine codeAny_call_function hr.depth (KX _ _ lk) rfl S.co S.gen rfl (PySem.W.codeRec_of KX hcd) (hb _ _ _ _ ?_)
  have hkind : ∀ y ∈ ps.zip us, (defScope st).names.lookup y.1 = some .local ∨ ((defScope st).names.lookup y.1 = some .cell ∧ ((cellsFrom (s.heap.objs.size + 1) (defScope st).names []).lookup y.1).isSome = true) := by
    intro y hy
    obtain ⟨n, v⟩ := y
    exact (S.par n (List.of_mem_zip hy).1).imp id fun q => ⟨q, PySem.W.cellsFrom_some _ _ _ (.inl q)⟩
  refine wpAny_newFunctionEnv_cells S.kind hkind fun env he s1 x => ?_
  subst he
  refine ⟨(e0.mod.nolimit.keeps fun b o e => (e0.bs b o e).1).keeps x.toInCall.keep, codeAny_func ?_⟩
  obtain ⟨t, ht, hq⟩ := hbody cdv A outer s H vs Q p pl hot (hr.deeper _) hsp
  refine wpAny_mono (ht.nox.run [] s1 (L2.start N vs) H _ (inv_startL S hpin e0 hl r x) hq) (fun fl s' hs => ?_) fun e s' hs => hs
  have fin : ∀ {σ' : L2.St} {H' : Hp} {v : V} {u : Value}, Inv (cxL CX0 P w K mg base N qual (defScope st) f cdv A outer s H E0 pl) [] σ' H' s' → RelV v u → Q v H' → CE outer P w H s Q u s' :=
    fun {σ' H' v u} J rv q => ⟨v, H', J.os, J.bare, J.base, J.hok, rv, q⟩
  match fl, hs with
  | .ret u, ⟨v, σ', H', J, rv, q⟩ => exact fin J rv q
  | .next, ⟨σ', H', J, q⟩ => exact fin (v := V.non) (u := Value.none) J rfl q
  | .brk, ⟨_, _, _, q⟩ => exact q.elim
  | .cont, ⟨_, _, _, q⟩ => exact q.elim
structure FnQ (P : Program) (w : World) (K : PySem.W.Frag) (mg : Str → Option Value) (base : Heap) (x : Str) (k : Nat) (ps : List Str) (sp : SpP) : Prop where
  ex : ∃ (f : Addr) (fd : FuncData), FnQ0 P w K mg base k f fd ps sp ∧ mg x = some (.ref f) ∧ PySem.W.keepIn K (.ref f) = true ∧ Binds K fd ps []
theorem pe_fq {X : Cx} {x : Str} {k : Nat} {ps : List Str} {sp : SpP} {e : Expr} {es : List Expr} {t : TA} {q pos : Pos} {a : Addr} {oe : Obj} {cls : Value} {d : Option Addr} (F : FnQ X.prog X.w X.K X.mg X.base x k ps sp) (hp : (a, oe) ∈ X.pn) (hz : Zc cls d oe) (hf : ∃ vs, oe.data = .fields vs) (hot : HotD X) (hh : X.A.handled = some (.ref a)) (hr : L2H.RoomH k X.A) (hg : Gl X x) (ha : PA X (e :: es) t)
    (hdb : (x == ("__debug__" : Str)) = false := by decide) (he : starEach (e :: es) X.env = (false, eval e X.env) :: starEach es X.env := by rfl) (hpl : (backTo pos (starEach es X.env)).any (·.1) = false := by rfl) :
    PE X (.Call (.Name x q) (e :: es) [] pos) (tCallP sp a cls d t) := by
  obtain ⟨f, fd, G, hm, hk, hb⟩ := F.ex
  refine ⟨fun pins s σ H Q I h => ?_⟩
  refine wpAny_Call_Name_kw (ld_glob I hg hm ?_ hdb)
  refine PySem.W.callWith_K (h₀ := X.base) I.ok.mod.kin hk (thn (ha.run pos pins s σ H _ I h) fun us s1 ⟨vs, H1, I1, r, q⟩ => ⟨I1.kIn, ?_⟩) he hpl
  have q := q oe hz hf
  have hl : us.length = ps.length := by rw [← r.length]; exact G.len _ _ _ _ q
  have b := hb s1 us I1.kIn (by rw [List.append_nil]; exact hl)
  rw [List.append_nil] at b
  have hpin : ∀ p ∈ X.pn, L2H.PinOk X.stack H1 s1 p := fun p hp => by
    have P1 := I1.pin p (List.mem_append_left _ hp)
    exact ⟨P1.1, P1.2.1, fun hm => (List.mem_cons.mp (I1.stkSub p.1 hm)).elim P1.2.2.1 P1.2.2.2.1, P1.2.2.2.2⟩
  have hot' : HotP X.A X.pn (a, oe) := by
    obtain ⟨p', m1, m2, m3⟩ := hot
    have e1 : p'.1 = a := by
      rw [hh] at m2
      cases m2
      rfl
    refine ⟨hp, hh, ?_⟩
    rw [e1] at m3
    exact m3
  show wpAny _ _ (call (.ref f) us) _ _ _
  refine wpAny_call (codeAny_mono (G.run X.A X.stack s1 H1 ⟨us, []⟩ us vs Q (a, oe) X.pn hr hot' hpin I1.env0 b r q) fun r s' hq => ?_)
  match r, hq with
  | .error e, hq => exact False.elim hq
  | .ok (.ret u), hq => exact I1.after hq
  | .ok .next, hq => exact False.elim hq
  | .ok .brk, hq => exact False.elim hq
  | .ok .cont, hq => exact False.elim hq
theorem hotD_of {CX : CXT} {P : Program} {w : World} {K : PySem.W.Frag} {mg : Str → Option Value} {base : Heap} {N : List Str} {qual : Str} {scope : Scope} {f : Addr} {cd : Value} {A : Around} {outer : List Env} {s : Shared} {H : Hp} {E : XK} {pl : List (Addr × Obj)} {p : Addr × Obj} (h : HotP A pl p) :
    HotD (cxL CX P w K mg base N qual scope f cd A outer s H E pl).nox := ⟨p, h.mem, h.hd, h.ch⟩
end Bw

/-! lambdas whose exceptions bear a chain that ends -/
namespace Bw
open PySem PySem.Spec PyProof.Rows L2 LamX
section
variable {X : Cx} {pins : List (Addr × Obj)} {σ : L2.St} {H HZ : Hp} {s s1 : Shared}
/-- the context of the lambda's body, entered at s from the frames outer -/
def lamCxC (X : Cx) (A : Around) (outer : List Env) (s : Shared) (H : Hp) (E : XK) (scope : Scope) (f c' : Addr) : Cx where
  prog := X.prog
  w := X.w
  K := X.K
  mg := X.mg
  base := X.base
  A := A.deeper (lamEnv X scope s.heap.objs.size f c')
  N := X.N
  s_0 := s
  H_0 := H
  env := lamEnv X scope s.heap.objs.size f c'
  outer := outer
  stack := lamEnv X scope s.heap.objs.size f c' :: outer
  ex := []
  fn := fun _ => false
  calm := true
  pn := []
  xe := fun e s' => wpAny (model X.prog X.w) (A.deeper (lamEnv X scope s.heap.objs.size f c')) (leaving (lamEnv X scope s.heap.objs.size f c') e) (fun _ s'' => CXc X.prog X.w outer H s E e s'') (fun e' s'' => CXc X.prog X.w outer H s E e' s'') s'
theorem lam_startC {A : Around} {outer : List Env} {E : XK} {scope : Scope} {f c' : Addr} {h₁ : Heap} {tk : Nat} (I : Inv X pins σ H s) (L : LamS X.env.scope scope) (e0 : Env0 X.prog X.w X.K X.mg X.base A outer s1 HZ) (hd : A.handled = none)
    (un : Un (frs X.stack) [] H HZ s.heap s1.heap) (hns : h₁.Ns s1.heap.objs.size fun y => ([] : List (Str × Value)).reverse.lookup y) (kp : ∀ b o, s1.heap.get? b = some o → h₁.get? b = some o) :
    Inv (lamCxC X A outer s1 HZ E scope f c') [] σ HZ { s1 with heap := h₁, toks := tk } := by
  have hfree := L.has I.ok
  have cm : ∀ {y c}, (cloFrom X.env.cells scope.names []).lookup y = some c → X.env.cells.lookup y = some c := fun {y c} e => by
    rcases cloFrom_mem (PySem.mem_of_lookup e) with hm | ⟨h1, h2⟩
    · cases hm
    · obtain ⟨c1, hc⟩ := hfree _ h1 rfl
      have hc : X.env.cells.lookup y = some c1 := hc
      have e2 : c = c1 := by
        rw [h2, hc] <;> rfl
      rw [e2]
      exact hc
  have look : ∀ {y}, scope.names.lookup y = some .free → ∃ c, (cloFrom X.env.cells scope.names []).lookup y = some c := fun {y} hl => by
    have hy : (y, NameKind.free) ∈ scope.names := PySem.mem_of_lookup hl
    exact mem_lookup (cloFrom_has (cells := X.env.cells) (acc := []) hy)
  have cellK : ∀ {c : Addr} {v : Option Value}, H c = none → s.heap.IsCell c v → h₁.IsCell c v := fun {c v} n ⟨o, ho, hd⟩ => by
    obtain ⟨sl, q⟩ := un.any ho n (by simp)
    exact ⟨_, kp _ _ q, hd⟩
  have noA : ∀ b : Addr, b ∉ (lamCxC X A outer s1 HZ E scope f c').ex := fun b z => absurd (show b ∈ ([] : List Addr) from z) (by simp)
  refine ⟨⟨e0.mod, L.kind, rfl, rfl, Nat.le_refl _, fun y z c e1 e2 => I.ok.inj y z c (cm e1) (cm e2), fun y hy => ?_, fun y c z _ => ?_, fun _ => hd, Around.frames_deeper e0.frames, .inr ⟨rfl, rfl⟩, fun b z => absurd z (noA b), e0.bs, e0.bsz, fun b _ _ => noA b,
      fun b z => absurd z (noA b), e0.funs, e0.frf⟩,
    rfl, e0.bare, Un.kept kp, ⟨_, hns, fun i y v e1 e2 e3 => ?_⟩, fun y c e => ?_, e0.hok.fresh (Nat.le_refl _), fun y c e => ?_, fun q hq => absurd (show q ∈ ([] : List (Addr × Obj)) ++ [] from hq) (by simp), e0.hok.kept kp, I.len⟩
  · have hy : scope.names.lookup y = some .cell ∨ scope.names.lookup y = some .free := hy
    rcases hy with hy | hy
    · exact absurd rfl (L.own _ (PySem.mem_of_lookup hy)).2
    · exact look hy
  · have z : false = true := z
    cases z
  · have e3 : Vis scope y := e3
    rcases e3 with k | k | k
    · exact absurd rfl (L.own _ (PySem.mem_of_lookup k)).1
    · exact absurd rfl (L.own _ (PySem.mem_of_lookup k)).2
    · obtain ⟨m, hn, hl⟩ := I.loc
      have hvis : Vis X.env.scope y := (L.free _ (PySem.mem_of_lookup k) rfl).elim (fun k => .inr (.inl k)) (fun k => .inr (.inr k))
      obtain ⟨w', r, q⟩ := hl i y v e1 e2 hvis
      obtain ⟨c2, h2⟩ := look k
      refine ⟨w', r, .inr ⟨.inr k, c2, h2, ?_⟩⟩
      have c1 := cm h2
      rcases q with ⟨k', _⟩ | ⟨_, c3, e', z⟩
      · have k' : X.env.scope.names.lookup y = some .local := k'
        rcases L.free _ (PySem.mem_of_lookup k) rfl with k2 | k2 <;> rw [show X.env.scope.names.lookup y = _ from k2] at k' <;> cases k'
      · rw [c1] at e'
        cases e'
        exact cellK (I.freeC y _ c1) z
  · obtain ⟨w', z⟩ := I.cell y c (cm e)
    exact ⟨w', cellK (I.freeC y c (cm e)) z⟩
  · obtain ⟨v, o, ho, hd⟩ := I.cell y c (cm e)
    exact un.free c o ho (I.freeC y c (cm e)) (by simp)
/-- x(), in the def that got the lambda: Z is that def's context, entered at s -/
theorem pe_actC {CXg : CXT} {Eg : XK} {Ng : List Str} {qg : Str} {sg : Scope} {g f c' : Addr} {cdg pm ctv : Value} {params : Arguments} {body : Expr} {scope : Scope} {k i : Nat} {a : Str} {pn : List (Addr × Obj)} {xe : Value → Shared → Prop} {W : WX} {E : XK} {tb : TE} {p1 p2 : Pos}
    (I : Inv X pins σ H s) (L : LamS X.env.scope scope) (hf : s.heap.get? f = some (PySem.W.kla_obj "<lambda>" (X.env.qual ++ "<lambda>") params body scope (cloFrom X.env.cells scope.names []) pm c' ctv)) (hfn : H f = none) (hfr : f ∉ frs X.stack)
    (hbind : bindArgs (PySem.W.kla_fn "<lambda>" (X.env.qual ++ "<lambda>") params body scope (cloFrom X.env.cells scope.names []) pm (.ref c') ctv) ⟨[], []⟩ = pure [])
    (tk : TakesC ((cxOf CXg X.prog X.w X.K X.mg X.base Ng qg sg g cdg X.A X.stack s H Eg).tr pn xe) W) (hW : ∀ cls d σ' H', E cls d H' → W cls d σ' H') (hr : Room (k + 1) (X.A.deeper (envOfC qg sg s.heap.objs.size g cdg)))
    (hbody : ∀ (A : Around) (outer : List Env) (s : Shared) (H : Hp), Room k (A.deeper (lamEnv X scope s.heap.objs.size f c')) → PE (lamCxC X A outer s H E scope f c') body tb)
    (hN : Ng[i]? = some a) (hv : Vis sg a) (hd : (a == ("__debug__" : Str)) = false := by decide) (hcd : (a == ("__classdict__" : Str)) = false := by decide) :
    PE ((cxOf CXg X.prog X.w X.K X.mg X.base Ng qg sg g cdg X.A X.stack s H Eg).tr pn xe) (.Call (.Name a p1) [] [] p2)
      (fun σZ HZ Q => σZ[i]? = some (some (.ref f)) ∧ HZ c' = some (CodeO c' (X.env.qual ++ "<lambda>")) ∧ tb σ HZ Q) := by
  refine ⟨fun pinsZ sZ σZ HZ Q IZ h => ?_⟩
  obtain ⟨hs, hc, ht⟩ := h
  refine wpAny_Call_Name_kw (thn ((pe_var (pos := p1) (i := i) hN hv hd hcd).run pinsZ sZ σZ HZ (fun v H1 => v = .ref f ∧ H1 = HZ) IZ ⟨.ref f, hs, rfl, rfl⟩) fun u s1 ⟨v, H1, I1, r1, q1⟩ => ?_)
  obtain ⟨ev, eH⟩ := q1
  subst ev
  rw [eH] at I1
  obtain rfl : u = Value.ref f := r1
  have of1 : s1.heap.get? f = some (PySem.W.kla_obj "<lambda>" (X.env.qual ++ "<lambda>") params body scope (cloFrom X.env.cells scope.names []) pm c' ctv) := I1.base.keep f _ hf hfn hfr (fun z => nomatch (show f ∈ ([] : List Addr) from z))
  refine PySem.W.callWith_F0 ⟨_, _, _, _, of1⟩ ?_
  have un : Un (frs X.stack) [] H HZ s.heap s1.heap := I1.base
  obtain ⟨⟨oc, vs, t, hoc, hdc, hvc⟩, _, _⟩ := I1.hok c' _ hc
  have rc : codeAny (model X.prog X.w) (X.A.deeper (envOfC qg sg s.heap.objs.size g cdg)) (.call (.ref f) ⟨[], []⟩) (CR (CXc X.prog X.w) (envOfC qg sg s.heap.objs.size g cdg :: X.stack) X.prog X.w HZ s1 Q E) s1 := by
    refine PySem.W.kla_callFunE hr.depth of1 rfl L.co L.gen rfl ⟨c', oc, vs, t, rfl, hoc, hdc, hvc⟩ ?_
    rw [hbind]
    refine wpAny_pure (wpAny_newFunctionEnv (fun y hy => (L.own y hy).2) (fun y hy => absurd hy (by simp)) (fun h₁ hns hsb => ⟨I1.nolimit.fresh _ hsb, ?_⟩) L.kind)
    show codeAny _ _ (.expr body (lamEnv X scope s1.heap.objs.size f c')) _ _
    have kp : ∀ b o, s1.heap.get? b = some o → h₁.get? b = some o := fun b o e => hsb.extBut b o (Nat.ne_of_lt (Heap.lt_size e)) (Heap.get?_push_of_some _ e)
    have J : Inv (lamCxC X (X.A.deeper (envOfC qg sg s.heap.objs.size g cdg)) (envOfC qg sg s.heap.objs.size g cdg :: X.stack) s1 HZ E scope f c') [] σ HZ { s1 with heap := h₁, toks := s1.toks + ([] : List (Str × Value)).length } :=
      lam_startC I L I1.env0 hr.hd un hns kp
    refine PySem.W.kla_codeExpr (wpAny_mono ((hbody _ _ s1 HZ (hr.deeper _)).run [] _ _ HZ Q J ht) (fun v s' hq => ?_) fun e s' hq => hq)
    obtain ⟨w', H', J', rv, q⟩ := hq
    exact ⟨w', H', J'.os, J'.bare, J'.base, J'.hok, rv, q⟩
  have hx : Passes (CXc X.prog X.w) ((cxOf CXg X.prog X.w X.K X.mg X.base Ng qg sg g cdg X.A X.stack s H Eg).tr pn xe) E := passesC_call tk hW
  refine wpAny_call (codeAny_mono rc fun r s' hq => ?_)
  cases r with
  | error e => exact hx pinsZ σZ HZ s1 e s' I1 hq
  | ok fl =>
    cases fl with
    | ret u => exact I1.after hq
    | next => exact False.elim hq
    | brk => exact False.elim hq
    | cont => exact False.elim hq
end
/-- the def that calls what it got: a calls it; TT: what it makes of the lambda's reading -/
def GivesC (X : Cx) (Ng : List Str) (x : Str) (sg : Scope) (g : Addr) (cdg : Value) (bg : List Stmt) (a : Str) (q : Str) (TT : (XK → Hp → VK → Prop) → Hp → VK → Prop) : Prop :=
  ∀ (f c' : Addr) (s : Shared) (H : Hp) (Q : VK) (tl : XK → Hp → VK → Prop),
    (∀ (W : WX) (pn : List (Addr × Obj)) (xe : Value → Shared → Prop) (E : XK) (p1 p2 : Pos), TakesC ((cxOf C8.CX0 X.prog X.w X.K X.mg X.base Ng x sg g cdg X.A X.stack s H C8.E0).tr pn xe) W → (∀ cls d σ' H', E cls d H' → W cls d σ' H') →
      PE ((cxOf C8.CX0 X.prog X.w X.K X.mg X.base Ng x sg g cdg X.A X.stack s H C8.E0).tr pn xe) (.Call (.Name a p1) [] [] p2) (fun σZ HZ Q => σZ[0]? = some (some (.ref f)) ∧ HZ c' = some (CodeO c' q) ∧ tl E HZ Q)) →
    H c' = some (CodeO c' q) → TT tl H Q →
    ∃ t, PSs (cxOf C8.CX0 X.prog X.w X.K X.mg X.base Ng x sg g cdg X.A X.stack s H C8.E0).nox bg t ∧ t { nx := fun _ H' => Q .non H', rt := Q } (L2.start Ng [.ref f]) H
section
variable {X : Cx}
/-- x(lambda: body) -/
theorem pe_lamcallC {T : List (Addr × Str)} {TT : (XK → Hp → VK → Prop) → Hp → VK → Prop} {x a : Str} {g c P : Addr} {k : Nat} {pg : Arguments} {bg : List Stmt} {sg : Scope} {dV kV doc pm cdv ct oc : Value} {an od : Option Addr} {osl : Array (Option Value)} {Ng : List Str}
    {params : Arguments} {body : Expr} {scope : Scope} {t : XK → TE} {p lpos pos : Pos} (hg : Gl X x) (hm : X.mg x = some (.ref g)) (hk : PySem.W.keepIn X.K (.ref g) = true)
    (lk : X.K.lookup g = some ⟨oc, od, .func (PySem.W.fnOf x x pg bg sg dV kV doc pm an cdv ct), osl⟩) (hcg : PySem.W.codeIn X.K cdv x = true) (hb : L2.Binds X.K (PySem.W.fnOf x x pg bg sg dV kV doc pm an cdv ct) [a] []) (Sg : FnScope Ng [a] sg) (hNg : Ng[0]? = some a) (hva : Vis sg a)
    (hG : GivesC X Ng x sg g cdv bg a (X.env.qual ++ "<lambda>") TT)
    (TB : TabB X.base X.mg c P) (hcode : X.env.code = .ref c) (hmT : (P, X.env.qual ++ "<lambda>") ∈ T) (hu : ∀ p ∈ T, p.1 = P → p.2 = X.env.qual ++ "<lambda>") (hr : Room (k + 2) X.A) (L : LamS X.env.scope scope) (hdef : defaultsOf params X.env = ([], []))
    (hbind : ∀ (q : Str) (cl : List (Str × Addr)) (pm cv ctv : Value), bindArgs (PySem.W.kla_fn "<lambda>" q params body scope cl pm cv ctv) ⟨[], []⟩ = pure [])
    (hbody : ∀ (A : Around) (outer : List Env) (s : Shared) (H : Hp) (E : XK) (f c' : Addr), Room k (A.deeper (lamEnv X scope s.heap.objs.size f c')) → PE (lamCxC X A outer s H E scope f c') body (t E))
    (hdb : (x == ("__debug__" : Str)) = false := by decide) (hd : (a == ("__debug__" : Str)) = false := by decide) (hcd : (a == ("__classdict__" : Str)) = false := by decide) :
    PE X (.Call (.Name x p) [.Lambda params body scope lpos] [] pos) (tLam T TT t) := by
  refine ⟨fun pins s σ H Q I h => ?_⟩
  obtain ⟨hT, h⟩ := h
  refine wpAny_Call_Name_kw (ld_glob I hg hm ?_ hdb)
  refine PySem.W.callWith_K (h₀ := X.base) I.ok.mod.kin hk ?_ (by rfl) (by rfl)
  show wpAny _ _ (spliced ((false, eval (.Lambda params body scope lpos) X.env) :: backTo pos (starEach [] X.env))) _ _ s
  refine Calls.spliced_cons (lam_make2 I TB hcode hmT hu hT hdef (L.has I.ok) fun f c' pm' ctv H1 s' I1 eN T1 hf hfn hfr hco => ?_)
  refine Calls.spliced_nil ⟨I1.kIn, ?_⟩
  have rc : codeAny (model X.prog X.w) X.A (.call (.ref g) ⟨[.ref f], []⟩) (CR C8.CX0 X.stack X.prog X.w H1 s' Q C8.E0) s' := by
    refine run_ofS (N := Ng) (ps := [a]) (us := [.ref f]) (vs := [.ref f]) lk hcg Sg hr I1.env0 (hb s' [.ref f] I1.kIn rfl) (.cons rfl .nil) rfl fun hr' => ?_
    obtain ⟨t', ht', hq'⟩ := hG f c' s' H1 Q (fun E H' Q' => t E σ H' Q') (fun W pn xe E p1 p2 tk hW => pe_actC (i := 0) I1 L hf hfn hfr (hbind _ _ _ _ _) tk hW hr' (fun A outer s H hr2 => hbody A outer s H E f c' hr2) hNg hva hd hcd) hco (h H1 eN T1)
    exact ⟨t', ht'.nox, hq'⟩
  refine wpAny_call (codeAny_mono rc fun r s2 hq => ?_)
  cases r with
  | error e => exact (show False from hq).elim
  | ok fl =>
    cases fl with
    | ret u => exact I1.after hq
    | next => exact False.elim hq
    | brk => exact False.elim hq
    | cont => exact False.elim hq
end
section
variable {P : Program} {w : World} {K : PySem.W.Frag} {mg : Str → Option Value} {base : Heap}
/-- the def x is handed a lambda without parameters, and calls it -/
structure AsksC (P : Program) (w : World) (K : PySem.W.Frag) (mg : Str → Option Value) (base : Heap) (x a : Str) (N : List Str) (st : Stmt) (k : Nat) (TT : (XK → Hp → VK → Prop) → Hp → VK → Prop) : Prop where
  ex : ∃ (g : Addr) (fd : FuncData), Fun K x x st g fd ∧ mg x = some (.ref g) ∧ Binds K fd [a] []
  sc : FnScope N [a] (defScope st)
  n0 : N[0]? = some a
  va : Vis (defScope st) a
  gives : ∀ X : Cx, X.prog = P → X.w = w → X.K = K → X.mg = mg → X.base = base → Room k X.A → ∀ (g : Addr) (cdg : Value) (q : Str), GivesC X N x (defScope st) g cdg (defBody st) a q TT
end
theorem pe_asksC {X : Cx} {x a : Str} {N : List Str} {st : Stmt} {k j : Nat} {TT : (XK → Hp → VK → Prop) → Hp → VK → Prop} {T : List (Addr × Str)} {c P : Addr} {params : Arguments} {body : Expr} {scope : Scope} {t : XK → TE} {p lpos pos : Pos}
    (A : AsksC X.prog X.w X.K X.mg X.base x a N st k TT) (hg : Gl X x) (TB : TabB X.base X.mg c P) (hcode : X.env.code = .ref c) {ql : Str} (hql : X.env.qual = ql) (hmT : (P, ql ++ "<lambda>") ∈ T) (hu : ∀ p ∈ T, p.1 = P → p.2 = ql ++ "<lambda>") (hr1 : Room k X.A) (hr : Room (j + 2) X.A) (L : lamSB X.env.scope scope = true) (hdef : defaultsOf params X.env = ([], []))
    (hbind : ∀ (q : Str) (cl : List (Str × Addr)) (pm cv ctv : Value), bindArgs (PySem.W.kla_fn "<lambda>" q params body scope cl pm cv ctv) ⟨[], []⟩ = pure [])
    (hbody : ∀ (A : Around) (outer : List Env) (s : Shared) (H : Hp) (E : XK) (f c' : Addr), Room j (A.deeper (lamEnv X scope s.heap.objs.size f c')) → PE (lamCxC X A outer s H E scope f c') body (t E))
    (hdb : (x == ("__debug__" : Str)) = false := by decide) (hd : (a == ("__debug__" : Str)) = false := by decide) (hcd : (a == ("__classdict__" : Str)) = false := by decide) :
    PE X (.Call (.Name x p) [.Lambda params body scope lpos] [] pos) (tLam T TT t) := by
  subst hql
  obtain ⟨g, fd, F, hm, hb⟩ := A.ex
  have kp := F.kp
  obtain ⟨oc, od, kV, doc, pm, an, cdv, ct, osl, rfl, lk, hcd'⟩ := F.ex
  exact pe_lamcallC hg hm kp lk hcd' hb A.sc A.n0 A.va (A.gives X rfl rfl rfl rfl rfl hr1 g cdv _) TB hcode hmT hu hr (lamS_by L) hdef hbind hbody hdb hd hcd
theorem takesLamC {X : Cx} {A : Around} {outer : List Env} {s : Shared} {H : Hp} {E : XK} {scope : Scope} {f c' : Addr} : TakesC (lamCxC X A outer s H E scope f c') (fun cls d _ H => E cls d H) := takesC_of rfl rfl rfl rfl
end Bw

/-! defs that raise, their exceptions with chains that end -/
namespace Bw
open PySem PySem.Spec PyProof.Rows L2
/-! ### defs that may raise, as their callers want them -/
structure FnY (P : Program) (w : World) (K : PySem.W.Frag) (mg : Str → Option Value) (base : Heap) (x : Str) (k : Nat) (ps : List Str) (sp : Sp) : Prop where
  ex : ∃ (f : Addr) (fd : FuncData), FnOk P w K mg base (CXc P w) k f fd ps sp ∧ mg x = some (.ref f) ∧ PySem.W.keepIn K (.ref f) = true ∧ Binds K fd ps []
structure MeY (P : Program) (w : World) (K : PySem.W.Frag) (mg : Str → Option Value) (base : Heap) (C : Addr) (m : Str) (k : Nat) (ps : List Str) (sp : Sp) : Prop where
  ex : ∃ (f : Addr) (fd : FuncData), FnOk P w K mg base (CXc P w) k f fd ps sp ∧ Meth K C m f ∧ Binds K fd ps []
structure MkrY (P : Program) (w : World) (K : PySem.W.Frag) (mg : Str → Option Value) (base : Heap) (x : Str) (C : Addr) (k : Nat) (ps : List Str) (dvs : List V) (sp : Sp) : Prop where
  ex : ∃ (f : Addr) (fd : FuncData) (ds : List Value), Mk K C f ∧ FnOk P w K mg base (CXc P w) k f fd ps sp ∧ mg x = some (.ref C) ∧ Binds K fd ps ds ∧ Vals dvs ds
section
variable {X : Cx}
/-- what a callee lets out is let out -/
abbrev LetsC (X : Cx) (E : XK) : Prop := Passes (CXc X.prog X.w) X E
theorem pe_fy {E : XK} {x : Str} {k : Nat} {ps : List Str} {sp : Sp} {e : Expr} {es : List Expr} {t : TA} {p pos : Pos} (F : FnY X.prog X.w X.K X.mg X.base x k ps sp) (hx : LetsC X E) (hr : Room k X.A) (hg : Gl X x) (ha : PA X (e :: es) t)
    (hdb : (x == ("__debug__" : Str)) = false := by decide) (he : starEach (e :: es) X.env = (false, eval e X.env) :: starEach es X.env := by rfl) (hpl : (backTo pos (starEach es X.env)).any (·.1) = false := by rfl) :
    PE X (.Call (.Name x p) (e :: es) [] pos) (tCall sp [] E t) := by
  obtain ⟨f, fd, G, hm, hk, hb⟩ := F.ex
  exact pe_call G hr hg hm hk hb .nil hx ha hdb he hpl
theorem pe_mey {E : XK} {pl : Sem Bool} {C : Addr} {m : Str} {k : Nat} {ps : List Str} {sp : Sp} {o e : Expr} {es : List Expr} {t : TA} {ta : TE} {apos pos : Pos} (he : PE X o ta) (c : Cls X.K C) (M : MeY X.prog X.w X.K X.mg X.base C m k ps sp) (hx : LetsC X E) (hr : Room k X.A) (ha : PA X (e :: es) t)
    (hst : starEach (e :: es) X.env = (false, eval e X.env) :: starEach es X.env := by rfl) (hpl : (backTo pos (starEach es X.env)).any (·.1) = false := by rfl)
    (ht : eval (.Call (.Attribute o m apos) (e :: es) [] pos) X.env = (do
      let ov ← eval o X.env
      standAt apos.atName
      let (f, first) ← holding [ov] (getMethod ov m pl)
      callWith pos f first (backTo pos (starEach (e :: es) X.env)) (backToKw pos (keywordEach [] X.env))) := by rfl) :
    PE X (.Call (.Attribute o m apos) (e :: es) [] pos) (tMeth C m sp [] E ta t) := by
  obtain ⟨f, fd, G, hm, hb⟩ := M.ex
  exact pe_meth he c hm G hr hb .nil hx ha hst hpl ht
theorem pe_mey0 {E : XK} {pl : Sem Bool} {C : Addr} {m : Str} {k : Nat} {ps : List Str} {sp : Sp} {o : Expr} {ta : TE} {apos pos : Pos} (he : PE X o ta) (c : Cls X.K C) (M : MeY X.prog X.w X.K X.mg X.base C m k ps sp) (hx : LetsC X E) (hr : Room k X.A)
    (ht : eval (.Call (.Attribute o m apos) [] [] pos) X.env = (do
      let ov ← eval o X.env
      standAt apos.atName
      let (f, first) ← holding [ov] (getMethod ov m pl)
      callWith pos f first (backTo pos (starEach [] X.env)) (backToKw pos (keywordEach [] X.env))) := by rfl) :
    PE X (.Call (.Attribute o m apos) [] [] pos) (tMeth C m sp [] E ta tNil) := by
  obtain ⟨f, fd, G, hm, hb⟩ := M.ex
  exact pe_meth0 he c hm G hr hb .nil hx ht
theorem pe_mky {E : XK} {x : Str} {C : Addr} {k : Nat} {ps : List Str} {dvs : List V} {sp : Sp} {e : Expr} {es : List Expr} {t : TA} {p pos : Pos} (M : MkrY X.prog X.w X.K X.mg X.base x C k ps dvs sp) (hx : LetsC X E) (hr : Room (k + 1) X.A) (hg : Gl X x) (ha : PA X (e :: es) t)
    (hdb : (x == ("__debug__" : Str)) = false := by decide) (he : starEach (e :: es) X.env = (false, eval e X.env) :: starEach es X.env := by rfl) (hpl : (backTo pos (starEach es X.env)).any (·.1) = false := by rfl) :
    PE X (.Call (.Name x p) (e :: es) [] pos) (tMake C sp dvs E t) := by
  obtain ⟨f, fd, ds, M, G, hm, hb, hd⟩ := M.ex
  exact pe_make M G hr hg hm hb hd hx ha hdb he hpl
theorem lets_ofC {E : XK} (tk : TakesC X (fun cls d _ H => E cls d H)) : LetsC X E := passesC_call tk fun _ _ _ _ h => h
theorem u1H {k : Nat} {A : Around} (r : L2H.RoomH k A) : A.units + 1 < cLine := by have := r.un; omega
theorem letsC0 : LetsC X E0 := fun _ _ _ _ _ _ _ h => by obtain ⟨_, _, _, _, _, _, _, _, _, _, _, _, z⟩ := h; exact z.elim
end
/-- a def's own wish -/
theorem takesY {P : Program} {w : World} {K : PySem.W.Frag} {mg : Str → Option Value} {base : Heap} {N : List Str} {qual : Str} {scope : Scope} {f : Addr} {cdv : Value} {A : Around} {outer : List Env} {s : Shared} {H : Hp} {E : XK} :
    TakesC (cxOf (CXc P w) P w K mg base N qual scope f cdv A outer s H E) (fun cls d _ H => E cls d H) := takesC_of rfl rfl rfl rfl
theorem Fun_okY {P : Program} {w : World} {K : PySem.W.Frag} {mg : Str → Option Value} {base : Heap} {x qual : Str} {st : Stmt} {f : Addr} {fd : FuncData} {N ps : List Str} {k : Nat} {sp : Sp} (F : Fun K x qual st f fd) (S : FnScope N ps (defScope st)) (len : ∀ vs H Q E, sp vs H Q E → vs.length = ps.length)
    (hbody : ∀ (cdv : Value) (A : Around) (outer : List Env) (s : Shared) (H : Hp) (vs : List V) (Q : VK) (E : XK), Room k (A.deeper (envOfC qual (defScope st) s.heap.objs.size f cdv)) → sp vs H Q E →
      ∃ t, PSs (cxOf (CXc P w) P w K mg base N qual (defScope st) f cdv A outer s H E) (defBody st) t ∧ t { nx := fun _ H' => Q .non H', rt := Q } (L2.start N vs) H) : FnOk P w K mg base (CXc P w) (k + 1) f fd ps sp := by
  obtain ⟨oc, od, kV, doc, pm, an, cdv, ct, osl, rfl, lk, hcd⟩ := F.ex
  exact fn_of lk hcd S len fun A outer s H vs Q E hr hsp => hbody cdv A outer s H vs Q E hr hsp
section
variable {X : Cx}
theorem pmk_own0N {C : Addr} {bmB : List Value} {B newId initId : String} {x : Str} {p pos : Pos} (F : ExcBaseFacts B newId initId bmB) (q : PySem.W.excIn X.K C bmB newId = true) (gC : X.mg x = some (.ref C))
    (kC : PySem.W.keepIn X.K (.ref C) = true) (r : Raises X (.ref C)) (hg : Gl X x) (hdb : (x == ("__debug__" : Str)) = false := by decide) : L2N.PMk X (.Call (.Name x p) [] [] pos) (fun _ H Q => Q (.ref C) none H) := by
  intro pins s σ H Q I h
  refine wpAny_Call_Name_kw (ld_glob I hg gC ?_ hdb)
  refine PySem.W.callWith_K0 I.kIn kC ?_
  show wpAny _ _ (call (.ref C) []) _ _ _
  obtain ⟨bm, N, nm, qn, bs, hdct, sn, sub, ab, col, dd, k0, k1, k2, k3, k5, mN, hC, hN, hni, T⟩ := exc_obj I.kIn q
  refine wpAny_call_exc_subT F T hC hN hni (fun h' e hm => ?_) (by show 0 ≤ sizeLine; exact Nat.zero_le _)
  exact L2N.mk_of I hm r h (I.hok.gone hm.new)
theorem pmk_ownVN {C : Addr} {x : Str} {p pos : Pos} (h : XpV X.K C) (gC : X.mg x = some (.ref C)) (hg : Gl X x) (hdb : (x == ("__debug__" : Str)) = false := by decide) : L2N.PMk X (.Call (.Name x p) [] [] pos) (fun _ H Q => Q (.ref C) none H) :=
  pmk_own0N F.excBase_ValueError h.q gC h.kp (raises_own h.h1 h.h2) hg hdb
end
section
variable {X : Cx} {o e : Expr} {es : List Expr} {to te : TE} {ta : TA} {f : Str} {p p' p1 p2 pos : Pos}
theorem mk_endN {pins : List (Addr × Obj)} {σ : L2.St} {H1 H2 : Hp} {Q : XK} {hp hp2 h2 : Heap} {g1 g2 : Array GenState} {d1 d2 : Drawn} {t1 t2 : Nat} {os1 os2 : OsState} {a C d : Addr} {fs : List (Str × V)} (T : Raises X (.ref C)) (I1 : Inv X pins σ H1 ⟨hp, g1, d1, t1, os1⟩)
    (ha : hp.objs.size ≤ a) (k : ∀ b o, hp.get? b = some o → hp2.get? b = some o) (un : Un (frs X.stack) [] (upd H1 a (exo a C none)) H2 hp2 h2) (hok : HOk X.prog X.w H2 h2) (ho : os2 = os1) (hb : AllBare g2)
    (ea : H2 a = some (exo a C (some d))) (ed : H2 d = some (exd d fs)) (hd1 : H1 d = none) (q : Q (.ref C) (some d) (upd (del H2 a) d (.xd fs)))   : L2N.MkP X pins σ Q (.ref a) ⟨h2, g2, d2, t2, os2⟩ := by
  obtain ⟨t0, G, J, kG, ge, hoe, na⟩ := mk_end0 (d2 := d2) (t2 := t2) I1 ha k un hok ho hb ea ed hd1
  exact ⟨a, _, _, ⟨G, g2, d2, t2, os2⟩, _, .ref C, some d, rfl, J, kG, ge, hoe, ⟨rfl, rfl, fun vs e => by cases e; rfl⟩, rfl, rfl, na, rfl, hb, T, q⟩
theorem pmk_oexN {CX : CXT} {x : Str} {C fI : Addr} {k : Nat} {fd : FuncData} {ps : List Str} {sp : Sp} {ds : List Value} {dvs : List V} (T : OexC X.K C) (iC : PySem.W.findIn X.K (.ref C) "__init__" = some (some (.ref fI))) (tI : PySem.W.typeIn X.K (.ref fI) = some (.type "function"))
    (F1 : FnOk X.prog X.w X.K X.mg X.base CX k fI fd ps sp) (hr : Room (k + 1) X.A) (hb : Binds X.K fd ps ds) (hd : Vals dvs ds) (hx : Passes CX X (fun _ _ _ => False)) (hg : Gl X x) (hm : X.mg x = some (.ref C)) (ha : PA X (e :: es) ta)
    (hdb : (x == ("__debug__" : Str)) = false := by decide) (he : starEach (e :: es) X.env = (false, eval e X.env) :: starEach es X.env := by rfl) (hpl : (backTo pos (starEach es X.env)).any (·.1) = false := by rfl) :
    L2N.PMk X (.Call (.Name x p) (e :: es) [] pos) (tMkO C sp dvs ta) := by
  intro pins s σ H Q I h
  obtain ⟨nm, q, N, bs, bm, sn, sub, ab, col, dd, k0, k1, k2, k3, k5, hC, hbm⟩ := T.cls
  refine wpAny_Call_Name_kw (ld_glob I hg hm ?_ hdb)
  refine PySem.W.callWith_K (h₀ := X.base) I.ok.mod.kin T.kC (thn (ha.run pos pins s σ H _ I h) fun us s1 ⟨vs, H1, I1, r1, hz, q1⟩ => ⟨I1.kIn, ?_⟩) he hpl
  show wpAny _ _ (call (.ref C) us) _ _ _
  obtain ⟨hp, g, dr, tk, os⟩ := s1
  have hsz : hp.objs.size ≤ hp.objs.size + 1 := Nat.le_succ _
  have hn : H1 (hp.objs.size + 1) = none := I1.hok.fresh hsz
  have hq := q1 (hp.objs.size + 1) hn
  have kk : ∀ b o, hp.get? b = some o → ((hp.push (PySem.W.kdv_tup us)).push (PySem.HandSPX.excO C hp.objs.size)).get? b = some o := fun b o e => Heap.get?_push_of_some _ (Heap.get?_push_of_some _ e)
  have hget : ((hp.push (PySem.W.kdv_tup us)).push (PySem.HandSPX.excO C hp.objs.size)).get? (hp.objs.size + 1) = some (PySem.HandSPX.excO C hp.objs.size) := by heap_get
  have I2 : Inv X pins σ (upd H1 (hp.objs.size + 1) (exo (hp.objs.size + 1) C none)) ⟨(hp.push (PySem.W.kdv_tup us)).push (PySem.HandSPX.excO C hp.objs.size), g, dr, tk, os⟩ :=
    I1.laid (t' := tk) (a := hp.objs.size + 1) (o := exo (hp.objs.size + 1) C none) (h' := (hp.push (PySem.W.kdv_tup us)).push (PySem.HandSPX.excO C hp.objs.size)) kk hsz (exo_ok hget)
  have r2 : Vals (V.ref (hp.objs.size + 1) :: (vs ++ dvs)) (Value.ref (hp.objs.size + 1) :: (us ++ ds)) := .cons rfl (r1.append hd)
  have hl : (Value.ref (hp.objs.size + 1) :: us ++ ds).length = ps.length := by
    have e := r2.length
    rw [F1.len _ _ _ _ hq] at e
    exact e.symm
  have hus : us.length ≤ sizeLine := by
    rw [← Paired.length r1, sizeLine_eq]
    omega
  refine wpAny_call (PySem.HandSPX.call_own F.excBase_ValueError (fun Y => PySem.HandSPX.refsVE_contains Y bm hbm) (I1.kIn _ _ hC) (PySem.W.looks_findIn I1.kIn iC) (fun self => PySem.W.bind_fn I1.kIn self tI) hus
    (codeAny_mono (F1.run _ X.stack _ _ ⟨Value.ref (hp.objs.size + 1) :: us, []⟩ (Value.ref (hp.objs.size + 1) :: (us ++ ds)) _ _ (fun _ _ _ => False) (hr.make C us []) (I2.env0.make C us []) (hb _ (Value.ref (hp.objs.size + 1) :: us) I2.kIn hl) r2 hq) fun r s' hq' => ?_))
  cases r with
  | error er => exact hx pins σ _ _ er s' I2 hq'
  | ok fl =>
    cases fl with
    | ret u =>
      obtain ⟨v, H2, os2, bare2, un2, hok2, rv, ev, d, fs, ea, ed, hd1, q2⟩ := hq'
      subst ev
      obtain ⟨h2, g2, d2, t2, os'⟩ := s'
      exact ⟨rv, mk_endN (raises_own T.exC T.tyC) I1 hsz kk un2 hok2 os2 bare2 ea ed hd1 q2⟩
    | next => exact False.elim hq'
    | brk => exact False.elim hq'
    | cont => exact False.elim hq'
end
section
variable {X : Cx}
theorem pmk_oex0N {CX : CXT} {x : Str} {C fI : Addr} {k : Nat} {fd : FuncData} {ps : List Str} {sp : Sp} {ds : List Value} {dvs : List V} {p pos : Pos} (T : OexC X.K C) (iC : PySem.W.findIn X.K (.ref C) "__init__" = some (some (.ref fI))) (tI : PySem.W.typeIn X.K (.ref fI) = some (.type "function"))
    (F1 : FnOk X.prog X.w X.K X.mg X.base CX k fI fd ps sp) (hr : Room (k + 1) X.A) (hb : Binds X.K fd ps ds) (hd : Vals dvs ds) (hx : Passes CX X (fun _ _ _ => False)) (hg : Gl X x) (hm : X.mg x = some (.ref C))
    (hdb : (x == ("__debug__" : Str)) = false := by decide) :
    L2N.PMk X (.Call (.Name x p) [] [] pos) (tMkO C sp dvs tNil) := by
  intro pins s σ H Q I h
  obtain ⟨nm, q, N, bs, bm, sn, sub, ab, col, dd, k0, k1, k2, k3, k5, hC, hbm⟩ := T.cls
  refine wpAny_Call_Name_kw (ld_glob I hg hm ?_ hdb)
  obtain ⟨hz, q1⟩ := h
  refine PySem.W.callWith_K0 I.kIn T.kC ?_
  show wpAny _ _ (call (.ref C) []) _ _ _
  obtain ⟨hp, g, dr, tk, os⟩ := s
  have hsz : hp.objs.size ≤ hp.objs.size + 1 := Nat.le_succ _
  have hn : H (hp.objs.size + 1) = none := I.hok.fresh hsz
  have hq := q1 (hp.objs.size + 1) hn
  have kk : ∀ b o, hp.get? b = some o → ((hp.push (PySem.W.kdv_tup [])).push (PySem.HandSPX.excO C hp.objs.size)).get? b = some o := fun b o e => Heap.get?_push_of_some _ (Heap.get?_push_of_some _ e)
  have hget : ((hp.push (PySem.W.kdv_tup [])).push (PySem.HandSPX.excO C hp.objs.size)).get? (hp.objs.size + 1) = some (PySem.HandSPX.excO C hp.objs.size) := by heap_get
  have I2 : Inv X pins σ (upd H (hp.objs.size + 1) (exo (hp.objs.size + 1) C none)) ⟨(hp.push (PySem.W.kdv_tup [])).push (PySem.HandSPX.excO C hp.objs.size), g, dr, tk, os⟩ :=
    I.laid (t' := tk) (a := hp.objs.size + 1) (o := exo (hp.objs.size + 1) C none) (h' := (hp.push (PySem.W.kdv_tup [])).push (PySem.HandSPX.excO C hp.objs.size)) kk hsz (exo_ok hget)
  have r2 : Vals (V.ref (hp.objs.size + 1) :: ([] ++ dvs)) (Value.ref (hp.objs.size + 1) :: ([] ++ ds)) := .cons rfl (Vals.append .nil hd)
  have hl : (Value.ref (hp.objs.size + 1) :: [] ++ ds).length = ps.length := by
    have e := r2.length
    rw [F1.len _ _ _ _ hq] at e
    exact e.symm
  refine wpAny_call (PySem.HandSPX.call_own F.excBase_ValueError (fun Y => PySem.HandSPX.refsVE_contains Y bm hbm) (I.kIn _ _ hC) (PySem.W.looks_findIn I.kIn iC) (fun self => PySem.W.bind_fn I.kIn self tI) (Nat.zero_le _)
    (codeAny_mono (F1.run _ X.stack _ _ ⟨Value.ref (hp.objs.size + 1) :: [], []⟩ (Value.ref (hp.objs.size + 1) :: ([] ++ ds)) _ _ (fun _ _ _ => False) (hr.make C [] []) (I2.env0.make C [] []) (show BindsTo _ _ _ (ps.zip (Value.ref (hp.objs.size + 1) :: ([] ++ ds))) from hb _ (Value.ref (hp.objs.size + 1) :: []) I2.kIn hl) r2 hq) fun r s' hq' => ?_))
  cases r with
  | error er => exact hx pins σ _ _ er s' I2 hq'
  | ok fl =>
    cases fl with
    | ret u =>
      obtain ⟨v, H2, os2, bare2, un2, hok2, rv, ev, d, fs, ea, ed, hd1, q2⟩ := hq'
      subst ev
      obtain ⟨h2, g2, d2, t2, os'⟩ := s'
      exact ⟨rv, mk_endN (raises_own T.exC T.tyC) I hsz kk un2 hok2 os2 bare2 ea ed hd1 q2⟩
    | next => exact False.elim hq'
    | brk => exact False.elim hq'
    | cont => exact False.elim hq'
theorem pmk_xN {x f : Str} {C : Addr} {k : Nat} {dvs : List V} {e : Expr} {es : List Expr} {ta : TA} {p pos : Pos} (Z : Xcl X.prog X.w X.K X.mg X.base x C k f dvs) (hr : Room (k + 1) X.A) (hg : Gl X x) (ha : PA X (e :: es) ta) (mono : ∀ σ H (Q Q' : List V → Hp → Prop), (∀ vs H, Q vs H → Q' vs H) → ta σ H Q → ta σ H Q')
    (hdb : (x == ("__debug__" : Str)) = false := by decide) (he : starEach (e :: es) X.env = (false, eval e X.env) :: starEach es X.env := by rfl) (hpl : (backTo pos (starEach es X.env)).any (·.1) = false := by rfl) :
    L2N.PMk X (.Call (.Name x p) (e :: es) [] pos) (tXmk C f dvs ta) := by
  obtain ⟨fI, fd, ds, ps, iC, tI, F, hb, hd⟩ := Z.ex
  have M := pmk_oexN (p := p) (pos := pos) Z.T iC tI F hr hb hd pass0 hg Z.hm ha hdb he hpl
  intro pins s σ H Q I h
  refine M pins s σ H Q I (mono _ _ _ _ (fun vs H1 ⟨v, ev, q⟩ => ⟨?_, fun a na => ?_⟩) h)
  · have := congrArg List.length ev
    simp only [List.length_append, List.length_cons, List.length_nil] at this
    omega
  · rw [ev]
    exact xi_end Z.T Z.no q a na
theorem pmk_x0N {x f : Str} {C : Addr} {k : Nat} {dvs : List V} {p pos : Pos} (Z : Xcl X.prog X.w X.K X.mg X.base x C k f dvs) (hr : Room (k + 1) X.A) (hg : Gl X x) (hdb : (x == ("__debug__" : Str)) = false := by decide) :
    L2N.PMk X (.Call (.Name x p) [] [] pos) (tXmk C f dvs tNil) := by
  obtain ⟨fI, fd, ds, ps, iC, tI, F, hb, hd⟩ := Z.ex
  have M := pmk_oex0N (p := p) (pos := pos) Z.T iC tI F hr hb hd pass0 hg Z.hm hdb
  intro pins s σ H Q I h
  obtain ⟨v, ev, q⟩ := h
  refine M pins s σ H Q I ⟨Nat.zero_le _, fun a na => ?_⟩
  rw [ev]
  exact xi_end Z.T Z.no q a na
end
end Bw

/-! try with except clauses over any body: what the body's calls are refused with is told once -/
namespace Bw
open PySem PySem.Spec PyProof.Rows L2 L2H HotX
theorem takes_lenC {X : Cx} {W : WX} (tk : TakesC X W) : TakesC X (fun cls d σ H => σ.length = X.N.length → W cls d σ H) := fun u s' x => by
  obtain ⟨a, B, sI, pins, σ, H, cls, d, e, I, nb, up, sky, na, os, ag, w⟩ := x
  exact tk u s' ⟨a, B, sI, pins, σ, H, cls, d, e, I, nb, up, sky, na, os, ag, w I.len⟩
theorem takesC0 {X : Cx} : TakesC X (fun _ _ _ _ => False) := fun _ _ ⟨_, _, _, _, _, _, _, _, _, _, _, _, _, _, _, _, w⟩ => w.elim
section
variable {X : Cx} {body : List Stmt} {h₀ : ExceptHandler} {hds : List ExceptHandler} {l : List (List Value × Nat × (Addr → Value → Option Addr → TS))} {pos : Pos} {tb : XK → TS} {Wout : WX}
/-- the reading of a try -/
def tTryE (K : PySem.W.Frag) (n : Nat) (Wout : WX) (l : List (List Value × Nat × (Addr → Value → Option Addr → TS))) (tb : XK → TS) : TS := fun D σ H => ∃ Ech : XK, (∀ cls d (σ' : L2.St) H', σ'.length = n → Ech cls d H' → wMas K Wout D l cls d σ' H') ∧ tb Ech D σ H
theorem ps_try_E (hs : X.stack = X.env :: X.outer) (hf : X.env.frame = some X.env.locals) (hN : X.N.Nodup) (tk : TakesC X Wout) (hsz : ∀ x ∈ l, x.1.length ≤ 1000)
    (hb : ∀ (E : XK) (pn : List (Addr × Obj)) (xe : Value → Shared → Prop), LetsC (X.tr pn xe) E → PassesOwn (model X.prog X.w) X.A X.env xe → PSs (X.tr pn xe) body (tb E))
    (hh : HdsC X (h₀ :: hds) l) : PS X (.Try body (h₀ :: hds) [] [] pos) (tTryE X.K X.N.length Wout l tb) := by
  refine ⟨fun pins s σ H D I h => ?_⟩
  refine (ps_try_mac (pos := pos) (tb := fun W D σ H => ∃ Ech : XK, (∀ cls d (σ' : L2.St) H', σ'.length = X.N.length → Ech cls d H' → W cls d σ' H') ∧ tb Ech D σ H) hs hf hN tk hsz (fun W pn xe tk' po => ⟨fun pins s σ H D I h => ?_⟩) hh).run pins s σ H D I h
  obtain ⟨Ech, hW, h3⟩ := h
  exact (hb Ech pn xe (lets_ofC ((takes_lenC tk').imp fun c d σ H e hl => hW c d σ H hl e)) po).run pins s σ H D I h3
end
end Bw

/-! the kinds of errors in the later laws (k55 on) -/
namespace Bw
open PySem PySem.Spec PyProof.Rows L2
def kind2Names : List Str := ["Broken", "Full", "Gone", "NoDeed", "NoFile", "NoName", "NoNumber", "NoPages", "NoQuery", "NoShelf", "NoSize", "NoSlot", "NoText", "Taken", "Torn"]
/-- the signs of the bases -/
def dueOf (i : Nat) : Str := if i = 0 then "R" else if i = 1 then "O" else if i = 2 then "KL" else if i = 4 then "L" else if i = 11 then "L" else if i = 14 then "R" else "WV"
def basS (c : Nat) (i : Nat) : Bool := decide (c ∈ (dueOf i).cps.toList)
def six (W : Addr) : List (Nat × Value) := [(87, .ref W), (82, .type "RuntimeError"), (79, .type "OverflowError"), (75, .type "KeyError"), (76, .type "LookupError"), (86, .type "ValueError")]
def kind2B (K : PySem.W.Frag) (Cs : List Addr) (W D : Addr) (i : Nat) : Bool :=
  excB K D && ((Cs.zipIdx.all fun x => decide (PySem.W.kitOne K (.ref D) (.ref x.1) = some (decide (x.2 = i)))) && ((six W).all fun p => decide (PySem.W.kitOne K (.ref D) p.2 = some (basS p.1 i))))
structure Kind2 (K : PySem.W.Frag) (Cs : List Addr) (W D : Addr) (i : Nat) : Prop where
  ex : ExcC K D
  is : ∀ (j : Nat) (C : Addr), Cs[j]? = some C → PySem.W.kitOne K (.ref D) (.ref C) = some (decide (j = i))
  w : PySem.W.kitOne K (.ref D) (.ref W) = some (basS 87 i)
  r : PySem.W.kitOne K (.ref D) (.type "RuntimeError") = some (basS 82 i)
  o : PySem.W.kitOne K (.ref D) (.type "OverflowError") = some (basS 79 i)
  k : PySem.W.kitOne K (.ref D) (.type "KeyError") = some (basS 75 i)
  l : PySem.W.kitOne K (.ref D) (.type "LookupError") = some (basS 76 i)
  v : PySem.W.kitOne K (.ref D) (.type "ValueError") = some (basS 86 i)
theorem kind2B_ok {K : PySem.W.Frag} {Cs : List Addr} {W D : Addr} {i : Nat} (h : kind2B K Cs W D i = true) : Kind2 K Cs W D i := by
  unfold kind2B six at h
  simp only [Bool.and_eq_true, decide_eq_true_eq, List.all_eq_true] at h
  obtain ⟨h1, h2, h3⟩ := h
  refine ⟨excB_ok h1, fun j C e => ?_, h3 (87, .ref W) (by simp), h3 (82, .type "RuntimeError") (by simp), h3 (79, .type "OverflowError") (by simp), h3 (75, .type "KeyError") (by simp), h3 (76, .type "LookupError") (by simp), h3 (86, .type "ValueError") (by simp)⟩
  exact h2 (C, j) (by
    rw [List.mem_iff_getElem?]
    exact ⟨j, by simp [List.getElem?_zipIdx, e]⟩)
def spKind2 (K : PySem.W.Frag) (Cs : List Addr) (W : Addr) : SpP := fun p vs H Q => ∃ (D : Addr) (d : Option Addr) (i : Nat) (nm : Str), vs = [.ref p.1] ∧ Zc (.ref D) d p.2 ∧ (∃ vs, p.2.data = .fields vs) ∧ Kind2 K Cs W D i ∧ XdOk d H ∧ kind2Names[i]? = some nm ∧ ∀ H', Same H H' → Q (.str ("!" ++ nm)) H'
theorem kind2_lt {i : Nat} {nm : Str} (h : kind2Names[i]? = some nm) : i < 15 := (List.getElem?_eq_some_iff.mp h).1
theorem cnt15 {i : Nat} (h : i < 15) : ((([decide (0 = i), decide (1 = i), decide (2 = i), decide (3 = i), decide (4 = i), decide (5 = i), decide (6 = i), decide (7 = i), decide (8 = i), decide (9 = i), decide (10 = i), decide (11 = i), decide (12 = i), decide (13 = i), decide (14 = i)] : List Bool).count true : Nat) : Int) = 1 := by
  have : ∀ i, i < 15 → ((([decide (0 = i), decide (1 = i), decide (2 = i), decide (3 = i), decide (4 = i), decide (5 = i), decide (6 = i), decide (7 = i), decide (8 = i), decide (9 = i), decide (10 = i), decide (11 = i), decide (12 = i), decide (13 = i), decide (14 = i)] : List Bool).count true : Nat) : Int) = 1 := by decide
  exact this i h
theorem idx15 {i : Nat} (h : i < 15) : ([decide (0 = i), decide (1 = i), decide (2 = i), decide (3 = i), decide (4 = i), decide (5 = i), decide (6 = i), decide (7 = i), decide (8 = i), decide (9 = i), decide (10 = i), decide (11 = i), decide (12 = i), decide (13 = i), decide (14 = i)] : List Bool)[i]? = some true := by
  have : ∀ i, i < 15 → ([decide (0 = i), decide (1 = i), decide (2 = i), decide (3 = i), decide (4 = i), decide (5 = i), decide (6 = i), decide (7 = i), decide (8 = i), decide (9 = i), decide (10 = i), decide (11 = i), decide (12 = i), decide (13 = i), decide (14 = i)] : List Bool)[i]? = some true := by decide
  exact this i h
theorem bef15 {i : Nat} (h : i < 15) (m : Nat) (hm : m < i) : ([decide (0 = i), decide (1 = i), decide (2 = i), decide (3 = i), decide (4 = i), decide (5 = i), decide (6 = i), decide (7 = i), decide (8 = i), decide (9 = i), decide (10 = i), decide (11 = i), decide (12 = i), decide (13 = i), decide (14 = i)] : List Bool)[m]? ≠ some true := by
  have : ∀ i, i < 15 → ∀ m, m < i → ([decide (0 = i), decide (1 = i), decide (2 = i), decide (3 = i), decide (4 = i), decide (5 = i), decide (6 = i), decide (7 = i), decide (8 = i), decide (9 = i), decide (10 = i), decide (11 = i), decide (12 = i), decide (13 = i), decide (14 = i)] : List Bool)[m]? ≠ some true := by decide
  exact this i h m hm
theorem nam15 {i : Nat} {nm : Str} (h : kind2Names[i]? = some nm) : atI (kind2Names.map V.str) (i : Int) = some (.str nm) := atI_nat (by rw [List.getElem?_map, h]; rfl)
/-- the dict of the bases -/
def dueKvs : List (Key × V) := [(.inr "Broken", .str "R"), (.inr "Torn", .str "R"), (.inr "Full", .str "O"), (.inr "Gone", .str "KL"), (.inr "NoFile", .str "L"), (.inr "NoSlot", .str "L")]
theorem due_get {i : Nat} {nm : Str} (h : kind2Names[i]? = some nm) : (valV (mergeK [] dueKvs) (.inr nm)).getD (.str "WV") = .str (dueOf i) := by
  have hi := kind2_lt h
  have e : ∀ i, i < 15 → ∀ nm, kind2Names[i]? = some nm → (valV (mergeK [] dueKvs) (.inr nm)).getD (.str "WV") = .str (dueOf i) := by
    intro i hi
    have hd : i = 0 ∨ i = 1 ∨ i = 2 ∨ i = 3 ∨ i = 4 ∨ i = 5 ∨ i = 6 ∨ i = 7 ∨ i = 8 ∨ i = 9 ∨ i = 10 ∨ i = 11 ∨ i = 12 ∨ i = 13 ∨ i = 14 := by omega
    rcases hd with rfl | rfl | rfl | rfl | rfl | rfl | rfl | rfl | rfl | rfl | rfl | rfl | rfl | rfl | rfl <;> (intro nm e; cases e; decide +kernel)
  exact e i hi nm h
theorem kind2_len {i : Nat} {nm : Str} (h : kind2Names[i]? = some nm) : nm.length ≤ 20 := by
  have hi := kind2_lt h
  have hd : i = 0 ∨ i = 1 ∨ i = 2 ∨ i = 3 ∨ i = 4 ∨ i = 5 ∨ i = 6 ∨ i = 7 ∨ i = 8 ∨ i = 9 ∨ i = 10 ∨ i = 11 ∨ i = 12 ∨ i = 13 ∨ i = 14 := by omega
  rcases hd with rfl | rfl | rfl | rfl | rfl | rfl | rfl | rfl | rfl | rfl | rfl | rfl | rfl | rfl | rfl <;> (cases h; decide +kernel)
end Bw

/-! own exceptions with one field above other built-in errors than ValueError -/
namespace Bw
open PySem PySem.Spec PyProof.Rows L2
/-- own classes, then the base's mro -/
def refsB (tl : List Value) : List Value → Bool
  | .ref _ :: r => refsB tl r
  | l => l == tl
theorem refsB_cases {tl : List Value} : ∀ l : List Value, refsB tl l = true → (∃ c r, l = .ref c :: r ∧ refsB tl r = true) ∨ l = tl
  | [], e => .inr (beq_iff_eq.mp e)
  | .ref c :: r, e => .inl ⟨c, r, rfl, e⟩
  | .none :: _, e => .inr (beq_iff_eq.mp e)
  | .ellipsis :: _, e => .inr (beq_iff_eq.mp e)
  | .notImplemented :: _, e => .inr (beq_iff_eq.mp e)
  | .bool _ :: _, e => .inr (beq_iff_eq.mp e)
  | .int _ _ :: _, e => .inr (beq_iff_eq.mp e)
  | .float _ _ :: _, e => .inr (beq_iff_eq.mp e)
  | .str _ _ :: _, e => .inr (beq_iff_eq.mp e)
  | .bytes _ _ :: _, e => .inr (beq_iff_eq.mp e)
  | .type _ :: _, e => .inr (beq_iff_eq.mp e)
  | .builtin _ :: _, e => .inr (beq_iff_eq.mp e)
/-- what is known of a built-in error that own classes stand on -/
structure BaseB (B nw it : String) (tl : List Value) : Prop where
  F : ExcBaseFacts B nw it tl
  pass : ∀ self : Value, refuseLoop self "__setattr__" tl = pure ()
  ob : tl.contains (.type "object") = true
  ne : tl.isEmpty = false
theorem baseRT : BaseB "RuntimeError" "RuntimeError.__new__" "RuntimeError.__init__" [.type "RuntimeError", .type "Exception", .type "BaseException", .type "object"] := ⟨F.excBase_RuntimeError, fun self => by kernel_rfl, by decide +kernel, rfl⟩
theorem baseLU : BaseB "LookupError" "LookupError.__new__" "LookupError.__init__" [.type "LookupError", .type "Exception", .type "BaseException", .type "object"] := ⟨F.excBase_LookupError, fun self => by kernel_rfl, by decide +kernel, rfl⟩
theorem refsB_pass {tl : List Value} {self : Value} (hp : refuseLoop self "__setattr__" tl = pure ()) : ∀ l : List Value, refsB tl l = true → refuseLoop self "__setattr__" l = pure () := by
  intro l
  induction l with
  | nil =>
    intro e
    rw [show ([] : List Value) = tl from beq_iff_eq.mp e]
    exact hp
  | cons a r ih =>
    intro e
    rcases refsB_cases (a :: r) e with ⟨c, r', q, h⟩ | q
    · obtain ⟨rfl, rfl⟩ := List.cons.inj q
      rw [refuseLoop_ref]; exact ih h
    · rw [q]; exact hp
theorem refsB_contains {tl : List Value} (X : String) : ∀ l : List Value, refsB tl l = true → l.contains (.type X) = tl.contains (.type X) := by
  intro l
  induction l with
  | nil =>
    intro e
    rw [show ([] : List Value) = tl from beq_iff_eq.mp e]
  | cons a r ih =>
    intro e
    rcases refsB_cases (a :: r) e with ⟨c, r', q, h⟩ | q
    · obtain ⟨rfl, rfl⟩ := List.cons.inj q
      rw [List.contains_cons, ih h]; rfl
    · rw [q]
theorem refsB_ne {tl : List Value} (hn : tl.isEmpty = false) {l : List Value} (e : refsB tl l = true) : l.isEmpty = false := by
  cases l with
  | nil =>
    rw [show ([] : List Value) = tl from beq_iff_eq.mp e]
    exact hn
  | cons _ _ => rfl
section
open PySem.HandSPX PySem.Builtin PySem.Builtin.ObjectAttr
variable {prog : Program} {w : World} {A : Around} {E : Value → Shared → Prop} {R : Result → Shared → Prop} {hp : Heap} {g : Array GenState} {d : Drawn} {t : Nat} {os : OsState}
theorem excB_osa {B nw it : String} {tl : List Value} (BB : BaseB B nw it tl) {K : PySem.W.Frag} {name : Str} {tk : Tok} {v : Value} {x C : Addr} {fv : Array Value} {cd : ClassData}
    (X : K.In hp) (hx : hp.get? x = some { cls := .ref C, data := .fields fv }) (hcd : PySem.W.clsIn K C = some cd) (hm : refsB tl cd.mro = true) (hh : cd.hasDict = true) (ha : PySem.W.findIn K (.ref C) name = some none)
    (hq : ∀ h' tk' dx, (∀ b o, b ≠ x → hp.get? b = some o → h'.get? b = some o) → hp.objs.size ≤ dx → dx ≠ x → h'.get? x = some { cls := .ref C, dict := some dx, data := .fields fv } →
      h'.Ns1 dx (fun y => if y = name then some v else none) → R (.ok (.ret .none)) ⟨h', g, d, tk', os⟩) :
    codeAny (model prog w) A (.call (.builtin "object.__setattr__") ⟨[.ref x, .str name tk, v], []⟩) R ⟨hp, g, d, t, os⟩ := by
  have I : PySem.W.InstAt hp x { cls := .ref C, data := .fields fv } C none := ⟨hx, rfl, rfl, trivial⟩
  have SF := F.store_object
  have ne := refsB_ne BB.ne hm
  have hob : cd.mro.contains (.type "object") = true := (refsB_contains "object" _ hm).trans BB.ob
  have hxs : x ≠ hp.objs.size := Nat.ne_of_lt (Heap.lt_size hx)
  have sub : PySem.W.Looks (model prog w) hp (isInstance (.ref x) (.type "object")) true := I.type.andThen (PySem.W.looks_mroIn X (by unfold PySem.W.mroIn; rw [hcd, Option.bind_some, if_neg (by rw [ne]; decide), hob]))
  refine codeAny_call_builtin SF.slot.plain SF.entry (@PySem.W.check_slot (model prog w) _ _ ⟨hp, g, d, t, os⟩ "object.__setattr__" "object" "__setattr__" (.ref x) [.str name tk, v] [] _ SF.kind SF.split sub (SF.args (.ref x) (.str name tk) v) ?_)
  have hmr : PySem.W.Looks (model prog w) hp (mroOf (.ref C)) cd.mro := (PySem.W.looks_clsIn X hcd).andThen .now
  have L3 : PySem.W.Looks (model prog w) hp (storeTaker? none) none := .now
  have hcls : PySem.W.Looks (model prog w) hp (classData C) cd := PySem.W.looks_clsIn X hcd
  rw [PySem.W.osa_eq, refuse_eq]
  refine wpAny_bind (wpAny_bind (I.type.at (wpAny_bind (hmr.at ?_))))
  rw [refsB_pass (BB.pass _) _ hm]
  refine wpAny_pure (wpAny_bind (I.type.at (wpAny_bind ((PySem.W.looks_findIn X ha).at (wpAny_bind (L3.at ?_))))))
  show wpAny _ _ (storeInOwnDict (.ref x) (.ref C) (.str name tk) name v false) _ _ _
  obtain ⟨nm, bs, mro, ns, qn, hd, sn, sb, ab, col, del⟩ := cd
  dsimp only at hh
  subst hh
  unfold storeInOwnDict ownDictForStores
  repeat (first | with_reducible refine store_in_new ?_ ?_ | with_reducible refine wpAny_loadPart_at hx ?_ | with_reducible refine hcls.at ?_ | wp_step)
  · exact ⟨_, #[], _, (Heap.get?_update_ne _ _ _ _ hxs.symm).trans (Heap.get?_push_at rfl rfl), rfl, fun e he => absurd he (by simp), fun _ => rfl⟩
  · intro h' tk' hn' hs
    have hx₁ : (hp.push { cls := .type "dict", data := .dict #[] }).get? x = some { cls := .ref C, data := .fields fv } := Heap.get?_push_of_some _ hx
    refine hq h' tk' hp.objs.size (fun b o hb ho => ?_) (Nat.le_refl _) hxs.symm ?_ hn'
    · exact (hs.2 b (Nat.ne_of_lt (Heap.lt_size ho))).trans ((Heap.get?_update_ne _ _ _ _ hb).trans (Heap.get?_push_of_some _ ho))
    · exact (hs.2 x hxs).trans (Heap.get?_update_self _ hx₁ rfl)
end
/-- what the written part says of the class -/
structure OexB (nw : String) (tl : List Value) (K : PySem.W.Frag) (C : Addr) : Prop where
  cls : ∃ nm q N bs bm sn sub ab col dd k0 k1 k2 k3 k5, K.lookup C = some (excClassObj nm q C N bs bm true sn sub ab col dd k0 k1 k2 k3 k5 nw) ∧ refsB tl bm = true
  sa : PySem.W.findIn K (.ref C) "__setattr__" = some (some (.builtin "object.__setattr__"))
  exC : PySem.W.subIn K (.ref C) (.type "BaseException") = some true
  tyC : PySem.W.typeIn K (.ref C) = some (.type "type")
  kC : PySem.W.keepIn K (.ref C) = true
theorem oexb_mk {nw : String} {tl : List Value} {K : PySem.W.Frag} {C : Addr} {nm q : Str} {N : Addr} {bs bm : List Value} {sn : List Str} {sub : List Value} {ab : Bool} {col : Option Bool} {dd : Option Addr} {k0 k1 k2 k3 k5 : Option Value}
    (l : K.lookup C = some (excClassObj nm q C N bs bm true sn sub ab col dd k0 k1 k2 k3 k5 nw)) (r : refsB tl bm = true) (sa : PySem.W.findIn K (.ref C) "__setattr__" = some (some (.builtin "object.__setattr__")))
    (exC : PySem.W.subIn K (.ref C) (.type "BaseException") = some true) (tyC : PySem.W.typeIn K (.ref C) = some (.type "type")) (kC : PySem.W.keepIn K (.ref C) = true) : OexB nw tl K C := ⟨⟨nm, q, N, bs, bm, sn, sub, ab, col, dd, k0, k1, k2, k3, k5, l, r⟩, sa, exC, tyC, kC⟩
section
variable {X : Cx} {pins : List (Addr × Obj)} {σ : L2.St} {H : Hp} {s : Shared} {a C dx : Addr} {f : Str} {y : V} {u : Value} {fs : List (Str × V)} {Q : Unit → Shared → Prop} {E : Value → Shared → Prop} {A : Around} {B nw it : String} {tl : List Value}
/-- self.f = y, the first one -/
theorem ostB_new (BB : BaseB B nw it tl) (T : OexB nw tl X.K C) (I : Inv X pins σ H s) (e : H a = some (exo a C none)) (hno : PySem.W.findIn X.K (.ref C) f = some none) (ry : RelV y u)
    (h : ∀ dx s', H dx = none → dx ≠ a → Inv X pins σ (upd (upd H dx (exd dx [(f, y)])) a (exo a C (some dx))) s' → Q () s') : wpAny (model X.prog X.w) A (setAttr (.ref a) f u) Q E s := by
  obtain ⟨nm, q, N, bs, bm, sn, sub, ab, col, dd, k0, k1, k2, k3, k5, hC, hbm⟩ := T.cls
  have hcl : PySem.W.clsIn X.K C = some { name := nm, bases := bs, mro := .ref C :: bm, ns := N, qualname := q, hasDict := true, slotNames := sn, subclasses := sub, abstract := ab, collection := col, hasDel := false } := by unfold PySem.W.clsIn; rw [hC] <;> rfl
  obtain ⟨t1, ho⟩ := exo_at I.hok e
  obtain ⟨hp, g, d, t, os⟩ := s
  refine PySem.W.set_plain I.kIn (ox := { cls := .ref C, dict := none, data := .fields #[.ref t1, .none, .none, .none, .bool false, .none] }) (od := none) ⟨ho, rfl, rfl, trivial⟩ T.sa ?_
  refine excB_osa BB I.kIn ho hcl (show refsB tl (.ref C :: bm) = true from hbm) rfl hno (fun h' tk' dx k dn dne hx hn => ?_)
  have hnd : H dx = none := I.hok.fresh dn
  have nd : ∀ {b : Addr} {o : Obj}, hp.get? b = some o → b ≠ dx := fun {b o} q => Nat.ne_of_lt (Nat.lt_of_lt_of_le (Heap.lt_size q) dn)
  have na : ∀ {b : Addr}, H b = none → b ≠ a := fun {b} n z => by
    rw [z, e] at n
    cases n
  have Un1 : Un X.fs [] H (upd (upd H dx (exd dx [(f, y)])) a (exo a C (some dx))) hp h' := {
    keep := fun b o q n _ _ => k b o (na n) q
    slot := fun b o q n _ _ => ⟨o.slots, k b o (na n) q⟩
    free := fun b o q n _ => by rw [upd_ne (na n), upd_ne (nd q)]; exact n
    there := fun b o q _ => by
      by_cases hb : b = a
      · exact ⟨_, by rw [hb]; exact hx⟩
      · exact ⟨o, k b o hb q⟩
    tups := fun b xs q => by rw [upd_ne (at_ne e q exo_tup), upd_ne (ne_of_none q hnd)]; exact q
    frzs := fun b o v q => by rw [upd_ne (at_ne e q exo_frz), upd_ne (ne_of_none q hnd)]; exact q
    tbls := fun b ps q => ⟨#[], by rw [upd_ne (at_ne e q exo_tbl), upd_ne (ne_of_none q hnd), q]; simp⟩ }
  refine h dx _ hnd dne (I.un (t' := tk') Un1 fun b o q => ?_)
  by_cases hb : b = a
  · subst hb
    rw [upd_same] at q
    cases q
    exact exo_ok hx
  · rw [upd_ne hb] at q
    by_cases hd : b = dx
    · subst hd
      rw [upd_same] at q
      cases q
      exact exd_ok hn (relO_put (fs := []) ry fun g => True.intro)
    · rw [upd_ne hd] at q
      exact (I.hok b o q).stay (fun c v hc z => k c v (by
          rcases hc with hc | hc
          · rw [hc]
            exact hb
          · exact at_ne e hc exo_own) z)
        (fun c hc => by rw [upd_ne (at_ne e hc exo_own), upd_ne (ne_of_none hc hnd)]; exact hc) (fun c xs hc => by rw [upd_ne (at_ne e hc exo_tup), upd_ne (ne_of_none hc hnd)]; exact hc)
/-- B.__init__(self, ..): nothing of it is told -/
theorem oinitB_ok {us : List Value} {Q : Value → Shared → Prop} (BB : BaseB B nw it tl) (T : OexB nw tl X.K C) (I : Inv X pins σ H s) (e : H a = some (exo a C none)) (hl : us.length ≤ sizeLine) (h : ∀ s', Inv X pins σ H s' → Q .none s') :
    wpAny (model X.prog X.w) A (call (.builtin it) (.ref a :: us)) Q E s := by
  obtain ⟨nm, q, N, bs, bm, sn, sub, ab, col, dd, k0, k1, k2, k3, k5, hC, hbm⟩ := T.cls
  obtain ⟨t1, ho⟩ := exo_at I.hok e
  obtain ⟨hp, g, d, t, os⟩ := s
  refine wpAny_call (PySem.HandSPX.init_base BB.F (fun Y => refsB_contains Y bm hbm) (I.kIn _ _ hC) ho hl fun h' t2 k hx => ?_)
  have J := I.write (t' := t) (x := a) (e := a) (o := exo a C none) (by rw [e]; exact True.intro) (.inl rfl) k ⟨_, hx⟩ (exo_ok hx)
  have eu : upd H a (exo a C none) = H := by
    funext b
    by_cases hb : b = a
    · rw [hb, upd_same, e]
    · rw [upd_ne hb]
  rw [eu] at J
  exact h _ J
end
/-- B.__init__(self, ..) -/
def tVeB (nw : String) (tl : List Value) (K : PySem.W.Frag) (ta : TA) : TE := fun σ H Q => ta σ H fun vs H1 => ∃ (a C : Addr) (ws : List V), vs = .ref a :: ws ∧ ws.length ≤ 1000 ∧ OexB nw tl K C ∧ H1 a = some (exo a C none) ∧ Q .non H1
/-- self.f = e -/
def tOsB (nw : String) (tl : List Value) (K : PySem.W.Frag) (f : Str) (to te : TE) : TS := fun D σ H => te σ H fun y H1 => to σ H1 fun x H2 => ∃ a C : Addr, x = .ref a ∧ OexB nw tl K C ∧ PySem.W.findIn K (.ref C) f = some none ∧
  (H2 a = some (exo a C none) ∧ ∀ dx, H2 dx = none → dx ≠ a → D.nx σ (upd (upd H2 dx (exd dx [(f, y)])) a (exo a C (some dx))))
section
variable {X : Cx} {o e : Expr} {es : List Expr} {to te : TE} {ta : TA} {f : Str} {p p' p1 p2 pos : Pos} {B nw it : String} {tl : List Value}
theorem pe_beinit {pl : Sem Bool} (BB : BaseB B nw it tl) {xB : Str} (hB : typeOf (.type B) = pure (.type "type")) (hst : Manifest.isStub B = false) (hhi : PySem.W.handedIn (.builtin it) = true) (hg : Gl X xB) (hm : X.mg xB = none) (hv : bootBuiltins xB = some (.type B)) (vV : PySem.W.findCls X.K (.type B) (.type "type") "__init__" = some (.val (.builtin it)))
    (ha : PA X (e :: es) ta) (hn : xB ≠ "__name__") (hdb : (xB == ("__debug__" : Str)) = false)
    (hc : eval (.Call (.Attribute (.Name xB p1) "__init__" p2) (e :: es) [] pos) X.env = (do
      let ov ← eval (.Name xB p1) X.env
      standAt p2.atName
      let (f, first) ← holding [ov] (getMethod ov "__init__" pl)
      callWith pos f first (backTo pos (starEach (e :: es) X.env)) (backToKw pos (keywordEach [] X.env))) := by rfl)
    (he : starEach (e :: es) X.env = (false, eval e X.env) :: starEach es X.env := by rfl) (hpl : (backTo pos (starEach es X.env)).any (·.1) = false := by rfl) :
    PE X (.Call (.Attribute (.Name xB p1) "__init__" p2) (e :: es) [] pos) (tVeB nw tl X.K ta) := by
  refine ⟨fun pins s σ H Q I h => ?_⟩
  refine PySem.W.methodCall_KW (ld_blt I hg hm hv ?_ hn hdb) hc
  obtain ⟨m, fr⟩ := I.fr
  refine PySem.W.method_type fr I.ok.mod.kin hB hst vV hhi ?_
  show wpAny _ _ (callWith pos (Value.builtin it) [] (backTo pos (starEach (e :: es) X.env)) []) _ _ _
  refine PyProof.Rows.callWith_method1 (thn (ha.run pos pins _ σ H _ (I.tok _) h) fun us s1 ⟨vs, H1, I1, r1, a, C, ws, ev, hl, T, ea, q⟩ => ?_) he hpl
  subst ev
  cases r1 with
  | @cons _ u0 _ ur ra rw' =>
    obtain rfl : u0 = Value.ref a := ra
    have hlen : ur.length ≤ sizeLine := by
      rw [← Paired.length rw', sizeLine_eq]
      omega
    exact oinitB_ok BB T I1 ea hlen fun s' J => ⟨.non, H1, J, rfl, q⟩
theorem ps_osB (BB : BaseB B nw it tl) (ho : PE X o to) (he : PE X e te) (hs : swapsWith e (some (.Attribute o f p')) pos.line X.env = pure false := by rfl) : PS X (.Assign [.Attribute o f p'] e pos) (tOsB nw tl X.K f to te) := by
  refine ⟨fun pins s σ H D I h => ?_⟩
  refine plainObj_wpAny_Assign_Attribute (thn (he.run pins s σ H _ I h) fun v s1 ⟨y, H1, I1, r1, q1⟩ => thn (ho.run pins s1 σ H1 _ I1 q1) fun u s2 ⟨x, H2, I2, r2, a, C, ex, T, hno, q⟩ => ?_) hs
  subst ex
  obtain rfl : u = Value.ref a := r2
  obtain ⟨ea, q⟩ := q
  exact ostB_new BB T I2 ea hno r1 fun dx s' n ne J => ⟨σ, _, J, q dx n ne⟩
end
section
variable {X : Cx} {e : Expr} {es : List Expr} {ta : TA} {p pos : Pos} {B nw it : String} {tl : List Value}
theorem pmk_oeB {CX : CXT} {x : Str} {C fI : Addr} {k : Nat} {fd : FuncData} {ps : List Str} {sp : Sp} {ds : List Value} {dvs : List V} (BB : BaseB B nw it tl) (T : OexB nw tl X.K C) (iC : PySem.W.findIn X.K (.ref C) "__init__" = some (some (.ref fI))) (tI : PySem.W.typeIn X.K (.ref fI) = some (.type "function"))
    (F1 : FnOk X.prog X.w X.K X.mg X.base CX k fI fd ps sp) (hr : Room (k + 1) X.A) (hb : Binds X.K fd ps ds) (hd : Vals dvs ds) (hx : Passes CX X (fun _ _ _ => False)) (hg : Gl X x) (hm : X.mg x = some (.ref C)) (ha : PA X (e :: es) ta)
    (hdb : (x == ("__debug__" : Str)) = false := by decide) (he : starEach (e :: es) X.env = (false, eval e X.env) :: starEach es X.env := by rfl) (hpl : (backTo pos (starEach es X.env)).any (·.1) = false := by rfl) :
    PMk X (.Call (.Name x p) (e :: es) [] pos) (tMkO C sp dvs ta) := by
  intro pins s σ H Q I h
  obtain ⟨nm, q, N, bs, bm, sn, sub, ab, col, dd, k0, k1, k2, k3, k5, hC, hbm⟩ := T.cls
  refine wpAny_Call_Name_kw (ld_glob I hg hm ?_ hdb)
  refine PySem.W.callWith_K (h₀ := X.base) I.ok.mod.kin T.kC (thn (ha.run pos pins s σ H _ I h) fun us s1 ⟨vs, H1, I1, r1, hz, q1⟩ => ⟨I1.kIn, ?_⟩) he hpl
  show wpAny _ _ (call (.ref C) us) _ _ _
  obtain ⟨hp, g, dr, tk, os⟩ := s1
  have hsz : hp.objs.size ≤ hp.objs.size + 1 := Nat.le_succ _
  have hn : H1 (hp.objs.size + 1) = none := I1.hok.fresh hsz
  have hq := q1 (hp.objs.size + 1) hn
  have kk : ∀ b o, hp.get? b = some o → ((hp.push (PySem.W.kdv_tup us)).push (PySem.HandSPX.excO C hp.objs.size)).get? b = some o := fun b o e => Heap.get?_push_of_some _ (Heap.get?_push_of_some _ e)
  have hget : ((hp.push (PySem.W.kdv_tup us)).push (PySem.HandSPX.excO C hp.objs.size)).get? (hp.objs.size + 1) = some (PySem.HandSPX.excO C hp.objs.size) := by heap_get
  have I2 : Inv X pins σ (upd H1 (hp.objs.size + 1) (exo (hp.objs.size + 1) C none)) ⟨(hp.push (PySem.W.kdv_tup us)).push (PySem.HandSPX.excO C hp.objs.size), g, dr, tk, os⟩ :=
    I1.laid (t' := tk) (a := hp.objs.size + 1) (o := exo (hp.objs.size + 1) C none) (h' := (hp.push (PySem.W.kdv_tup us)).push (PySem.HandSPX.excO C hp.objs.size)) kk hsz (exo_ok hget)
  have r2 : Vals (V.ref (hp.objs.size + 1) :: (vs ++ dvs)) (Value.ref (hp.objs.size + 1) :: (us ++ ds)) := .cons rfl (r1.append hd)
  have hl : (Value.ref (hp.objs.size + 1) :: us ++ ds).length = ps.length := by
    have e := r2.length
    rw [F1.len _ _ _ _ hq] at e
    exact e.symm
  have hus : us.length ≤ sizeLine := by
    rw [← Paired.length r1, sizeLine_eq]
    omega
  refine wpAny_call (PySem.HandSPX.call_own BB.F (fun Y => refsB_contains Y bm hbm) (I1.kIn _ _ hC) (PySem.W.looks_findIn I1.kIn iC) (fun self => PySem.W.bind_fn I1.kIn self tI) hus
    (codeAny_mono (F1.run _ X.stack _ _ ⟨Value.ref (hp.objs.size + 1) :: us, []⟩ (Value.ref (hp.objs.size + 1) :: (us ++ ds)) _ _ (fun _ _ _ => False) (hr.make C us []) (I2.env0.make C us []) (hb _ (Value.ref (hp.objs.size + 1) :: us) I2.kIn hl) r2 hq) fun r s' hq' => ?_))
  cases r with
  | error er => exact hx pins σ _ _ er s' I2 hq'
  | ok fl =>
    cases fl with
    | ret u =>
      obtain ⟨v, H2, os2, bare2, un2, hok2, rv, ev, d, fs, ea, ed, hd1, q2⟩ := hq'
      subst ev
      obtain ⟨h2, g2, d2, t2, os'⟩ := s'
      exact ⟨rv, mk_end (raises_own T.exC T.tyC) I1 hsz kk un2 hok2 os2 bare2 ea ed hd1 q2⟩
    | next => exact False.elim hq'
    | brk => exact False.elim hq'
    | cont => exact False.elim hq'
theorem pmk_oeBN {CX : CXT} {x : Str} {C fI : Addr} {k : Nat} {fd : FuncData} {ps : List Str} {sp : Sp} {ds : List Value} {dvs : List V} (BB : BaseB B nw it tl) (T : OexB nw tl X.K C) (iC : PySem.W.findIn X.K (.ref C) "__init__" = some (some (.ref fI))) (tI : PySem.W.typeIn X.K (.ref fI) = some (.type "function"))
    (F1 : FnOk X.prog X.w X.K X.mg X.base CX k fI fd ps sp) (hr : Room (k + 1) X.A) (hb : Binds X.K fd ps ds) (hd : Vals dvs ds) (hx : Passes CX X (fun _ _ _ => False)) (hg : Gl X x) (hm : X.mg x = some (.ref C)) (ha : PA X (e :: es) ta)
    (hdb : (x == ("__debug__" : Str)) = false := by decide) (he : starEach (e :: es) X.env = (false, eval e X.env) :: starEach es X.env := by rfl) (hpl : (backTo pos (starEach es X.env)).any (·.1) = false := by rfl) :
    L2N.PMk X (.Call (.Name x p) (e :: es) [] pos) (tMkO C sp dvs ta) := by
  intro pins s σ H Q I h
  obtain ⟨nm, q, N, bs, bm, sn, sub, ab, col, dd, k0, k1, k2, k3, k5, hC, hbm⟩ := T.cls
  refine wpAny_Call_Name_kw (ld_glob I hg hm ?_ hdb)
  refine PySem.W.callWith_K (h₀ := X.base) I.ok.mod.kin T.kC (thn (ha.run pos pins s σ H _ I h) fun us s1 ⟨vs, H1, I1, r1, hz, q1⟩ => ⟨I1.kIn, ?_⟩) he hpl
  show wpAny _ _ (call (.ref C) us) _ _ _
  obtain ⟨hp, g, dr, tk, os⟩ := s1
  have hsz : hp.objs.size ≤ hp.objs.size + 1 := Nat.le_succ _
  have hn : H1 (hp.objs.size + 1) = none := I1.hok.fresh hsz
  have hq := q1 (hp.objs.size + 1) hn
  have kk : ∀ b o, hp.get? b = some o → ((hp.push (PySem.W.kdv_tup us)).push (PySem.HandSPX.excO C hp.objs.size)).get? b = some o := fun b o e => Heap.get?_push_of_some _ (Heap.get?_push_of_some _ e)
  have hget : ((hp.push (PySem.W.kdv_tup us)).push (PySem.HandSPX.excO C hp.objs.size)).get? (hp.objs.size + 1) = some (PySem.HandSPX.excO C hp.objs.size) := by heap_get
  have I2 : Inv X pins σ (upd H1 (hp.objs.size + 1) (exo (hp.objs.size + 1) C none)) ⟨(hp.push (PySem.W.kdv_tup us)).push (PySem.HandSPX.excO C hp.objs.size), g, dr, tk, os⟩ :=
    I1.laid (t' := tk) (a := hp.objs.size + 1) (o := exo (hp.objs.size + 1) C none) (h' := (hp.push (PySem.W.kdv_tup us)).push (PySem.HandSPX.excO C hp.objs.size)) kk hsz (exo_ok hget)
  have r2 : Vals (V.ref (hp.objs.size + 1) :: (vs ++ dvs)) (Value.ref (hp.objs.size + 1) :: (us ++ ds)) := .cons rfl (r1.append hd)
  have hl : (Value.ref (hp.objs.size + 1) :: us ++ ds).length = ps.length := by
    have e := r2.length
    rw [F1.len _ _ _ _ hq] at e
    exact e.symm
  have hus : us.length ≤ sizeLine := by
    rw [← Paired.length r1, sizeLine_eq]
    omega
  refine wpAny_call (PySem.HandSPX.call_own BB.F (fun Y => refsB_contains Y bm hbm) (I1.kIn _ _ hC) (PySem.W.looks_findIn I1.kIn iC) (fun self => PySem.W.bind_fn I1.kIn self tI) hus
    (codeAny_mono (F1.run _ X.stack _ _ ⟨Value.ref (hp.objs.size + 1) :: us, []⟩ (Value.ref (hp.objs.size + 1) :: (us ++ ds)) _ _ (fun _ _ _ => False) (hr.make C us []) (I2.env0.make C us []) (hb _ (Value.ref (hp.objs.size + 1) :: us) I2.kIn hl) r2 hq) fun r s' hq' => ?_))
  cases r with
  | error er => exact hx pins σ _ _ er s' I2 hq'
  | ok fl =>
    cases fl with
    | ret u =>
      obtain ⟨v, H2, os2, bare2, un2, hok2, rv, ev, d, fs, ea, ed, hd1, q2⟩ := hq'
      subst ev
      obtain ⟨h2, g2, d2, t2, os'⟩ := s'
      exact ⟨rv, mk_endN (raises_own T.exC T.tyC) I1 hsz kk un2 hok2 os2 bare2 ea ed hd1 q2⟩
    | next => exact False.elim hq'
    | brk => exact False.elim hq'
    | cont => exact False.elim hq'
end
/-- what such an __init__(self, v) does -/
def spXb (nw : String) (tl : List Value) (K : PySem.W.Frag) (f : Str) : Sp := fun vs H Q _ => ∃ (a C : Addr) (v : V), vs = [.ref a, v] ∧ OexB nw tl K C ∧ PySem.W.findIn K (.ref C) f = some none ∧ H a = some (exo a C none) ∧ ∀ dx, H dx = none → dx ≠ a → Q .non (upd (upd H dx (exd dx [(f, v)])) a (exo a C (some dx)))
/-- an own exception class x above such an error, its __init__ puts one field f -/
structure Xcb (nw : String) (tl : List Value) (P : Program) (w : World) (K : PySem.W.Frag) (mg : Str → Option Value) (base : Heap) (x : Str) (C : Addr) (k : Nat) (f : Str) : Prop where
  T : OexB nw tl K C
  no : PySem.W.findIn K (.ref C) f = some none
  hm : mg x = some (.ref C)
  ex : ∃ (fI : Addr) (fd : FuncData) (ps : List Str), PySem.W.findIn K (.ref C) "__init__" = some (some (.ref fI)) ∧ PySem.W.typeIn K (.ref fI) = some (.type "function") ∧ FnOk P w K mg base CX0 k fI fd ps (spXb nw tl K f) ∧ Binds K fd ps []
theorem xb_end {nw : String} {tl : List Value} {K : PySem.W.Frag} {H1 : Hp} {C : Addr} {f : Str} {v : V} {Q : XK} (T : OexB nw tl K C) (no : PySem.W.findIn K (.ref C) f = some none) (h : ∀ d H2, H1 d = none → Same H1 H2 → H2 d = some (.xd [(f, v)]) → Q (.ref C) (some d) H2) (a : Addr) (na : H1 a = none) :
    spXb nw tl K f [.ref a, v] (upd H1 a (exo a C none)) (fun v H2 => v = .non ∧ ∃ (d : Addr) (fs : List (Str × V)), H2 a = some (exo a C (some d)) ∧ H2 d = some (exd d fs) ∧ H1 d = none ∧ Q (.ref C) (some d) (upd (del H2 a) d (.xd fs))) (fun _ _ _ => False) := by
  refine ⟨a, C, v, rfl, T, no, upd_same, fun dx n ne => ⟨rfl, dx, [(f, v)], upd_same, by rw [upd_ne ne, upd_same], by rw [upd_ne ne] at n; exact n, ?_⟩⟩
  rw [upd_ne ne] at n
  refine h dx _ n (fun c o e => ?_) upd_same
  have c1 := ne_of_none e n
  have c2 := ne_of_none e na
  rw [upd_ne c1, del_ne c2, upd_ne c2, upd_ne c1, upd_ne c2]
  exact e
section
variable {X : Cx} {B nw it : String} {tl : List Value}
theorem pmk_xb (BB : BaseB B nw it tl) {x f : Str} {C : Addr} {k : Nat} {e : Expr} {es : List Expr} {ta : TA} {p pos : Pos} (Z : Xcb nw tl X.prog X.w X.K X.mg X.base x C k f) (hr : Room (k + 1) X.A) (hg : Gl X x) (ha : PA X (e :: es) ta) (mono : ∀ σ H (Q Q' : List V → Hp → Prop), (∀ vs H, Q vs H → Q' vs H) → ta σ H Q → ta σ H Q')
    (hdb : (x == ("__debug__" : Str)) = false := by decide) (he : starEach (e :: es) X.env = (false, eval e X.env) :: starEach es X.env := by rfl) (hpl : (backTo pos (starEach es X.env)).any (·.1) = false := by rfl) :
    PMk X (.Call (.Name x p) (e :: es) [] pos) (tXmk C f [] ta) := by
  obtain ⟨fI, fd, ps, iC, tI, F, hb⟩ := Z.ex
  have M := pmk_oeB (p := p) (pos := pos) (dvs := []) BB Z.T iC tI F hr hb .nil pass0 hg Z.hm ha hdb he hpl
  intro pins s σ H Q I h
  refine M pins s σ H Q I (mono _ _ _ _ (fun vs H1 ⟨v, ev, q⟩ => ⟨?_, fun a na => ?_⟩) h)
  · have := congrArg List.length ev
    simp only [List.length_append, List.length_cons, List.length_nil] at this
    omega
  · rw [ev]
    exact xb_end Z.T Z.no q a na
theorem pmk_xbN (BB : BaseB B nw it tl) {x f : Str} {C : Addr} {k : Nat} {e : Expr} {es : List Expr} {ta : TA} {p pos : Pos} (Z : Xcb nw tl X.prog X.w X.K X.mg X.base x C k f) (hr : Room (k + 1) X.A) (hg : Gl X x) (ha : PA X (e :: es) ta) (mono : ∀ σ H (Q Q' : List V → Hp → Prop), (∀ vs H, Q vs H → Q' vs H) → ta σ H Q → ta σ H Q')
    (hdb : (x == ("__debug__" : Str)) = false := by decide) (he : starEach (e :: es) X.env = (false, eval e X.env) :: starEach es X.env := by rfl) (hpl : (backTo pos (starEach es X.env)).any (·.1) = false := by rfl) :
    L2N.PMk X (.Call (.Name x p) (e :: es) [] pos) (tXmk C f [] ta) := by
  obtain ⟨fI, fd, ps, iC, tI, F, hb⟩ := Z.ex
  have M := pmk_oeBN (p := p) (pos := pos) (dvs := []) BB Z.T iC tI F hr hb .nil pass0 hg Z.hm ha hdb he hpl
  intro pins s σ H Q I h
  refine M pins s σ H Q I (mono _ _ _ _ (fun vs H1 ⟨v, ev, q⟩ => ⟨?_, fun a na => ?_⟩) h)
  · have := congrArg List.length ev
    simp only [List.length_append, List.length_cons, List.length_nil] at this
    omega
  · rw [ev]
    exact xb_end Z.T Z.no q a na
end
/-- such an __init__ -/
theorem ok_xbinit {B nw it : String} {tl : List Value} (BB : BaseB B nw it tl) {P : Program} {w : World} {K : PySem.W.Frag} {mg : Str → Option Value} {base : Heap} {fI : Addr} {fd : FuncData} {k : Nat} {qual x f par m : Str} {pa : Arguments} {sc : Scope} {dfl : List V} {kws : List (Str × V)} {j : Nat} {p1 p2 p3 p4 p5 p6 p7 p8 p9 p10 : Pos}
    (F : FunD K "__init__" qual pa [.Expr (.Call (.Attribute (.Name x p1) "__init__" p2) [.Name "self" p3, .Constant (.str m) j p4] [] p5) p6, .Assign [.Attribute (.Name "self" p7) f p8] (.Name par p9) p10] sc dfl kws fI fd) (S : FnScope ["self", par] ["self", par] sc)
    (hm : mg x = none) (hv : bootBuiltins x = some (.type B)) (hB : typeOf (.type B) = pure (.type "type")) (hst : Manifest.isStub B = false) (hhi : PySem.W.handedIn (.builtin it) = true) (vV : PySem.W.findCls K (.type B) (.type "type") "__init__" = some (.val (.builtin it))) (hn : x ≠ "__name__")
    (hgl : sc.names.lookup x = some .globalImplicit) (v0 : Vis sc "self") (v1 : Vis sc par)
    (hc : ∀ (L g : Addr) (cd : Value), ∃ pl : Sem Bool, eval (.Call (.Attribute (.Name x p1) "__init__" p2) [.Name "self" p3, .Constant (.str m) j p4] [] p5) (envOfC qual sc L g cd) = (do
      let ov ← eval (.Name x p1) (envOfC qual sc L g cd)
      standAt p2.atName
      let (f, first) ← holding [ov] (getMethod ov "__init__" pl)
      callWith p5 f first (backTo p5 (starEach [.Name "self" p3, .Constant (.str m) j p4] (envOfC qual sc L g cd))) (backToKw p5 (keywordEach [] (envOfC qual sc L g cd)))))
    (hs : ∀ (L g : Addr) (cd : Value), swapsWith (.Name par p9) (some (.Attribute (.Name "self" p7) f p8)) p10.line (envOfC qual sc L g cd) = pure false)
    (hdb : (x == ("__debug__" : Str)) = false) (hd1 : (par == ("__debug__" : Str)) = false) (hcd1 : (par == ("__classdict__" : Str)) = false) : FnOk P w K mg base CX0 (k + 1) fI fd ["self", par] (spXb nw tl K f) := by
  refine F.ok S (fun vs H Q E ⟨a, C, v, e, _⟩ => by rw [e]; rfl) (fun cdv A outer s H vs Q E hr h => ?_)
  obtain ⟨pl, hc⟩ := hc s.heap.objs.size fI cdv
  refine ⟨_, pss_cons (ps_expr (pe_beinit (pl := pl) BB hB hst hhi hgl hm hv vV (pa_cons (pe_var (i := 0) rfl v0 (by decide) (by decide)) (pa_cons pe_str pa_nil)) hn hdb hc)) (pss_one (ps_osB BB (pe_var (i := 0) rfl v0 (by decide) (by decide)) (pe_var (i := 1) rfl v1 hd1 hcd1) (hs _ _ _))), ?_⟩
  obtain ⟨a, C, v, rfl, T, no, ha, q⟩ := h
  exact ⟨.ref a, rfl, a, C, [.str m], rfl, (by simp), T, ha, v, rfl, .ref a, rfl, a, C, rfl, T, no, ha, q⟩
theorem typ_RT : typeOf (.type "RuntimeError") = pure (.type "type") := by kernel_rfl
theorem typ_LU : typeOf (.type "LookupError") = pure (.type "type") := by kernel_rfl
theorem fun_toD {K : PySem.W.Frag} {x qual : Str} {st : Stmt} {f : Addr} {fd : FuncData} (F : Fun K x qual st f fd) : FunD K x qual (defArgs st) (defBody st) (defScope st) [] [] f fd := by
  obtain ⟨⟨oc, od, kV, doc, pm, an, cdv, ct, osl, e, l, c⟩, k⟩ := F
  exact ⟨⟨oc, od, .none, kV, doc, pm, an, cdv, ct, osl, e, l, c, .inl ⟨rfl, rfl⟩, .inl rfl⟩, k⟩
end Bw

namespace Bw
open PySem PySem.Spec PyProof.Rows L2 LamX
/-! ### whole texts, and texts that are none, plainly -/
/-- the check of some signs -/
def chk (a : Nat) (cs : List Nat) : Nat := cs.foldl (fun t c => (t * 31 + c) % 65521) a
theorem chk_lt : ∀ {cs : List Nat} {a : Nat}, a < 65521 → chk a cs < 65521
  | [], a, h => h
  | c :: r, a, h => chk_lt (cs := r) (Nat.mod_lt _ (by decide))
theorem chk_app (a : Nat) (xs ys : List Nat) : chk a (xs ++ ys) = chk (chk a xs) ys := by unfold chk; rw [List.foldl_append]
theorem chk_inj : ∀ {cs : List Nat} {a b : Nat}, a < 65521 → b < 65521 → chk a cs = chk b cs → a = b
  | [], a, b, _, _, h => h
  | c :: r, a, b, ha, hb, h => by
    have h1 : chk ((a * 31 + c) % 65521) r = chk ((b * 31 + c) % 65521) r := h
    have h2 := chk_inj (cs := r) (Nat.mod_lt _ (by decide)) (Nat.mod_lt _ (by decide)) h1
    omega
/-- one sign changed changes the check -/
theorem chk_one {a : Nat} {xs ys : List Nat} {c d : Nat} (ha : a < 65521) (hc : c < 65521) (hd : d < 65521) (h : chk a (xs ++ c :: ys) = chk a (xs ++ d :: ys)) : c = d := by
  rw [chk_app, chk_app] at h
  have h1 : chk ((chk a xs * 31 + c) % 65521) ys = chk ((chk a xs * 31 + d) % 65521) ys := h
  have h2 := chk_inj (Nat.mod_lt _ (by decide)) (Nat.mod_lt _ (by decide)) h1
  omega
/-- the figure of a digit -/
def fg (d : Nat) : Nat := if d < 10 then 48 + d else 87 + d
def hex4 (c : Nat) : List Nat := [fg (c / 4096 % 16), fg (c / 256 % 16), fg (c / 16 % 16), fg (c % 16)]
def figS : Str := "0123456789abcdef"
theorem fig_at : ∀ d : Nat, d < 16 → atI figS.cps.toList (d : Int) = some (fg d) := by decide +kernel
/-- the head's signs -/
def hdL (rows : List Str) : List Nat := zf rows.length ++ [58] ++ hex4 (chk 1 (sgn rows))
def wt (rows : List Str) : Str := S (hdL rows ++ [10] ++ sgn rows)
theorem hex4_hex {c : Nat} : ∀ d ∈ hex4 c, Hx.IsHex d := by
  have h : ∀ d, d < 16 → Hx.IsHex (fg d) := fun d hd => by
    unfold fg Hx.IsHex
    split <;> omega
  intro d hd
  unfold hex4 at hd
  simp only [List.mem_cons, List.not_mem_nil, or_false] at hd
  rcases hd with rfl | rfl | rfl | rfl <;> exact h _ (Nat.mod_lt _ (by decide))
theorem hv_fg {d : Nat} (h : d < 16) : Hx.hv (fg d) = d := by
  unfold fg Hx.hv
  split
  · rw [if_pos (by omega)]
    omega
  · rw [if_neg (by omega), if_pos (by omega)]
    omega
theorem hex4_num {c : Nat} (h : c < 65536) : Hx.hexNum (hex4 c) = c := by
  have m : ∀ x, x % 16 < 16 := fun x => Nat.mod_lt _ (by decide)
  unfold hex4 Hx.hexNum
  simp only [List.foldl_cons, List.foldl_nil]
  rw [hv_fg (m _), hv_fg (m _), hv_fg (m _), hv_fg (m _)]
  omega
theorem hex4_inj {c d : Nat} (hc : c < 65536) (hd : d < 65536) (h : hex4 c = hex4 d) : c = d := by
  rw [← hex4_num hc, ← hex4_num hd, h]
theorem hd_free {rows : List Str} : 10 ∉ hdL rows := fun z => by
  unfold hdL at z
  rcases List.mem_append.mp z with z | z
  · rcases List.mem_append.mp z with z | z
    · have := zf_dig _ z
      omega
    · simp at z
  · have := Hx.hex_rng (hex4_hex _ z)
    omega
theorem hd_len {rows : List Str} (h : rows.length ≤ 9999) : (hdL rows).length = 9 := by
  unfold hdL
  rw [List.length_append, List.length_append, zf_len h]
  rfl
theorem hd_part {rows : List Str} : Txt.rpartition (S (hdL rows)) ":" = (S (zf rows.length), (":" : Str), S (hex4 (chk 1 (sgn rows)))) := by
  have e : hdL rows = zf rows.length ++ 58 :: hex4 (chk 1 (sgn rows)) := by unfold hdL; simp
  rw [e]
  exact rpart_app (c := 58) (fun z => by
    have := hex4_hex _ z
    unfold Hx.IsHex at this
    omega)
/-- rows that a file may hold -/
def Rw (rows : List Str) : Prop := rows.length ≤ 9999 ∧ ∀ r ∈ rows, 10 ∉ r.cps.toList
/-- a whole text -/
def isWt (t : Str) : Prop := ∃ rows, Rw rows ∧ wt rows = t
theorem wt_split {rows : List Str} (h : ∀ r ∈ rows, 10 ∉ r.cps.toList) : Txt.split (wt rows) "\n" = S (hdL rows) :: (rows ++ [("" : Str)]) := split_lines hd_free h
theorem wt_inj {rows rows' : List Str} (h : ∀ r ∈ rows, 10 ∉ r.cps.toList) (h' : ∀ r ∈ rows', 10 ∉ r.cps.toList) (e : wt rows = wt rows') : rows = rows' := by
  have h1 := wt_split h
  rw [e, wt_split h'] at h1
  have h2 := (List.cons.inj h1).2
  exact ((List.append_inj' h2 rfl).1).symm
/-- a text, cut at its line feeds -/
theorem cut10 : ∀ cs : List Nat, ∃ (h : List Nat) (rs : List (List Nat)), 10 ∉ h ∧ (∀ r ∈ rs, 10 ∉ r) ∧ cs = h ++ (rs.map fun r => 10 :: r).flatten
  | [] => ⟨[], [], by simp, by simp, rfl⟩
  | c :: cs => by
    obtain ⟨h, rs, h1, h2, h3⟩ := cut10 cs
    by_cases hc : c = 10
    · exact ⟨[], h :: rs, by simp, fun r hr => by
        rcases List.mem_cons.mp hr with rfl | hr
        · exact h1
        · exact h2 r hr, by rw [hc, h3]; simp⟩
    · exact ⟨c :: h, rs, by simp [Ne.symm hc, h1], h2, by rw [h3]; rfl⟩
theorem join10 : ∀ (h : List Nat) (rs : List (List Nat)), (Str.join ("\n" : Str) (S h :: rs.map S)).cps.toList = h ++ (rs.map fun r => 10 :: r).flatten
  | h, [] => by show h = _; simp
  | h, r :: rs => by
    show (S h ++ ("\n" : Str) ++ Str.join ("\n" : Str) (S r :: rs.map S)).cps.toList = _
    rw [cps_append, cps_append, join10 r rs]
    show h ++ [10] ++ _ = _
    simp
/-- what split tells of any text -/
theorem cut_of (t : Str) : ∃ (h : Str) (rs : List Str), Txt.split t "\n" = h :: rs ∧ 10 ∉ h.cps.toList ∧ (∀ r ∈ rs, 10 ∉ r.cps.toList) ∧ t.cps.toList = h.cps.toList ++ (rs.map fun r => 10 :: r.cps.toList).flatten := by
  obtain ⟨h, rs, h1, h2, h3⟩ := cut10 t.cps.toList
  refine ⟨S h, rs.map S, ?_, h1, fun r hr => ?_, ?_⟩
  · have e : t = Txt.join ("\n" : Str) (S h :: rs.map S) := str_ext (by rw [txt_join, join10, h3])
    rw [e]
    refine TL.split_join (s := 10) (S := []) rfl (by decide +kernel) (by simp) (fun p hp z => ?_)
    rcases List.mem_cons.mp hp with rfl | hp
    · exact h1 z
    · obtain ⟨r, hr, rfl⟩ := List.mem_map.mp hp
      exact h2 r hr z
  · obtain ⟨x, hx, rfl⟩ := List.mem_map.mp hr
    exact h2 x hx
  · rw [h3, List.map_map]
    rfl
theorem count10 : ∀ l : List Nat, PyProof.Rows.cnt 10 l = ((l.count 10 : Nat) : Int)
  | [] => rfl
  | c :: r => by
    rw [PyProof.Rows.cnt_cons, count10 r, List.count_cons]
    by_cases h : c = 10
    · rw [if_pos h, if_pos (by rw [h]; rfl)]
      omega
    · rw [if_neg h, if_neg (by simpa using h)]
      omega
theorem count_free {l : List Nat} (h : 10 ∉ l) : l.count 10 = 0 := List.count_eq_zero.mpr h
theorem count_cut : ∀ {rs : List Str}, (∀ r ∈ rs, 10 ∉ r.cps.toList) → ((rs.map fun r => 10 :: r.cps.toList).flatten).count 10 = rs.length
  | [], _ => rfl
  | r :: rs, h => by
    have h1 := count_cut (rs := rs) (fun x hx => h x (List.mem_cons_of_mem _ hx))
    rw [List.map_cons, List.flatten_cons, List.count_append, h1, List.count_cons, count_free (h r List.mem_cons_self), List.length_cons]
    simp
    omega
theorem count_sgn : ∀ {rows : List Str}, (∀ r ∈ rows, 10 ∉ r.cps.toList) → (sgn rows).count 10 = rows.length
  | [], _ => rfl
  | r :: rs, h => by
    have h1 := count_sgn (rows := rs) (fun x hx => h x (List.mem_cons_of_mem _ hx))
    have e : sgn (r :: rs) = r.cps.toList ++ ([10] ++ sgn rs) := by simp [sgn]
    rw [e, List.count_append, List.count_append, h1, count_free (h r List.mem_cons_self), List.length_cons]
    simp
    omega
theorem sgn_inj {rows rows' : List Str} (h : ∀ r ∈ rows, 10 ∉ r.cps.toList) (h' : ∀ r ∈ rows', 10 ∉ r.cps.toList) (e : sgn rows = sgn rows') : rows = rows' := by
  have k := split_lines (hd := []) (by simp) h
  rw [e, split_lines (hd := []) (by simp) h'] at k
  exact ((List.append_inj' (List.cons.inj k).2 rfl).1).symm
theorem sgn_last {rows : List Str} (h : rows ≠ []) : (sgn rows).getLast? = some 10 := by
  obtain ⟨r, x, rfl⟩ : ∃ r x, rows = r ++ [x] := ⟨rows.dropLast, rows.getLast h, (List.dropLast_concat_getLast h).symm⟩
  have e : sgn (r ++ [x]) = (sgn r ++ x.cps.toList) ++ [10] := by simp [sgn]
  rw [e, List.getLast?_append]
  rfl
theorem zf_inj {n m : Nat} (hn : n ≤ 9999) (hm : m ≤ 9999) (h : zf n = zf m) : n = m := by
  have k : ∀ n, (zf n).foldl (fun t c => t * 10 + (c - 48)) 0 = n := fun n => by
    have h0 : ∀ k, (List.replicate k 48).foldl (fun t c => t * 10 + (c - 48)) 0 = 0 := fun k => by
      induction k with
      | zero => rfl
      | succ k ih =>
        rw [List.replicate_succ']
        rw [List.foldl_append, ih]
        rfl
    unfold zf
    rw [List.foldl_append, h0]
    exact TL.numL_val n
  rw [← k n, ← k m, h]
theorem chk_lt1 (cs : List Nat) : chk 1 cs < 65536 := Nat.lt_trans (chk_lt (by decide)) (by decide)
theorem hd_inj {rows rows' : List Str} (h : rows.length ≤ 9999) (h' : rows'.length ≤ 9999) (e : hdL rows = hdL rows') : rows.length = rows'.length ∧ chk 1 (sgn rows) = chk 1 (sgn rows') := by
  unfold hdL at e
  have e1 := List.append_inj' e rfl
  have e2 := List.append_inj' e1.1 rfl
  exact ⟨zf_inj h h' e2.1, hex4_inj (chk_lt1 _) (chk_lt1 _) e1.2⟩
theorem cps_wt (rows : List Str) : (wt rows).cps.toList = hdL rows ++ (10 :: sgn rows) := by
  show hdL rows ++ [10] ++ sgn rows = _
  simp
/-- the first signs of a whole text are no whole text -/
theorem cut_torn {rows : List Str} (h : Rw rows) {n : Nat} (hn : n < (wt rows).cps.toList.length) : ¬ isWt (S ((wt rows).cps.toList.take n)) := by
  rintro ⟨rows', h', e⟩
  have e1 : hdL rows' ++ (10 :: sgn rows') = (hdL rows ++ (10 :: sgn rows)).take n := by
    rw [← cps_wt, ← cps_wt, e]
    rfl
  rw [cps_wt] at hn
  have l1 := hd_len h.1
  have l2 := hd_len h'.1
  have e2 : hdL rows' ++ (10 :: sgn rows') ++ (hdL rows ++ (10 :: sgn rows)).drop n = hdL rows ++ (10 :: sgn rows) := by rw [e1, List.take_append_drop]
  rw [List.append_assoc] at e2
  obtain ⟨e3, e4⟩ := List.append_inj e2 (by rw [l1, l2])
  have e5 : sgn rows' ++ (hdL rows ++ (10 :: sgn rows)).drop n = sgn rows := (List.cons.inj e4).2
  obtain ⟨k1, _⟩ := hd_inj h'.1 h.1 e3
  have c1 := count_sgn h.2
  have c2 := count_sgn h'.2
  generalize hz : (hdL rows ++ (10 :: sgn rows)).drop n = z at e5
  have hzl : 0 < z.length := by
    rw [← hz, List.length_drop]
    omega
  rw [← e5, List.count_append, c2] at c1
  have hne : rows ≠ [] := fun q => by
    rw [q] at e5
    have : (sgn rows' ++ z).length = 0 := by rw [e5]; rfl
    rw [List.length_append] at this
    omega
  have hl := sgn_last hne
  rw [← e5, List.getLast?_append] at hl
  have hz0 : z ≠ [] := fun q => by rw [q] at hzl; exact absurd hzl (by simp)
  rw [List.getLast?_eq_some_getLast hz0] at hl
  have hm : 10 ∈ z := by
    have := List.getLast_mem hz0
    rw [Option.some_or] at hl
    rwa [Option.some.inj hl] at this
  have := List.count_pos_iff.mpr hm
  omega
/-- one sign of a whole text changed: no whole text -/
theorem one_torn {rows : List Str} (h : Rw rows) (hc : ∀ c ∈ sgn rows, c < 65521) {xs ys : List Nat} {c d : Nat} (hd : d < 65521) (e : (wt rows).cps.toList = xs ++ c :: ys) (hcd : c ≠ d) : ¬ isWt (S (xs ++ d :: ys)) := by
  rintro ⟨rows', h', e'⟩
  have e1 : hdL rows' ++ (10 :: sgn rows') = xs ++ d :: ys := by
    rw [← cps_wt, e']
    rfl
  rw [cps_wt] at e
  have l1 := hd_len h.1
  have l2 := hd_len h'.1
  by_cases h9 : xs.length < 9
  · -- in the head
    have q1 : hdL rows = xs ++ c :: (hdL rows).drop (xs.length + 1) := by
      have := congrArg (List.take 9) e
      rw [List.take_append_of_le_length (by omega), List.take_of_length_le (by omega)] at this
      have w := congrArg (fun l => xs ++ c :: l.drop (xs.length + 1)) this
      rw [this]
      rw [List.take_append, List.take_of_length_le (by omega : xs.length ≤ 9)]
      obtain ⟨k, hk⟩ : ∃ k, 9 - xs.length = k + 1 := ⟨8 - xs.length, by omega⟩
      rw [hk, List.take_succ_cons]
      simp
    have q2 : ys = (hdL rows).drop (xs.length + 1) ++ (10 :: sgn rows) := by
      rw [q1] at e
      rw [List.append_assoc, List.cons_append] at e
      exact (List.cons.inj (List.append_cancel_left e)).2.symm
    rw [q2, ← List.cons_append, ← List.append_assoc] at e1
    have q3 : (xs ++ d :: (hdL rows).drop (xs.length + 1)).length = 9 := by
      rw [List.length_append, List.length_cons, List.length_drop]
      omega
    obtain ⟨r1, r2⟩ := List.append_inj e1 (by rw [l2, q3])
    have r3 := sgn_inj h'.2 h.2 (List.cons.inj r2).2
    rw [r3, q1] at r1
    have := List.append_cancel_left r1
    exact hcd (List.cons.inj this).1
  · by_cases h10 : xs.length = 9
    · obtain ⟨a1, a2⟩ := List.append_inj e (by omega)
      obtain ⟨b1, b2⟩ := List.append_inj e1 (by omega)
      exact hcd ((List.cons.inj a2).1.symm.trans (List.cons.inj b2).1)
    · -- behind the head
      obtain ⟨x0, x1, rfl, hx0⟩ : ∃ x0 x1, xs = x0 ++ x1 ∧ x0.length = 9 := ⟨xs.take 9, xs.drop 9, (List.take_append_drop 9 xs).symm, by rw [List.length_take]; omega⟩
      rw [List.append_assoc] at e e1
      obtain ⟨a1, a2⟩ := List.append_inj e (by omega)
      obtain ⟨b1, b2⟩ := List.append_inj e1 (by omega)
      rw [List.length_append] at h9 h10
      cases x1 with
      | nil => exact h10 (by rw [hx0]; rfl)
      | cons y x2 =>
        have a3 := (List.cons.inj a2).2
        have b3 := (List.cons.inj b2).2
        obtain ⟨_, k⟩ := hd_inj h'.1 h.1 (b1.trans a1.symm)
        rw [a3, b3] at k
        refine hcd (chk_one (a := 1) (by decide) (hc c (by rw [a3]; simp)) hd k.symm)
end Bw

open PySem PySem.Spec L2 Bw
local macro_rules | `(tactic| wtm_at "look") => `(tactic| first | assumption | with_reducible exact upd_same | ((with_reducible refine' same_at ?ws ?wt); (case ws => assumption); (case wt => wtm_at "look")) | ((with_reducible refine' kb_at ?ws ?wt ?wn); (case ws => assumption); (case wt => wtm_at "look"); (case wn => wtm_at "ne")))
local macro_rules | `(tactic| wtm_at "ne") => `(tactic| first | assumption | ((with_reducible refine Ne.symm ?ws); (case ws => assumption)) | ((with_reducible refine' ne_of_none ?wa ?wb); (case wb => assumption); (case wa => wtm_at "look")) | ((with_reducible refine' Ne.symm (ne_of_none ?wa ?wb)); (case wb => assumption); (case wa => wtm_at "look")))
local macro_rules | `(tactic| wtm_at "seq") => `(tactic| first | assumption | ((with_reducible refine' SqL.of ?ws); (case ws => wtm_at "look")) | ((with_reducible refine' SqT.of ?ws); (case ws => wtm_at "look")) | ((with_reducible refine' Same.seq ?ws ?wt); (case ws => assumption); (case wt => wtm_at "seq")) | ((with_reducible refine' same_t ?ws ?wt); (case ws => assumption); (case wt => wtm_at "seq")))
local macro_rules | `(tactic| wtm_at "ix") => `(tactic| first | assumption | exact atI_nat (j := 0) rfl | exact atI_nat (j := 1) rfl | exact atI_nat (j := 2) rfl | exact atI_nat (j := 3) rfl | exact atI_nat (j := 4) rfl)
local macro_rules | `(tactic| wtm_at "len") => `(tactic| first | (refine sz ?_; simp only [List.length_cons, List.length_nil]; omega) | (refine sz ?_; omega))
local macro_rules | `(tactic| wtm_at "fld") => `(tactic| first | assumption | exact lk_hit | ((with_reducible refine' lk_miss ?wa ?wb); (case wa => decide +kernel); (case wb => wtm_at "fld")) | rfl)
local macro_rules | `(tactic| wtm_at "tyx") => `(tactic| first | assumption | with_reducible exact tyx_int | with_reducible exact tyx_bl | with_reducible exact tyx_str | with_reducible exact tyx_non | ((with_reducible refine' tyx_lst ?wa); (case wa => wtm_at "look")) | ((with_reducible refine' tyx_tup ?wa); (case wa => wtm_at "look")))
local macro_rules | `(tactic| wtm_at "ixn") => `(tactic| first | assumption | exact Evl.ixN_nat (j := 0) (by simp) | exact Evl.ixN_nat (j := 1) (by simp) | exact Evl.ixN_nat (j := 2) (by simp) | rfl)
local macro_rules | `(tactic| wtm_at "cond") => `(tactic| first | assumption | (show (0 : Int) < _; omega) | exact mulL (by omega) | exact mulR (by omega) | exact divU (b := 64) (by omega) (by omega) (by decide) (by decide) | exact powU (a := 200) (by omega) (by decide) (by decide) (by decide))
local macro_rules | `(tactic| wtm_at "xd") => `(tactic| first | assumption | exact xdOk_none | ((with_reducible refine' XdOk.same ?wx ?ws); (case ws => assumption); (case wx => wtm_at "xd")) | ((with_reducible refine' xdOk_at ?wa); (case wa => wtm_at "look")))
local macro_rules | `(tactic| wtm_at "new") => `(tactic| (intro pN nN; generalize eN : upd _ pN _ = HN; have sN := same_gen nN eN; have hN := at_gen eN; clear eN))
local macro_rules | `(tactic| wtm_at "mut") => `(tactic| (generalize eM : upd _ _ _ = HM; have kM := kb_gen eM; have hM := at_gen eM; clear eM; (repeat (first | rw [pf_hit] at hM | rw [pf_nil] at hM | ((rw [pf_miss] at hM); rotate_left; decide +kernel)))))
local macro_rules | `(tactic| wtm_at "make") => `(tactic| (intro pR dR nR ndR neR; generalize eR : upd (upd _ dR _) pR _ = HR; have sR := same_make nR ndR eR; have hR := at_gen eR; clear eR neR))
local macro_rules | `(tactic| wtm_at "shp") => `(tactic| simp [SeqAt.shaped, PyData.canLay0, PyData.canLayAll0, PyData.depth, PyData.depthAll])
local macro_rules | `(tactic| wtm_at "kit") => `(tactic| first | exact kit_int_int | exact kit_int_bool | exact kit_int_str | exact kit_int_list | exact kit_int_tuple | exact kit_int_dict | exact kit_bool_int | exact kit_bool_bool | exact kit_bool_str | exact kit_bool_list | exact kit_bool_tuple | exact kit_bool_dict | exact kit_str_int | exact kit_str_bool | exact kit_str_str | exact kit_str_list | exact kit_str_tuple | exact kit_str_dict | exact kit_list_int | exact kit_list_bool | exact kit_list_str | exact kit_list_list | exact kit_list_tuple | exact kit_list_dict | exact kit_tuple_int | exact kit_tuple_bool | exact kit_tuple_str | exact kit_tuple_list | exact kit_tuple_tuple | exact kit_tuple_dict | exact kit_NoneType_int | exact kit_NoneType_bool | exact kit_NoneType_str | exact kit_NoneType_list | exact kit_NoneType_tuple | exact kit_NoneType_dict | exact kit_dict_int | exact kit_dict_bool | exact kit_dict_str | exact kit_dict_list | exact kit_dict_tuple | exact kit_dict_dict)
local macro_rules | `(tactic| wtm_at "w1") => `(tactic| first
  | with_reducible refine w_seq ?_
  | with_reducible refine w_next ?_
  | with_reducible refine w_set ?_
  | with_reducible refine w_asg ?_
  | with_reducible refine w_par ?_
  | with_reducible refine w_ret ?_
  | with_reducible refine w_drop ?_
  | with_reducible refine w_if ?_
  | with_reducible refine w_ifE ?_
  | ((with_reducible refine' w_var ?wv ?_); (case wv => rfl))
  | with_reducible refine w_c ?_
  | with_reducible refine w_op ?_
  | with_reducible refine w_un ?_
  | with_reducible refine w_I0 ?_
  | with_reducible refine w_U ?_
  | with_reducible refine w_pow10_5 ?_
  | with_reducible refine w_pow10_8 ?_
  | with_reducible refine w_pow10_9 ?_
  | with_reducible refine w_pow10_10 ?_
  | with_reducible refine w_pow10_11 ?_
  | with_reducible refine w_pow10_12 ?_
  | with_reducible refine w_pow10_18 ?_
  | ((with_reducible refine w_I ?wc ?_); (case' wc => try wtm_at "cond"))
  | ((with_reducible refine' w_setL ?wh ?wj ?_); (case wh => wtm_at "look"); (case wj => wtm_at "ixn"); intro hS kS eS; (try dsimp only [List.set_cons_zero, List.set_cons_succ] at eS))
  | ((with_reducible refine w_eq ?wh ?_); (case wh => rfl))
  | ((with_reducible refine w_ne ?wh ?_); (case wh => rfl))
  | with_reducible refine w_is0 ?_
  | with_reducible refine w_isnot0 ?_
  | with_reducible refine w_test ?_
  | with_reducible refine w_tB ?_
  | with_reducible refine w_bl ?_
  | ((with_reducible refine' w_isP ?wa ?wb ?wc ?_); (case wa => assumption); (case wb => assumption); (case wc => wtm_at "xd"))
  | ((with_reducible refine' w_isPt ?wa ?wb ?wc ?_); (case wa => assumption); (case wb => assumption); (case wc => wtm_at "xd"))
  | ((with_reducible refine' w_isPT ?wa ?wt ?wb ?wc ?_); (case wa => assumption); (case wt => wtm_at "look"); (case wb => assumption); (case wc => wtm_at "xd"))
  | with_reducible refine w_bmL ?_
  | with_reducible refine w_bm0 ?_
  | ((with_reducible refine' w_tyL ?wh ?_); (case wh => wtm_at "seq"))
  | with_reducible refine w_callP ?_
  | with_reducible refine w_lcE ?_
  | with_reducible refine w_lc2E ?_
  | with_reducible refine w_iStr ?_
  | with_reducible refine w_strE ?_
  | with_reducible refine w_iEnum ?_
  | ((with_reducible refine' w_enum ?wh ?_); (case wh => wtm_at "seq"))
  | with_reducible refine w_yes ?_
  | with_reducible refine w_m1 ?_
  | with_reducible refine w_sl ?_
  | with_reducible refine w_noPart ?_
  | with_reducible refine w_part ?_
  | with_reducible refine w_intE ?_
  | ((with_reducible refine' w_slS ?wh ?_); (case wh => wtm_at "len"))
  | ((with_reducible refine' w_slL ?wh ?_); (case wh => wtm_at "seq"); intro pC HC nC sC hC)
  | with_reducible refine w_m0 ?_
  | with_reducible refine w_isS ?_
  | with_reducible refine w_inS ?_
  | with_reducible refine w_notInS ?_
  | with_reducible refine w_xmk ?_
  | with_reducible refine w_xv ?_
  | with_reducible refine w_xv0 ?_
  | ((with_reducible refine' w_aug ?wv ?_); (case wv => rfl))
  | with_reducible refine w_ipI ?_
  | with_reducible refine w_rAdd ?_
  | with_reducible refine w_faug ?_
  | ((with_reducible refine' w_faug1 ?wh ?wc ?wn ?wl ?_); (case wh => wtm_at "look"); (case wc => assumption); (case wn => assumption); (case wl => wtm_at "fld"))
  | ((with_reducible refine' w_faug2 ?wh ?wl ?_); (case wh => wtm_at "look"); (case wl => (simp only [List.length_cons, List.length_nil]; omega)); wtm_at "mut")
  | with_reducible refine w_xfE ?_
  | ((with_reducible refine' w_xf ?wa ?wn ?wh ?wl ?_); (case wa => assumption); (case wn => assumption); (case wh => wtm_at "look"); (case wl => wtm_at "fld"))
  | ((with_reducible refine' w_cat ?wh ?wi ?wl ?_); (case wh => wtm_at "look"); (case wi => wtm_at "look"); (case wl => wtm_at "len"); intro pC HC nC sC hC; (try dsimp only [List.cons_append, List.nil_append] at hC))
  | with_reducible refine w_fmtE ?_
  | with_reducible refine w_joinE ?_
  | with_reducible refine w_js ?_
  | with_reducible refine w_jn ?_
  | ((with_reducible refine' w_jt ?wh ?_); (case wh => wtm_at "len"))
  | with_reducible refine w_isB ?_
  | with_reducible refine w_isnB ?_
  | with_reducible refine w_and ?_
  | with_reducible refine w_or ?_
  | with_reducible refine w_not ?_
  | with_reducible refine w_andV ?_
  | with_reducible refine w_orV ?_
  | with_reducible refine w_notV ?_
  | with_reducible refine w_chain ?_
  | with_reducible refine w_cons ?_
  | with_reducible refine w_nil ?_
  | with_reducible refine w_call ?_
  | with_reducible refine w_cb ?_
  | with_reducible refine w_tupE ?_
  | with_reducible refine w_lstE ?_
  | with_reducible refine w_abs ?_
  | with_reducible refine w_max ?_
  | with_reducible refine w_min ?_
  | with_reducible refine w_intI ?_
  | with_reducible refine w_intB ?_
  | ((with_reducible refine' w_lenL ?wh ?_); (case wh => wtm_at "seq"))
  | ((with_reducible refine' w_lenS ?wh ?_); (case wh => wtm_at "len"))
  | ((with_reducible refine' w_ixL ?wh ?wa ?_); (case wh => wtm_at "seq"); (case wa => wtm_at "ix"))
  | ((with_reducible refine' w_ixT ?wh ?wa ?_); (case wh => wtm_at "seq"); (case wa => wtm_at "ix"))
  | with_reducible refine w_gname ?_
  | with_reducible refine w_gsub ?_
  | with_reducible refine w_fldE ?_
  | ((with_reducible refine' w_fld ?wh ?wc ?wn ?wl ?_); (case wh => wtm_at "look"); (case wc => assumption); (case wn => assumption); (case wl => wtm_at "fld"))
  | with_reducible refine w_two ?_
  | with_reducible refine w_forE ?_
  | with_reducible refine w_iTup ?_
  | with_reducible refine w_iList ?_
  | with_reducible refine w_iRng1 ?_
  | with_reducible refine w_iRng2 ?_
  | ((with_reducible refine' w_itT ?wh ?_); (case wh => wtm_at "seq"))
  | ((with_reducible refine' w_itL ?wh ?_); (case wh => wtm_at "seq"))
  | with_reducible refine w_methE ?_
  | ((with_reducible refine' w_meth ?wh ?wl ?_); (case wh => wtm_at "look"); (case wl => wtm_at "fld"))
  | with_reducible refine w_makeE ?_
  | ((with_reducible refine makeG ?_); wtm_at "make")
  | ((with_reducible refine' w_isiB ?wt ?wk ?_); (case wt => wtm_at "tyx"); (case wk => wtm_at "kit"))
  | with_reducible refine w_sfld ?_
  | with_reducible refine w_gfldE ?_
  | ((with_reducible refine' w_st ?wh ?wc ?wn ?wl ?_); (case wh => wtm_at "look"); (case wc => assumption); (case wn => assumption); (case wl => (simp only [List.length_cons, List.length_nil]; omega)); wtm_at "mut")
  | ((with_reducible refine' w_gtup ?wh ?wn ?_); (case wh => wtm_at "seq"); (case wn => rfl))
  | with_reducible refine w_gcons ?_
  | with_reducible refine w_gnil ?_
  | with_reducible refine w_dnotE ?_
  | with_reducible refine w_dgetE ?_
  | with_reducible refine w_dputE ?_
  | with_reducible refine w_asg2 ?_
  | with_reducible refine w_iRng3 ?_
  | with_reducible refine w_makeK ?_
  | with_reducible refine iteT ?_
  | with_reducible refine iteF ?_
  | ((with_reducible refine' iteT' ?wb ?_); (case wb => rfl))
  | ((with_reducible refine' iteF' ?wb ?_); (case wb => rfl))
  | ((with_reducible refine newL ?wl ?_); (case wl => wtm_at "len"); wtm_at "new"))
local macro_rules | `(tactic| wtm_at "w0") => `(tactic| dsimp only [cxOf, L2H.cxH, Cx.nox, Cx.wish, L2.start, List.map_cons, List.map_nil, List.length_cons, List.length_nil, List.cons_append, List.nil_append, List.replicate, Nat.reduceAdd, Nat.reduceSub])
local macro_rules | `(tactic| wtm_at "wp") => `(tactic| repeat (wtm_at "w1"))
local macro_rules | `(tactic| wtm_at "wq") => `(tactic| repeat ((fail_if_success (with_reducible refine w_if ?_)); wtm_at "w1"))

namespace K65
def topS (i : Nat) : Stmt := PySem.Challenge.pw_blocksearch_k65_torn_texts_refused.main.body.getD i (.Pass ⟨0, 0, 0, 0⟩)
structure Txt (K : PySem.W.Frag) (mg : Str → Option Value) (Z : Zs) (C_Broken C_Full C_Gone C_NoFile C_Torn : Addr) : Prop where
  c_CHECK : ∃ t, mg "CHECK" = some (.int 65521 t)
  c_FIGURES : ∃ t, mg "FIGURES" = some (.str "0123456789abcdef" t)
  c_MOST_ROWS : ∃ t, mg "MOST_ROWS" = some (.int 9999 t)
  c_MOST_FIGURES : ∃ t, mg "MOST_FIGURES" = some (.int 4 t)
  n_isinstance : mg "isinstance" = none
  n_bool : mg "bool" = none
  n_int : mg "int" = none
  n_str : mg "str" = none
  n_list : mg "list" = none
  n_tuple : mg "tuple" = none
  n_len : mg "len" = none
  n_max : mg "max" = none
  n_min : mg "min" = none
  n_range : mg "range" = none
  n_abs : mg "abs" = none
  n_ord : mg "ord" = none
  n_RuntimeError : mg "RuntimeError" = none
  n_OverflowError : mg "OverflowError" = none
  n_KeyError : mg "KeyError" = none
  n_LookupError : mg "LookupError" = none
  m_Broken : mg "Broken" = some (.ref C_Broken)
  m_Full : mg "Full" = some (.ref C_Full)
  m_Gone : mg "Gone" = some (.ref C_Gone)
  m_NoFile : mg "NoFile" = some (.ref C_NoFile)
  m_Torn : mg "Torn" = some (.ref C_Torn)
  m_Wrong : mg "Wrong" = some (.ref Z.Wrong)
  m_NoText : mg "NoText" = some (.ref Z.NoText)
  m_NoNumber : mg "NoNumber" = some (.ref Z.NoNumber)
  m_NoSize : mg "NoSize" = some (.ref Z.NoSize)
  m_NoQuery : mg "NoQuery" = some (.ref Z.NoQuery)
  m_NoPages : mg "NoPages" = some (.ref Z.NoPages)
  m_NoName : mg "NoName" = some (.ref Z.NoName)
  m_NoShelf : mg "NoShelf" = some (.ref Z.NoShelf)
  m_NoDeed : mg "NoDeed" = some (.ref Z.NoDeed)
  m_Taken : mg "Taken" = some (.ref Z.Taken)
  m_NoSlot : mg "NoSlot" = some (.ref Z.NoSlot)
  n_ValueError : mg "ValueError" = none
  n_IndexError : mg "IndexError" = none
abbrev s_law_purse : Stmt := topS 27
theorem sc_law_purse : FnScope ["_law_script", "_law_at", "_law_cell", "_law_far"] ["_law_script", "_law_at"] (defScope s_law_purse) := ⟨rfl, rfl, rfl, by decide +kernel, rfl, by decide +kernel, by decide +kernel⟩
abbrev s_law_take : Stmt := topS 28
theorem sc_law_take : FnScope ["_law_purse_here", "_law_many", "_law_digit", "_law_turn", "_law_one", "_law_other"] ["_law_purse_here", "_law_many"] (defScope s_law_take) := ⟨rfl, rfl, rfl, by decide +kernel, rfl, by decide +kernel, by decide +kernel⟩
abbrev s_check_of : Stmt := topS 22
theorem sc_check_of : FnScope ["rows", "told", "row", "sign"] ["rows"] (defScope s_check_of) := ⟨rfl, rfl, rfl, by decide +kernel, rfl, by decide +kernel, by decide +kernel⟩
abbrev s_check_text : Stmt := topS 23
theorem sc_check_text : FnScope ["check", "signs", "turn"] ["check"] (defScope s_check_text) := ⟨rfl, rfl, rfl, by decide +kernel, rfl, by decide +kernel, by decide +kernel⟩
section
variable {P : Program} {w : World} {K : PySem.W.Frag} {mg : Str → Option Value} {base : Heap} {Z : Zs} {C_Broken C_Full C_Gone C_NoFile C_Torn : Addr}
/-- a purse at p: three numbers -/
def Pool (H : Hp) (p : Addr) (n : Nat) : Prop := ∃ a b c : Int, H p = some (.lst [.int a, .int b, .int c]) ∧ 0 ≤ a ∧ 0 ≤ b ∧ b < 10 ^ 30 ∧ 0 ≤ c ∧ c ≤ n
theorem Pool.mono {H H' : Hp} {p : Addr} {n n' : Nat} (h : Pool H p n) (e : Same H H') (hn : n ≤ n') : Pool H' p n' := by
  obtain ⟨a, b, c, h, h1, h2, h3, h4, h5⟩ := h
  exact ⟨a, b, c, e _ _ h, h1, h2, h3, h4, by omega⟩
theorem Pool.at {H : Hp} {p : Addr} {n : Nat} (h : Pool H p n) : ∃ xs, H p = some (.lst xs) := by
  obtain ⟨a, b, c, h, _⟩ := h
  exact ⟨_, h⟩
theorem Pool.kb {p D : Addr} {H4 H5 : Hp} {n : Nat} (h : Pool H4 p n) (b : KB D H4 H5) (ne : p ≠ D) : Pool H5 p n := by
  obtain ⟨x, y, z, h, r⟩ := h
  exact ⟨x, y, z, b _ _ h ne, r⟩
def spTake : Sp := fun vs H Q _ => ∃ (p : Addr) (m : Int) (n : Nat), vs = [.ref p, .int m] ∧ Pool H p n ∧ n ≤ 10 ^ 9 ∧ 0 < m ∧ m ≤ 10 ^ 12 ∧
  ∀ (d : Int) H', 0 ≤ d → d < m → KB p H H' → Pool H' p (n + 1) → Q (.int d) H'
theorem ok_take {f : Addr} {fd : FuncData} (F : Fun K "_law_take" "_law_take" s_law_take f fd) : FnOk P w K mg base CX0 1 f fd ["_law_purse_here", "_law_many"] spTake := by
  refine F.ok sc_law_take (fun vs H Q E h => ?_) (fun cdv A outer s H vs Q E hr h => ?_)
  · obtain ⟨p, m, n, rfl, _⟩ := h
    rfl
  · obtain ⟨p, m, n, rfl, ⟨a, b, c, hp, ha, hb, hb2, hc, hc2⟩, hn, hm, hm2, k⟩ := h
    have hb2' : b < 1000000000000000000000000000000 := hb2
    have hn' : n ≤ 1000000000 := hn
    have hm2' : m ≤ 1000000000000 := hm2
    have hcc : (c + 1) * (c + 1) ≤ 1000000001 * 1000000001 := Int.mul_le_mul (by omega) (by omega) (by omega) (by omega)
    have hcc0 : 0 ≤ (c + 1) * (c + 1) := Int.mul_nonneg (by omega) (by omega)
    refine ⟨_, (pss_cons (ps_if (pt_cmpR op_gt (pe_ix ix_list (pv 0) pe_int (fun _ _ => rfl)) pe_int (nomark _))
 (pss_cons (ps_set (i := 2) sc_law_take.nd rfl (.inl rfl) (pe_op op_mod (pe_ix ix_list (pv 0) pe_int (fun _ _ => rfl)) (pv 1)))
 (pss_cons (ps_asg (pe_op op_fdivU (pe_ix ix_list (pv 0) pe_int (fun _ _ => rfl)) (pv 1)) (pg_sub (pv 0) pe_int set_list))
 (pss_one (ps_ret (pv 2)))))
 pss_nil)
 (pss_cons (ps_asg (pe_op op_add (pe_ix ix_list (pv 0) pe_int (fun _ _ => rfl)) pe_int) (pg_sub (pv 0) pe_int set_list))
 (pss_cons (ps_set (i := 3) sc_law_take.nd rfl (.inl rfl) (pe_ix ix_list (pv 0) pe_int (fun _ _ => rfl)))
 (pss_cons (ps_set (i := 4) sc_law_take.nd rfl (.inl rfl) (pe_op op_mod (pe_op op_powU (pe_op op_add (pe_op op_add (pe_ix ix_list (pv 0) pe_int (fun _ _ => rfl)) (pe_op op_mulU (pe_op op_mulU pe_int (pv 3)) (pv 3))) pe_int) pe_int) pe_int))
 (pss_cons (ps_set (i := 5) sc_law_take.nd rfl (.inl rfl) (pe_op op_mod (pe_op op_powU (pe_op op_add (pe_op op_mulU (pv 4) (pe_op op_add (pe_op op_mulU pe_int (pv 3)) pe_int)) (pv 3)) pe_int) pe_int))
 (pss_one (ps_ret (pe_op op_mod (pe_op op_fdivU (pe_op op_add (pe_op op_mulU (pv 4) pe_int) (pv 5)) pe_int) (pv 1))))))))), ?_⟩
    wtm_at "w0"
    wtm_at "wp"
    refine w_dec (fun h0 => ?_) (fun h0 => ?_)
    · wtm_at "wp"
      rename_i H1 k1 e1
      refine k _ _ (Int.emod_nonneg _ (by omega)) (Int.emod_lt_of_pos _ hm) k1 ⟨_, _, _, e1, ?_, hb, hb2, hc, by omega⟩
      rw [Int.fdiv_eq_ediv_of_nonneg _ (Int.le_of_lt hm)]
      exact Int.ediv_nonneg ha (Int.le_of_lt hm)
    · wtm_at "wp"
      · refine powU (a := 200) ?_ (by decide) (by decide) (by decide)
        rw [Int.mul_assoc]
        omega
      rename_i H1 k1 e1
      generalize (b + 48271 * (c + 1) * (c + 1) + 1) ^ Int.toNat 5 = x3
      have o1 := Int.emod_nonneg x3 (show (2147483647 : Int) ≠ 0 by decide)
      have o2 := Int.emod_lt_of_pos x3 (show (0 : Int) < 2147483647 by decide)
      iterate 4 wtm_at "w1"
      generalize x3 % 2147483647 = one at o1 o2 ⊢
      have hoo : one * (2 * (c + 1) + 30011) ≤ 2147483647 * 3000000000 := Int.mul_le_mul (by omega) (by omega) (by omega) (by omega)
      have hoo0 : 0 ≤ one * (2 * (c + 1) + 30011) := Int.mul_nonneg (by omega) (by omega)
      wtm_at "wp"
      exact k _ _ (Int.emod_nonneg _ (by omega)) (Int.emod_lt_of_pos _ hm) k1 ⟨_, _, _, e1, ha, hb, hb2, by omega, by omega⟩
def spPool (K : PySem.W.Frag) : Sp := fun vs H Q _ => ∃ (a : Addr) (ns : List Int) (j : Nat), vs = [.ref a, .int j] ∧ SqL K H a (ns.map V.int) ∧ j ≤ 63 ∧
  ∀ p H', H p = none → Same H H' → Pool H' p 0 → Q (.ref p) H'
theorem pool_num {c : Int} : 0 ≤ c % 2147483647 ∧ c % 2147483647 < 10 ^ 30 := by
  have h1 := Int.emod_nonneg c (show (2147483647 : Int) ≠ 0 by decide)
  have h2 := Int.emod_lt_of_pos c (show (0 : Int) < 2147483647 by decide)
  constructor <;> omega
theorem ok_pool {f : Addr} {fd : FuncData} (F : Fun K "_law_purse" "_law_purse" s_law_purse f fd) (T : Txt K mg Z C_Broken C_Full C_Gone C_NoFile C_Torn) : FnOk P w K mg base CX0 1 f fd ["_law_script", "_law_at"] (spPool K) := by
  refine F.ok sc_law_purse (fun vs H Q E h => ?_) (fun cdv A outer s H vs Q E hr h => ?_)
  · obtain ⟨a, ns, j, rfl, _⟩ := h
    rfl
  · obtain ⟨a, ns, j, rfl, hS, hj, k⟩ := h
    refine ⟨_, (pss_cons (ps_set (i := 2) sc_law_purse.nd rfl (.inl rfl) pe_int)
 (pss_cons (ps_if (pt_cmpR op_lt (pv 1) (pe_callB cl_len (by rfl) T.n_len PySem.boot_len (pa_cons (pv 0) pa_nil)) (nomark _))
 (pss_one (ps_set (i := 2) sc_law_purse.nd rfl (.inl rfl) (pe_ix ix_list (pv 0) (pv 1) (fun _ _ => rfl))))
 pss_nil)
 (pss_cons (ps_set (i := 3) sc_law_purse.nd rfl (.inl rfl) (pe_callB cl_abs (by rfl) T.n_abs PyProof.Rows.boot_abs (pa_cons (pv 2) pa_nil)))
 (pss_one (ps_ret (pe_lst (pa_cons (pe_op op_mulU (pv 3) (pe_callTy cl_int (by rfl) T.n_int PyProof.Rows.boot_int (pa_cons (pe_cmpR op_ge (pv 3) (pe_op op_powU pe_int pe_int) (nomark _)) pa_nil))) (pa_cons (pe_op op_mod (pe_op op_add (pe_op op_add (pe_op op_mod (pv 2) pe_int) (pe_op op_mulU pe_int (pv 1))) pe_int) pe_int) (pa_cons pe_int pa_nil))))))))), ?_⟩
    wtm_at "w0"
    wtm_at "wp"
    refine w_dec (fun h0 => ?_) (fun h0 => ?_)
    · have hl : j < ns.length := by
        rw [List.length_map] at h0
        omega
      have hx : atI (ns.map V.int) (j : Int) = some (.int ns[j]) := atI_nat (by rw [List.getElem?_map, List.getElem?_eq_getElem hl]; rfl)
      wtm_at "wp"
      rename_i p np H1 s1 hp
      exact k _ _ np s1 ⟨_, _, _, hp, Int.mul_nonneg (by omega) (by split <;> omega), pool_num.1, pool_num.2, by omega, by omega⟩
    · wtm_at "wp"
      rename_i p np H1 s1 hp
      exact k _ _ np s1 ⟨_, _, _, hp, Int.mul_nonneg (by omega) (by split <;> omega), pool_num.1, pool_num.2, by omega, by omega⟩
def spCheck (K : PySem.W.Frag) : Sp := fun vs H Q _ => ∃ (a : Addr) (rows : List Str), vs = [.ref a] ∧ SqL K H a (rows.map V.str) ∧ (∀ r ∈ rows, r.length ≤ 90000) ∧ Q (.int (chk 1 (sgn rows))) H
theorem ok_check {f : Addr} {fd : FuncData} (F : Fun K "check_of" "check_of" s_check_of f fd) (T : Txt K mg Z C_Broken C_Full C_Gone C_NoFile C_Torn) : FnOk P w K mg base CX0 1 f fd ["rows"] (spCheck K) := by
  refine F.ok sc_check_of (fun vs H Q E h => ?_) (fun cdv A outer s H vs Q E hr h => ?_)
  · obtain ⟨a, rows, rfl, _⟩ := h
    rfl
  · obtain ⟨a, rows, rfl, hS, hrl, k⟩ := h
    refine ⟨_, (pss_cons (ps_set (i := 1) sc_check_of.nd rfl (.inl rfl) pe_int)
 (pss_cons (ps_for PassesOwn.never rfl (pi_list (pv 0)) (pg_name (i := 2) sc_check_of.nd rfl (.inl rfl))
 (pss_one (ps_for PassesOwn.never rfl (pi_str (pe_op op_addS (pv 2) pe_str)) (pg_name (i := 3) sc_check_of.nd rfl (.inl rfl))
 (pss_cons (ps_aug (i := 1) sc_check_of.nd rfl (.inl rfl) pe_int ip_mulU)
 (pss_cons (ps_aug (i := 1) sc_check_of.nd rfl (.inl rfl) (pe_callB cl_ord (by rfl) T.n_ord PyProof.Rows.boot_ord (pa_cons (pv 3) pa_nil)) ip_add)
 (pss_one (ps_aug (i := 1) sc_check_of.nd rfl (.inl rfl) (pe_gint T.c_CHECK rfl) ip_modU)))))))
 (pss_one (ps_ret (pv 1))))), ?_⟩
    wtm_at "w0"
    wtm_at "wp"
    refine for_fin (fin_list (xs := rows.map V.str)) (fun i σ H' => H' = H ∧ ∃ (v2 v3 : Option V), σ = [some (.ref a), some (.int (chk 1 (sgn (rows.take i)))), v2, v3]) ⟨rfl, _, _, rfl⟩ (fun i σ H' _ h => by rw [h.1]; exact hS) ?_ ?_
    · rintro i x σ H1 H1' hi ⟨rfl, v2, v3, rfl⟩ ⟨rfl, hx⟩
      rw [List.getElem?_map] at hx
      obtain ⟨r, hr1, rfl⟩ := Option.map_eq_some_iff.mp hx
      have hrl1 := hrl r (List.mem_of_getElem? hr1)
      wtm_at "wp"
      have hl1 : ("\n" : Str).length = 1 := rfl
      refine w_addS (sz (by omega)) ?_
      refine ⟨_, rfl, ?_⟩
      have ecs : (r ++ ("\n" : Str)).cps.toList = r.cps.toList ++ [10] := cps_append r "\n"
      generalize hg : r ++ ("\n" : Str) = z at *
      refine for_fin (fin_str (x := z)) (fun j σ H' => H' = H1' ∧ ∃ (v3 : Option V), σ = [some (.ref a), some (.int (chk (chk 1 (sgn (rows.take i))) (z.cps.toList.take j))), some (.str r), v3]) ⟨rfl, _, rfl⟩ (fun _ _ _ _ _ => trivial) ?_ ?_
      · rintro j y σ H2 H2' hj ⟨rfl, w3, rfl⟩ ⟨rfl, c, hc, rfl⟩
        wtm_at "wp"
        refine ⟨_, rfl, rfl, ?_⟩
        wtm_at "wp"
        refine ⟨rfl, some (.str ⟨#[c]⟩), ?_⟩
        rw [take_succ hc]
        have e1 : chk (chk 1 (sgn (rows.take i))) (z.cps.toList.take j ++ [c]) = (chk (chk 1 (sgn (rows.take i))) (z.cps.toList.take j) * 31 + c) % 65521 := by
          unfold chk
          rw [List.foldl_append]
          rfl
        rw [e1]
        rfl
      · rintro σ H2 ⟨rfl, w3, rfl⟩
        refine ⟨rfl, some (.str r), w3, ?_⟩
        rw [take_size, take_succL hr1, ecs]
        have e1 : chk 1 (sgn (rows.take i ++ [r])) = chk (chk 1 (sgn (rows.take i))) (r.cps.toList ++ [10]) := by
          unfold chk sgn
          rw [List.map_append, List.flatten_append, List.foldl_append]
          simp
        rw [e1]
    · rintro σ H1 ⟨rfl, v2, v3, rfl⟩
      rw [List.length_map, List.take_length]
      wtm_at "wp"
      exact k
def spCheckT : Sp := fun vs H Q _ => ∃ c : Nat, vs = [.int c] ∧ Q (.str (S (hex4 c))) H
theorem ok_checkt {f : Addr} {fd : FuncData} (F : Fun K "check_text" "check_text" s_check_text f fd) (T : Txt K mg Z C_Broken C_Full C_Gone C_NoFile C_Torn) : FnOk P w K mg base CX0 1 f fd ["check"] spCheckT := by
  refine F.ok sc_check_text (fun vs H Q E h => ?_) (fun cdv A outer s H vs Q E hr h => ?_)
  · obtain ⟨c, rfl, _⟩ := h
    rfl
  · obtain ⟨c, rfl, k⟩ := h
    refine ⟨_, (pss_cons (ps_set (i := 1) sc_check_text.nd rfl (.inl rfl) pe_str)
 (pss_cons (ps_for PassesOwn.never rfl (pi_range1 (by rfl) T.n_range (pa_cons (pe_gint T.c_MOST_FIGURES rfl) pa_nil)) (pg_name (i := 2) sc_check_text.nd rfl (.inl rfl))
 (pss_cons (ps_set (i := 1) sc_check_text.nd rfl (.inl rfl) (pe_op op_addS (pe_ix ix_str (pe_gstr T.c_FIGURES rfl) (pe_op op_mod (pv 0) pe_int) (fun _ _ => rfl)) (pv 1)))
 (pss_one (ps_aug (i := 0) sc_check_text.nd rfl (.inl rfl) pe_int ip_fdivU))))
 (pss_one (ps_ret (pv 1))))), ?_⟩
    wtm_at "w0"
    wtm_at "wp"
    refine ⟨4, rfl, by decide, by decide, ?_⟩
    refine for_fin (n := 4) fin_rng (fun i σ H' => H' = H ∧ ∃ v2 : Option V, σ = [some (.int (c / 16 ^ i : Nat)), some (.str (S ((hex4 c).drop (4 - i)))), v2]) ⟨rfl, none, by rw [Nat.pow_zero, Nat.div_one]; rfl⟩ (fun _ _ _ _ _ => trivial) ?_ ?_
    · rintro i x σ H1 H1' hi ⟨rfl, v2, rfl⟩ ⟨rfl, rfl⟩
      wtm_at "wp"
      have hat := fig_at (c / 16 ^ i % 16) (Nat.mod_lt _ (by decide))
      refine w_ixS (c := fg (c / 16 ^ i % 16)) (by decide +kernel) hat ?_
      wtm_at "wp"
      refine w_addS (sz ?_) ?_
      · rw [len_S, List.length_drop]
        have : (⟨#[fg (c / 16 ^ i % 16)]⟩ : Str).length = 1 := rfl
        have : (hex4 c).length = 4 := rfl
        omega
      wtm_at "wp"
      · exact ⟨by decide, by decide⟩
      refine ⟨rfl, some (.int (0 + (i : Int))), ?_⟩
      have e1 : ((c / 16 ^ i : Nat) : Int) / 16 = ((c / 16 ^ (i + 1) : Nat) : Int) := by
        rw [Nat.pow_succ, ← Nat.div_div_eq_div_mul]
        omega
      have e2 : (⟨#[fg (c / 16 ^ i % 16)]⟩ : Str) ++ S ((hex4 c).drop (4 - i)) = S ((hex4 c).drop (4 - (i + 1))) := by
        refine str_ext ?_
        rw [cps_append, cps_S, cps_S]
        have h4 : i = 0 ∨ i = 1 ∨ i = 2 ∨ i = 3 := by omega
        rcases h4 with rfl | rfl | rfl | rfl
        · rw [Nat.pow_zero, Nat.div_one]
          rfl
        · rfl
        · rfl
        · rfl
      rw [e1, e2]
      rfl
    · rintro σ H1 ⟨rfl, v2, rfl⟩
      wtm_at "wp"
      exact k
end
end K65

namespace K65
abbrev s_Torn___init__ : Stmt := inClass (topS 14) 0
theorem sc_Torn___init__ : FnScope ["self", "name"] ["self", "name"] (defScope s_Torn___init__) := ⟨rfl, rfl, rfl, by decide +kernel, rfl, by decide +kernel, by decide +kernel⟩
theorem xbi_Torn {P : Program} {w : World} {K : PySem.W.Frag} {mg : Str → Option Value} {base : Heap} {fI : Addr} {fd : FuncData} (F : Fun K "__init__" "Torn.__init__" s_Torn___init__ fI fd) (hm : mg "RuntimeError" = none) (vV : PySem.W.findCls K (.type "RuntimeError") (.type "type") "__init__" = some (.val (.builtin "RuntimeError.__init__"))) : FnOk P w K mg base CX0 1 fI fd ["self", "name"] (spXb "RuntimeError.__new__" [.type "RuntimeError", .type "Exception", .type "BaseException", .type "object"] K "name") :=
  ok_xbinit baseRT (fun_toD F) sc_Torn___init__ hm rfl typ_RT (by decide +kernel) (by decide +kernel) vV (by decide) rfl (.inl rfl) (.inl rfl) (fun _ _ _ => ⟨_, rfl⟩) (fun _ _ _ => rfl) (by decide) (by decide) (by decide)
end K65

namespace K65
abbrev s_whole_text : Stmt := topS 24
theorem sc_whole_text : FnScope ["rows", "head"] ["rows"] (defScope s_whole_text) := ⟨rfl, rfl, rfl, by decide +kernel, rfl, by decide +kernel, by decide +kernel⟩
abbrev s_rows_of : Stmt := topS 25
theorem sc_rows_of : FnScope ["text", "name", "head", "rows", "end"] ["text", "name"] (defScope s_rows_of) := ⟨rfl, rfl, rfl, by decide +kernel, rfl, by decide +kernel, by decide +kernel⟩
section
variable {P : Program} {w : World} {K : PySem.W.Frag} {mg : Str → Option Value} {base : Heap} {Z : Zs} {C_Broken C_Full C_Gone C_NoFile C_Torn : Addr}
/-- rows that a file may hold, and not too many signs -/
def okR (rows : List Str) : Prop := Rw rows ∧ (sgn rows).length ≤ 80000
theorem sgn_sum : ∀ rows : List Str, (rows.map (·.length)).sum + rows.length = (sgn rows).length
  | [] => rfl
  | r :: rs => by
    have h1 := sgn_sum rs
    have e : sgn (r :: rs) = r.cps.toList ++ ([10] ++ sgn rs) := by simp [sgn]
    rw [e, List.length_append, List.length_append, len_cps, ← h1, List.map_cons, List.sum_cons, List.length_cons]
    simp
    omega
theorem sgn_ge : ∀ {rows : List Str} {r : Str}, r ∈ rows → r.length + 1 ≤ (sgn rows).length
  | r :: rs, x, h => by
    have e : sgn (r :: rs) = r.cps.toList ++ ([10] ++ sgn rs) := by simp [sgn]
    rw [e, List.length_append, List.length_append, len_cps]
    rcases List.mem_cons.mp h with rfl | h
    · simp
    · have := sgn_ge h
      omega
theorem okR.row {rows : List Str} (h : okR rows) {r : Str} (hr : r ∈ rows) : r.length ≤ 80000 := by
  have := sgn_ge hr
  have := h.2
  omega
theorem wt_len {rows : List Str} (h : okR rows) : (wt rows).length ≤ 80010 := by
  have h1 := h.2
  unfold wt
  rw [len_S, List.length_append, List.length_append, hd_len h.1.1]
  simp
  omega
theorem w_decn {c A B : Prop} {dc : Decidable c} (h1 : c → B) (h2 : ¬ c → A) : if (!decide c) = true then A else B := by
  by_cases h : c
  · rw [if_neg (by simp [h])]
    exact h1 h
  · rw [if_pos (by simp [h])]
    exact h2 h
theorem sz2 {n : Nat} (h : n ≤ 16000000) : n ≤ sizeLine := Nat.le_trans h (by decide)
def spWt (K : PySem.W.Frag) : Sp := fun vs H Q _ => ∃ (a : Addr) (rows : List Str), vs = [.ref a] ∧ H a = some (.lst (rows.map V.str)) ∧ okR rows ∧ ∀ H', Same H H' → Q (.str (wt rows)) H'
theorem ok_wt {f : Addr} {fd : FuncData} (F : Fun K "whole_text" "whole_text" s_whole_text f fd) (T : Txt K mg Z C_Broken C_Full C_Gone C_NoFile C_Torn) (f_check_of : Fn P w K mg base "check_of" 1 ["rows"] (spCheck K)) (f_check_text : Fn P w K mg base "check_text" 1 ["check"] spCheckT) : FnOk P w K mg base CX0 2 f fd ["rows"] (spWt K) := by
  refine F.ok sc_whole_text (fun vs H Q E h => ?_) (fun cdv A outer s H vs Q E hr h => ?_)
  · obtain ⟨a, rows, rfl, _⟩ := h
    rfl
  · obtain ⟨a, rows, rfl, hS, hok, k⟩ := h
    have hl := hok.1.1
    have hl2 : (rows.map V.str).length = rows.length := List.length_map ..
    refine ⟨_, (pss_cons (ps_set (i := 1) sc_whole_text.nd rfl (.inl rfl) (pe_op op_addS (pe_op op_addS (pe_m1 PySem.F.slot_str_zfill PySem.F.type_str_zfill mt_zfillS (pe_callTy cl_str (by rfl) T.n_str PyProof.Rows.boot_str (pa_cons (pe_callB cl_len (by rfl) T.n_len PySem.boot_len (pa_cons (pv 0) pa_nil)) pa_nil)) (pe_gint T.c_MOST_FIGURES rfl)) pe_str) (pe_fn f_check_text (hr.mono (by omega)) rfl (pa_cons (pe_fn f_check_of (hr.mono (by omega)) rfl (pa_cons (pv 0) pa_nil)) pa_nil))))
 (pss_one (ps_ret (pe_op op_addS (pe_join pe_str (pe_op op_cat (pe_lst (pa_cons (pv 1) pa_nil)) (pv 0))) pe_str)))), ?_⟩
    wtm_at "w0"
    wtm_at "wp"
    rw [hl2]
    refine w_strI (by rw [Int.natAbs_natCast]; exact Nat.lt_of_le_of_lt hl (by decide +kernel)) ?_
    rw [num_S]
    wtm_at "wp"
    refine w_zfill (by decide +kernel) ?_
    rw [zfill_num]
    have l4 := zf_len hl
    have l1 : (":" : Str).length = 1 := rfl
    wtm_at "wp"
    refine w_addS (sz (by rw [len_S]; omega)) ?_
    wtm_at "wp"
    refine ⟨a, rows, rfl, .of hS, fun r hr => Nat.le_trans (hok.row hr) (by decide), ?_⟩
    wtm_at "wp"
    refine ⟨_, rfl, ?_⟩
    refine w_addS (sz ?_) ?_
    · rw [Str.length_append, len_S, len_S]
      have : (hex4 (chk 1 (sgn rows))).length = 4 := rfl
      omega
    have eh : S (zf rows.length) ++ (":" : Str) ++ S (hex4 (chk 1 (sgn rows))) = S (hdL rows) := str_ext (by
      rw [cps_append, cps_append]
      rfl)
    rw [eh]
    wtm_at "wp"
    rename_i p1 n1 H1 s1 h1 p2 H2 n2 s2 h2
    have e2 : (V.str (S (hdL rows)) :: rows.map V.str) = (S (hdL rows) :: rows).map V.str := rfl
    rw [e2] at h2
    have hsum : ((S (hdL rows) :: rows).map (·.length)).sum + rows.length ≤ 80009 := by
      have h1 := sgn_sum rows
      have h2 := hok.2
      rw [List.map_cons, List.sum_cons, len_S, hd_len hl]
      omega
    have ln : ("\n" : Str).length = 1 := rfl
    refine ⟨"\n", p2, _, rfl, rfl, .inl (.of h2), ?_, ?_⟩
    · rw [ln, List.length_cons]
      omega
    have ew : Txt.join "\n" (S (hdL rows) :: rows) ++ ("\n" : Str) = wt rows := str_ext (by
      rw [cps_append, txt_join]
      exact join_lines (S (hdL rows)) rows)
    wtm_at "wp"
    refine w_addS (sz2 ?_) ?_
    · have := wt_len hok
      rw [← ew, Str.length_append] at this
      omega
    rw [ew]
    exact k _ (s1.trans s2)
/-- a text of few signs below 128 -/
def Asc (t : Str) : Prop := t.length ≤ 80000 ∧ ∀ c ∈ t.cps.toList, c < 128
def spRows (K : PySem.W.Frag) (C : Addr) : Sp := fun vs H Q E => ∃ (t : Str) (v : V), vs = [.str t, v] ∧ Asc t ∧ (∀ rows, Rw rows → wt rows = t → ∀ p H', H p = none → Same H H' → H' p = some (.lst (rows.map V.str)) → Q (.ref p) H') ∧
  (¬ isWt t → ∀ d H', H d = none → Same H H' → H' d = some (.xd [("name", v)]) → E (.ref C) (some d) H')
theorem ok_rows {f : Addr} {fd : FuncData} {kws : List (Str × V)} (F : FunD K "rows_of" "rows_of" (defArgs s_rows_of) (defBody s_rows_of) (defScope s_rows_of) [] kws f fd) (T : Txt K mg Z C_Broken C_Full C_Gone C_NoFile C_Torn) (x1_Torn : Xcb "RuntimeError.__new__" [.type "RuntimeError", .type "Exception", .type "BaseException", .type "object"] P w K mg base "Torn" C_Torn 1 "name") (f_check_of : Fn P w K mg base "check_of" 1 ["rows"] (spCheck K)) (f_whole_text : Fn P w K mg base "whole_text" 2 ["rows"] (spWt K)) : FnOk P w K mg base (CXc P w) 3 f fd ["text", "name"] (spRows K C_Torn) := by
  refine F.ok sc_rows_of (fun vs H Q E h => ?_) (fun cdv A outer s H vs Q E hr h => ?_)
  · obtain ⟨t, v, rfl, _⟩ := h
    rfl
  · obtain ⟨t, v, rfl, ha, k, ke⟩ := h
    obtain ⟨hd, rs, es, hh, hrs, ec⟩ := cut_of t
    refine ⟨_, (pss_cons (ps_if (pt_cmpR op_eq (pe_m1 PySem.F.slot_str_count PySem.F.type_str_count mt_countS (pv 0) pe_str) pe_int (nomark _))
 (pss_one (ps_rse rfl takesY (pmk_xbN baseRT x1_Torn (hr.mono (by omega)) rfl (pa_cons (pv 1) pa_nil) monoV)))
 pss_nil)
 (pss_cons (ps_asg (pe_split (pv 0) pe_str) (pg_star (k := 1) (after := 0) rfl (pgs_cons (pg_name (i := 2) sc_rows_of.nd rfl (.inl rfl)) (pgs_star (pg_name (i := 3) sc_rows_of.nd rfl (.inl rfl)) pgs_nil))))
 (pss_cons (ps_set (i := 4) sc_rows_of.nd rfl (.inl rfl) (pe_bm0 PySem.F.plainAttrs_list PySem.F.slot_list_pop PySem.F.type_list_pop mt_pop (pv 3)))
 (pss_cons (ps_if (PW.pt (pw_or (pt_cmpR op_ne (pv 4) pe_str (nomark _)) (pw_or (pt_cmpR op_gt (pe_callB cl_len (by rfl) T.n_len PySem.boot_len (pa_cons (pv 3) pa_nil)) (pe_gint T.c_MOST_ROWS rfl) (nomark _)) (pw_or1 (pt_cmpR op_ne (pe_fn f_whole_text (hr.mono (by omega)) rfl (pa_cons (pv 3) pa_nil)) (pv 0) (nomark _))))))
 (pss_one (ps_rse rfl takesY (pmk_xbN baseRT x1_Torn (hr.mono (by omega)) rfl (pa_cons (pv 1) pa_nil) monoV)))
 pss_nil)
 (pss_cons (ps_if (pt_cmpR op_ne (pe_callTy cl_intHex (by rfl) T.n_int PyProof.Rows.boot_int (pa_cons (pe_ix ix_tup (pe_m1 PySem.F.slot_str_rpartition PySem.F.type_str_rpartition mt_rpartition (pv 2) pe_str) pe_int (fun _ _ => rfl)) (pa_cons pe_int pa_nil))) (pe_fn f_check_of (hr.mono (by omega)) rfl (pa_cons (pv 3) pa_nil)) (nomark _))
 (pss_one (ps_rse rfl takesY (pmk_xbN baseRT x1_Torn (hr.mono (by omega)) rfl (pa_cons (pv 1) pa_nil) monoV)))
 pss_nil)
 (pss_one (ps_ret (pv 3)))))))), ?_⟩
    wtm_at "w0"
    wtm_at "wp"
    refine w_countS ?_
    wtm_at "wp"
    have hcnt : Txt.count t ("\n" : Str) = (rs.length : Int) := by
      rw [show ("\n" : Str) = ⟨#[10]⟩ from rfl, PyProof.Rows.count_cnt, count10, ec, List.count_append, count_free hh, count_cut hrs, Nat.zero_add]
    rw [hcnt]
    refine w_dec (fun h0 => ?_) (fun h0 => ?_)
    · have h00 := V.int.inj h0
      refine ⟨v, rfl, v, rfl, fun d H1 nd s1 hd1 => ke ?_ d H1 nd s1 hd1⟩
      rintro ⟨rows, h1, rfl⟩
      rw [wt_split h1.2] at es
      have e2 := congrArg List.length (List.cons.inj es).2
      rw [List.length_append] at e2
      simp at e2
      omega
    have hrs0 : rs ≠ [] := fun z => h0 (by rw [z]; rfl)
    obtain ⟨rows, e, rfl⟩ : ∃ rows e, rs = rows ++ [e] := ⟨rs.dropLast, rs.getLast hrs0, (List.dropLast_concat_getLast hrs0).symm⟩
    have hR : ∀ r ∈ rows, 10 ∉ r.cps.toList := fun r hr => hrs r (List.mem_append_left _ hr)
    have hlen : hd.length + (sgn rows).length ≤ t.length := by
      rw [← len_cps t, ec, List.length_append, len_cps]
      have h2 : (sgn rows).length = ((rows.map fun r => 10 :: r.cps.toList).flatten).length := by
        unfold sgn
        rw [List.length_flatten, List.length_flatten, List.map_map, List.map_map]
        congr 1
        refine List.map_congr_left fun r _ => ?_
        show (r.cps.toList ++ [10]).length = (10 :: r.cps.toList).length
        simp
      rw [List.map_append, List.flatten_append, List.length_append, ← h2]
      omega
    wtm_at "wp"
    refine w_split rfl (Nat.le_trans (by have := ha.1; omega : t.length + 2 ≤ 1200000) (by decide)) (fun p1 H1 n1 s1 h1 => ?_)
    rw [es] at h1
    wtm_at "wp"
    refine ⟨p1, _, rfl, .inr (.of h1), by simp, fun p2 n2 => ?_⟩
    generalize eN : upd H1 p2 _ = H2
    have s2 := same_gen n2 eN
    have h2 := at_gen eN
    clear eN
    simp only [List.map_cons, List.map_append, List.map_nil, List.take_succ_cons, List.take_zero, List.drop_succ_cons, List.drop_zero, List.length_cons, List.length_append, List.length_nil, List.length_map, List.cons_append, List.nil_append, Nat.add_sub_cancel, Nat.sub_zero] at h2 ⊢
    rw [List.drop_of_length_le (by simp)]
    rw [List.take_of_length_le (by simp)] at h2
    wtm_at "wp"
    refine w_pop h2 (y := .str e) (by simp) (fun H3 k3 h3 => ?_)
    rw [List.dropLast_concat] at h3
    have S3 : Same H H3 := k3.same (s1.trans s2) (same_free s1 n2)
    have torn : ¬ isWt t → ∀ d H', H3 d = none → Same H3 H' → H' d = some (.xd [("name", v)]) → E (.ref C_Torn) (some d) H' := fun hw d H' nd s hd => ke hw d H' (same_free S3 nd) (S3.trans s) hd
    wtm_at "wp"
    have no0 : ∀ {P : Prop}, ¬ isWt t → (P → isWt t) → ¬ P := fun h1 h2 h3 => h1 (h2 h3)
    have isw : isWt t → e = ("" : Str) ∧ rows.length ≤ 9999 ∧ wt rows = t := by
      rintro ⟨rows', hq, rfl⟩
      rw [wt_split hq.2] at es
      have e2 := List.append_inj' (List.cons.inj es).2 rfl
      have e3 : rows' = rows := e2.1
      subst e3
      exact ⟨(List.cons.inj e2.2).1.symm, hq.1, rfl⟩
    refine w_decn (fun he => ?_) (fun he => ?_)
    rotate_left
    · wtm_at "wp"
      exact (fun d H4 nd s4 hd4 => torn (fun z => he (by rw [(isw z).1])) d H4 nd s4 hd4)
    wtm_at "wp"
    refine w_dec (fun hl => ?_) (fun hl => ?_)
    · wtm_at "wp"
      refine (fun d H4 nd s4 hd4 => torn (fun z => ?_) d H4 nd s4 hd4)
      have := (isw z).2.1
      rw [List.length_map] at hl
      omega
    rw [List.length_map] at hl
    have hRw : Rw rows := ⟨by omega, hR⟩
    have hok : okR rows := ⟨hRw, by have := ha.1; omega⟩
    wtm_at "wp"
    refine ⟨p2, rows, rfl, h3, hok, fun H4 s4 => ?_⟩
    have h4 := s4 _ _ h3
    wtm_at "wp"
    refine w_decn (fun hw => ?_) (fun hw => ?_)
    rotate_left
    · wtm_at "wp"
      exact (fun d H5 nd s5 hd5 => torn (fun z => hw (by rw [(isw z).2.2])) d H5 (same_free s4 nd) (s4.trans s5) hd5)
    have hw1 := V.str.inj hw
    subst hw1
    have ehd : hd = S (hdL rows) := by
      rw [wt_split hR] at es
      exact (List.cons.inj es).1.symm
    subst ehd
    wtm_at "wp"
    refine w_rpart rfl (sz (by rw [len_S, hd_len hRw.1]; omega)) (fun p5 H5 n5 s5 h5 => ?_)
    rw [hd_part] at h5
    wtm_at "wp"
    refine w_intHex (by simp [hex4]) (by simp [hex4]) hex4_hex ?_
    wtm_at "wp"
    refine ⟨p2, rows, rfl, .of (s5 _ _ h4), fun r hr => Nat.le_trans (hok.row hr) (by decide), ?_⟩
    wtm_at "wp"
    rw [hex4_num (Nat.lt_trans (chk_lt (by decide)) (by decide))]
    refine iteF' (by rw [decide_eq_true rfl]; rfl) ?_
    wtm_at "wp"
    exact k rows hRw rfl _ _ (same_free s1 n2) (S3.trans (s4.trans s5)) (s5 _ _ h4)
end
end K65

namespace K65
abbrev s_law_row : Stmt := topS 30
theorem sc_law_row : FnScope ["_law_purse_here", "_law_most", "_law_signs", "_law_k"] ["_law_purse_here", "_law_most"] (defScope s_law_row) := ⟨rfl, rfl, rfl, by decide +kernel, rfl, by decide +kernel, by decide +kernel⟩
abbrev s_law_check : Stmt := topS 31
theorem sc_law_check : FnScope ["_law_rows", "_law_told", "_law_sign", "_law_row_here"] ["_law_rows"] (defScope s_law_check) := ⟨rfl, rfl, rfl, by decide +kernel, rfl, by decide +kernel, by decide +kernel⟩
abbrev s_law_whole : Stmt := topS 32
theorem sc_law_whole : FnScope ["_law_rows", "_law_check_here", "_law_figures", "_law_turn", "_law_many", "_law_row_here"] ["_law_rows"] (defScope s_law_whole) := ⟨rfl, rfl, rfl, by decide +kernel, rfl, by decide +kernel, by decide +kernel⟩
section
variable {P : Program} {w : World} {K : PySem.W.Frag} {mg : Str → Option Value} {base : Heap} {Z : Zs} {C_Broken C_Full C_Gone C_NoFile C_Torn : Addr}
def rowS : Str := " !#$&'()*+,-./0123456789:;<=>?@ABCXYZ[]^_abcdefxyz{|}~"
theorem row_at {d : Int} (h0 : 0 ≤ d) (h : d < rowS.length) : ∃ c, atI rowS.cps.toList d = some c ∧ c ≠ 10 ∧ c < 128 := by
  obtain ⟨n, rfl⟩ := Int.eq_ofNat_of_zero_le h0
  have hl : rowS.cps.toList.length = rowS.length := len_cps _
  have hn : n < rowS.cps.toList.length := by omega
  have key : ∀ c ∈ rowS.cps.toList, c ≠ 10 ∧ c < 128 := by decide +kernel
  exact ⟨_, atI_nat (List.getElem?_eq_getElem hn), key _ (List.getElem_mem hn)⟩
def spRow : Sp := fun vs H Q _ => ∃ (p : Addr) (m n : Nat), vs = [.ref p, .int m] ∧ m ≤ 100 ∧ Pool H p n ∧ n ≤ 10 ^ 8 ∧ ∀ (x : Str) H', x.length ≤ m → 10 ∉ x.cps.toList → (∀ c ∈ x.cps.toList, c < 128) → KB p H H' → Pool H' p (n + 101) → Q (.str x) H'
theorem ok_row {f : Addr} {fd : FuncData} (F : Fun K "_law_row" "_law_row" s_law_row f fd) (T : Txt K mg Z C_Broken C_Full C_Gone C_NoFile C_Torn) (f__law_take : Fn P w K mg base "_law_take" 1 ["_law_purse_here", "_law_many"] spTake) : FnOk P w K mg base CX0 2 f fd ["_law_purse_here", "_law_most"] spRow := by
  refine F.ok sc_law_row (fun vs H Q E h => ?_) (fun cdv A outer s H vs Q E hr h => ?_)
  · obtain ⟨p, m, n, rfl, _⟩ := h
    rfl
  · obtain ⟨p, m, n, rfl, hm, hp, hn, k⟩ := h
    have hn' : n ≤ 100000000 := hn
    refine ⟨_, (pss_cons (ps_set (i := 2) sc_law_row.nd rfl (.inr rfl) pe_str)
 (pss_one (ps_ret (pe_join pe_str (pe_lc (own := [("_law_k", 3)]) (g := gName 3) (tt := tYes) rfl sc_law_row.nd (pi_range1 (by rfl) T.n_range (pa_cons (pe_fn f__law_take (hr.mono (by omega)) rfl (pa_cons (pv 0) (pa_cons (pe_op op_add (pv 1) pe_int) pa_nil))) pa_nil)) (blkOk_by (own := [("_law_k", 3)]) (N := ["_law_purse_here", "_law_most", "_law_signs", "_law_k"]) (sc := defScope s_law_row) (by decide +kernel)) (fun _ _ _ _ _ => pg_name (i := 3) sc_law_row.nd rfl (Or.inl rfl)) (fun _ _ _ _ _ => pts_nil) (fun _ _ _ _ _ => (pe_ix ix_str (pv 2) (pe_fn f__law_take (hr.mono (by omega)) rfl (pa_cons (pv 0) (pa_cons (pe_callB (show CallR _ _ (Bw.rLen K) from cl_len) (by rfl) T.n_len PySem.boot_len (pa_cons (pv 2) pa_nil)) pa_nil))) (fun _ _ => rfl)))))))), ?_⟩
    wtm_at "w0"
    wtm_at "wp"
    refine ⟨p, _, n, rfl, hp, by omega, by omega, by omega, fun d H1 d0 d1 k1 p1 => ?_⟩
    wtm_at "wp"
    refine ⟨_, rfl, by omega, by omega, ?_⟩
    refine lc_fin (n := d.toNat) fin_rng (fun i acc H' => KB p H1 H' ∧ Pool H' p (n + 1 + i) ∧ ∃ cs : List Nat, acc = cs.map (fun c => V.str ⟨#[c]⟩) ∧ cs.length = i ∧ 10 ∉ cs ∧ ∀ c ∈ cs, c < 128) (fun D H2 nD s2 hD => ⟨KB.of s2, p1.mono s2 (by omega), [], rfl, rfl, by simp, by simp⟩) (fun _ _ _ _ _ => trivial) ?_ ?_
    · rintro D i v acc H3 H4 nD hi ha ⟨k3, p3, cs, rfl, hcl, hcs, hcx⟩ hD ⟨rfl, rfl⟩
      wtm_at "wp"
      refine ⟨rfl, ?_⟩
      wtm_at "wp"
      refine w_lenS (by decide +kernel) ?_
      wtm_at "wp"
      have nDp : D ≠ p := fun z => by rw [z, p1.at.choose_spec] at nD; cases nD
      refine ⟨p, _, _, rfl, p3, by omega, by decide, by decide, fun d5 H5 d50 d51 k5 p5 => ?_⟩
      obtain ⟨c, hat, hc, hcc⟩ := row_at d50 d51
      refine w_ixS (by decide +kernel) hat ?_
      refine w_acc (k5 _ _ hD nDp) ha hi (sz (by omega)) (fun H6 k6 h6 => ⟨kb2 (k3.trans k5) k6 nD, p5.kb k6 nDp.symm, cs ++ [c], by simp, by simp [hcl], by simp [hcs, Ne.symm hc], fun x hx => by
        rcases List.mem_append.mp hx with hx | hx
        · exact hcx x hx
        · rw [List.mem_singleton.mp hx]
          exact hcc⟩)
    · rintro D acc H3 nD ⟨k3, p3, cs, rfl, hcl, hcs, hcx⟩ ha hD
      have e1 : (cs.map fun c => V.str ⟨#[c]⟩) = (cs.map fun c => (⟨#[c]⟩ : Str)).map V.str := by simp
      have hlen := sum_ones cs
      have l0 : ("" : Str).length = 0 := rfl
      wtm_at "wp"
      refine ⟨"", D, _, rfl, rfl, .inl (.of (e1 ▸ hD)), by rw [hlen, l0]; omega, ?_⟩
      have e2 := join_ones cs
      refine k _ _ ?_ (by rw [e2]; exact hcs) (by rw [e2]; exact hcx) (k1.trans k3) (p3.mono (.refl _) (by omega))
      rw [← len_cps, e2]
      omega
/-- rows as the law reckons with them -/
def okW (rows : List Str) : Prop := rows.length ≤ 10000 ∧ (sgn rows).length ≤ 80000
theorem okW.row {rows : List Str} (h : okW rows) {r : Str} (hr : r ∈ rows) : r.length ≤ 80000 := by
  have := sgn_ge hr
  have := h.2
  omega
theorem okR.wid {rows : List Str} (h : okR rows) : okW rows := ⟨Nat.le_trans h.1.1 (by decide), h.2⟩
def spCheckL (K : PySem.W.Frag) : Sp := fun vs H Q _ => ∃ (a : Addr) (rows : List Str), vs = [.ref a] ∧ SqL K H a (rows.map V.str) ∧ okW rows ∧ ∀ H', Same H H' → Q (.int (chk 1 (sgn rows))) H'
theorem sgn_join (rows : List Str) : (Txt.join "" (rows.map fun r => r ++ ("\n" : Str))).cps.toList = sgn rows := by
  rw [txt_join, join_empty, List.map_map]
  unfold sgn
  congr 1
  refine List.map_congr_left fun r _ => ?_
  show (r ++ ("\n" : Str)).cps.toList = _
  rw [cps_append]
  rfl
theorem sum_lines {rows : List Str} (h : okW rows) : ((rows.map fun r => r ++ ("\n" : Str)).map (·.length)).sum ≤ 80000 := by
  have e : ((rows.map fun r => r ++ ("\n" : Str)).map (·.length)).sum = (rows.map (·.length)).sum + rows.length := by
    clear h
    induction rows with
    | nil => rfl
    | cons r rs ih =>
      simp only [List.map_cons, List.sum_cons, List.length_cons] at ih ⊢
      rw [ih, Str.length_append]
      have l1 : ("\n" : Str).length = 1 := rfl
      omega
  rw [e, sgn_sum]
  exact h.2
theorem num5 {n : Nat} (h : n ≤ 10000) : (TL.numL n).length ≤ 5 := TL.numL_len (by decide) (by omega)
theorem zf5 {n : Nat} (h : n ≤ 10000) : (zf n).length ≤ 5 := by
  have := num5 h
  unfold zf
  rw [List.length_append, List.length_replicate]
  omega
theorem mul5 {k : Nat} (h : k ≤ 5) : Txt.mul "0" ((4 : Int) - (k : Int)) = S (List.replicate (4 - k) 48) := by
  have hk : k = 0 ∨ k = 1 ∨ k = 2 ∨ k = 3 ∨ k = 4 ∨ k = 5 := by omega
  rcases hk with rfl | rfl | rfl | rfl | rfl | rfl <;> decide +kernel
theorem ok_checkL {f : Addr} {fd : FuncData} (F : Fun K "_law_check" "_law_check" s_law_check f fd) (T : Txt K mg Z C_Broken C_Full C_Gone C_NoFile C_Torn) : FnOk P w K mg base CX0 1 f fd ["_law_rows"] (spCheckL K) := by
  refine F.ok sc_law_check (fun vs H Q E h => ?_) (fun cdv A outer s H vs Q E hr h => ?_)
  · obtain ⟨a, rows, rfl, _⟩ := h
    rfl
  · obtain ⟨a, rows, rfl, hS, hok, k⟩ := h
    have hl := hok.1
    have l0 : ("" : Str).length = 0 := rfl
    have l1 : ("\n" : Str).length = 1 := rfl
    refine ⟨_, (pss_cons (ps_set (i := 1) sc_law_check.nd rfl (.inl rfl) pe_int)
 (pss_cons (ps_for PassesOwn.never rfl (pi_str (pe_join pe_str (pe_lc (own := [("_law_row_here", 3)]) (g := gName 3) (tt := tYes) rfl sc_law_check.nd (show PI _ _ _ (iList K _) from (pi_list (pv 0))) (blkOk_by (own := [("_law_row_here", 3)]) (N := ["_law_rows", "_law_told", "_law_sign", "_law_row_here"]) (sc := defScope s_law_check) (by decide +kernel)) (fun _ _ _ _ _ => pg_name (i := 3) sc_law_check.nd rfl (Or.inl rfl)) (fun _ _ _ _ _ => pts_nil) (fun _ _ _ _ _ => (pe_op op_addS (pv 3) pe_str))))) (pg_name (i := 2) sc_law_check.nd rfl (.inl rfl))
 (pss_one (ps_set (i := 1) sc_law_check.nd rfl (.inl rfl) (pe_op op_mod (pe_op op_add (pe_op op_mulU pe_int (pv 1)) (pe_callB cl_ord (by rfl) T.n_ord PyProof.Rows.boot_ord (pa_cons (pv 2) pa_nil))) pe_int))))
 (pss_one (ps_ret (pv 1))))), ?_⟩
    wtm_at "w0"
    wtm_at "wp"
    refine lc_fin (fin_list (xs := rows.map V.str)) (fun i acc H' => Same H H' ∧ acc = ((rows.take i).map fun r => r ++ ("\n" : Str)).map V.str) (fun D H2 nD s2 hD => ⟨s2, rfl⟩) (fun i acc H2 _ h => Same.seq h.1 hS) ?_ ?_
    · rintro D i v acc H3 H4 nD hi ha ⟨s3, e3⟩ hD ⟨rfl, hv⟩
      rw [List.getElem?_map] at hv
      obtain ⟨y, hxw, rfl⟩ := Option.map_eq_some_iff.mp hv
      have hy := hok.row (List.mem_of_getElem? hxw)
      wtm_at "wp"
      refine ⟨rfl, ?_⟩
      wtm_at "wp"
      refine w_addS (sz (by omega)) ?_
      refine w_acc hD ha hi (sz (by rw [List.length_map]; omega)) (fun H6 k6 h6 => ⟨k6.same s3 nD, ?_⟩)
      rw [e3, take_succL hxw]
      simp
    · rintro D acc H3 nD ⟨s3, e3⟩ ha hD
      rw [List.length_map, List.take_length] at e3
      have hsum := sum_lines hok
      wtm_at "wp"
      refine ⟨"", D, _, rfl, rfl, .inl (.of (e3 ▸ hD)), by rw [l0]; omega, ?_⟩
      have e4 := sgn_join rows
      generalize Txt.join "" (rows.map fun r => r ++ ("\n" : Str)) = z at *
      refine ⟨_, rfl, ?_⟩
      refine for_fin (fin_str (x := z)) (fun j σ H' => H' = H3 ∧ ∃ (v2 v3 : Option V), σ = [some (.ref a), some (.int (chk 1 (z.cps.toList.take j))), v2, v3]) ⟨rfl, _, _, rfl⟩ (fun _ _ _ _ _ => trivial) ?_ ?_
      · rintro j y σ H4 H4' hj ⟨rfl, w2, w3, rfl⟩ ⟨rfl, c, hc, rfl⟩
        wtm_at "wp"
        refine ⟨_, rfl, rfl, ?_⟩
        wtm_at "wp"
        refine ⟨rfl, some (.str ⟨#[c]⟩), w3, ?_⟩
        rw [take_succ hc]
        have e1 : chk 1 (z.cps.toList.take j ++ [c]) = (31 * chk 1 (z.cps.toList.take j) + c) % 65521 := by
          unfold chk
          rw [List.foldl_append, Nat.mul_comm]
          rfl
        rw [e1]
        rfl
      · rintro σ H4 ⟨rfl, w2, w3, rfl⟩
        rw [take_size, e4]
        wtm_at "wp"
        exact k _ s3
def spWhole (K : PySem.W.Frag) : Sp := fun vs H Q _ => ∃ (a : Addr) (rows : List Str), vs = [.ref a] ∧ SqL K H a (rows.map V.str) ∧ okW rows ∧ ∀ H', Same H H' → Q (.str (wt rows)) H'
theorem ok_whole {f : Addr} {fd : FuncData} (F : Fun K "_law_whole" "_law_whole" s_law_whole f fd) (T : Txt K mg Z C_Broken C_Full C_Gone C_NoFile C_Torn) (f__law_check : Fn P w K mg base "_law_check" 1 ["_law_rows"] (spCheckL K)) : FnOk P w K mg base CX0 2 f fd ["_law_rows"] (spWhole K) := by
  refine F.ok sc_law_whole (fun vs H Q E h => ?_) (fun cdv A outer s H vs Q E hr h => ?_)
  · obtain ⟨a, rows, rfl, _⟩ := h
    rfl
  · obtain ⟨a, rows, rfl, hS, hok, k⟩ := h
    have hl := hok.1
    have l0 : ("" : Str).length = 0 := rfl
    have l1 : ("\n" : Str).length = 1 := rfl
    have l2 : (":" : Str).length = 1 := rfl
    have hl2 : (rows.map V.str).length = rows.length := List.length_map ..
    refine ⟨_, (pss_cons (ps_set (i := 1) sc_law_whole.nd rfl (.inl rfl) (pe_fn f__law_check (hr.mono (by omega)) rfl (pa_cons (pv 0) pa_nil)))
 (pss_cons (ps_set (i := 2) sc_law_whole.nd rfl (.inl rfl) pe_str)
 (pss_cons (ps_for PassesOwn.never rfl (pi_range1 (by rfl) T.n_range (pa_cons pe_int pa_nil)) (pg_name (i := 3) sc_law_whole.nd rfl (.inl rfl))
 (pss_cons (ps_set (i := 2) sc_law_whole.nd rfl (.inl rfl) (pe_op op_addS (pe_ix ix_str pe_str (pe_op op_mod (pv 1) pe_int) (fun _ _ => rfl)) (pv 2)))
 (pss_one (ps_set (i := 1) sc_law_whole.nd rfl (.inl rfl) (pe_op op_fdivU (pv 1) pe_int)))))
 (pss_cons (ps_set (i := 4) sc_law_whole.nd rfl (.inl rfl) (pe_callTy cl_str (by rfl) T.n_str PyProof.Rows.boot_str (pa_cons (pe_callB cl_len (by rfl) T.n_len PySem.boot_len (pa_cons (pv 0) pa_nil)) pa_nil)))
 (pss_one (ps_ret (pe_op op_addS (pe_op op_addS (pe_op op_addS (pe_op op_addS (pe_op op_addS (pe_op op_repS pe_str (pe_op op_sub pe_int (pe_callB cl_len (by rfl) T.n_len PySem.boot_len (pa_cons (pv 4) pa_nil)))) (pv 4)) pe_str) (pv 2)) pe_str) (pe_join pe_str (pe_lc (own := [("_law_row_here", 5)]) (g := gName 5) (tt := tYes) rfl sc_law_whole.nd (show PI _ _ _ (iList K _) from (pi_list (pv 0))) (blkOk_by (own := [("_law_row_here", 5)]) (N := ["_law_rows", "_law_check_here", "_law_figures", "_law_turn", "_law_many", "_law_row_here"]) (sc := defScope s_law_whole) (by decide +kernel)) (fun _ _ _ _ _ => pg_name (i := 5) sc_law_whole.nd rfl (Or.inl rfl)) (fun _ _ _ _ _ => pts_nil) (fun _ _ _ _ _ => (pe_op op_addS (pv 5) pe_str))))))))))), ?_⟩
    wtm_at "w0"
    wtm_at "wp"
    refine ⟨a, rows, rfl, hS, hok, fun H1 s1 => ?_⟩
    wtm_at "wp"
    refine ⟨4, rfl, by decide, by decide, ?_⟩
    generalize ec : chk 1 (sgn rows) = c at *
    refine for_fin (n := 4) fin_rng (fun i σ H' => H' = H1 ∧ ∃ v3 v4 v5 : Option V, σ = [some (.ref a), some (.int (c / 16 ^ i : Nat)), some (.str (S ((hex4 c).drop (4 - i)))), v3, v4, v5]) ⟨rfl, none, none, none, by rw [Nat.pow_zero, Nat.div_one]; rfl⟩ (fun _ _ _ _ _ => trivial) ?_ ?_
    · rintro i x σ H2 H2' hi ⟨rfl, v3, v4, v5, rfl⟩ ⟨rfl, rfl⟩
      wtm_at "wp"
      have hat := fig_at (c / 16 ^ i % 16) (Nat.mod_lt _ (by decide))
      refine w_ixS (c := fg (c / 16 ^ i % 16)) (by decide +kernel) hat ?_
      wtm_at "wp"
      refine w_addS (sz ?_) ?_
      · rw [len_S, List.length_drop]
        have : (⟨#[fg (c / 16 ^ i % 16)]⟩ : Str).length = 1 := rfl
        have : (hex4 c).length = 4 := rfl
        omega
      wtm_at "wp"
      refine ⟨rfl, some (.int (0 + (i : Int))), v4, v5, ?_⟩
      have e1 : (((c / 16 ^ i : Nat) : Int)).fdiv 16 = ((c / 16 ^ (i + 1) : Nat) : Int) := by
        rw [Nat.pow_succ, ← Nat.div_div_eq_div_mul, Int.fdiv_eq_ediv_of_nonneg _ (by decide)]
        omega
      have e2 : (⟨#[fg (c / 16 ^ i % 16)]⟩ : Str) ++ S ((hex4 c).drop (4 - i)) = S ((hex4 c).drop (4 - (i + 1))) := by
        refine str_ext ?_
        rw [cps_append, cps_S, cps_S]
        have h4 : i = 0 ∨ i = 1 ∨ i = 2 ∨ i = 3 := by omega
        rcases h4 with rfl | rfl | rfl | rfl
        · rw [Nat.pow_zero, Nat.div_one]
          rfl
        · rfl
        · rfl
        · rfl
      rw [e1, e2]
      rfl
    · rintro σ H2 ⟨rfl, v3, v4, v5, rfl⟩
      have hS2 := Same.seq s1 hS
      wtm_at "wp"
      rw [hl2]
      refine w_strI (by rw [Int.natAbs_natCast]; exact Nat.lt_of_le_of_lt hl (by decide +kernel)) ?_
      rw [num_S]
      have n4 := num5 hl
      wtm_at "wp"
      refine w_lenS (sz (by rw [len_S]; omega)) ?_
      rw [len_S]
      wtm_at "wp"
      refine w_repS (mul_zero_ok (by omega) (by omega)) ?_
      rw [mul5 n4]
      wtm_at "wp"
      have lz := zf5 hl
      have ez : S (List.replicate (4 - (TL.numL rows.length).length) 48) ++ S (TL.numL rows.length) = S (zf rows.length) := str_ext (cps_append _ _)
      refine w_addS (sz (by rw [len_S, len_S, List.length_replicate]; omega)) ?_
      rw [ez]
      wtm_at "wp"
      refine w_addS (sz (by rw [len_S]; omega)) ?_
      wtm_at "wp"
      refine w_addS (sz ?_) ?_
      · rw [Str.length_append, len_S, len_S]
        have : ((hex4 c).drop (4 - 4)).length = 4 := rfl
        omega
      have eh : S (zf rows.length) ++ (":" : Str) ++ S ((hex4 c).drop (4 - 4)) = S (hdL rows) := str_ext (by
        rw [cps_append, cps_append]
        unfold hdL
        rw [ec]
        rfl)
      rw [eh]
      have hdl : (hdL rows).length ≤ 10 := by
        unfold hdL
        rw [List.length_append, List.length_append]
        have : (hex4 (chk 1 (sgn rows))).length = 4 := rfl
        simp only [List.length_cons, List.length_nil]
        omega
      wtm_at "wp"
      refine w_addS (sz (by rw [len_S]; omega)) ?_
      wtm_at "wp"
      refine lc_fin (fin_list (xs := rows.map V.str)) (fun i acc H' => Same H2 H' ∧ acc = ((rows.take i).map fun r => r ++ ("\n" : Str)).map V.str) (fun D H2 nD s2 hD => ⟨s2, rfl⟩) (fun i acc H2 _ h => Same.seq h.1 hS2) ?_ ?_
      · rintro D i v acc H3 H4 nD hi ha ⟨s3, e3⟩ hD ⟨rfl, hv⟩
        rw [List.getElem?_map] at hv
        obtain ⟨y, hxw, rfl⟩ := Option.map_eq_some_iff.mp hv
        have hy := hok.row (List.mem_of_getElem? hxw)
        wtm_at "wp"
        refine ⟨rfl, ?_⟩
        wtm_at "wp"
        refine w_addS (sz (by omega)) ?_
        refine w_acc hD ha hi (sz (by rw [List.length_map]; omega)) (fun H6 k6 h6 => ⟨k6.same s3 nD, ?_⟩)
        rw [e3, take_succL hxw]
        simp
      · rintro D acc H3 nD ⟨s3, e3⟩ ha hD
        rw [List.length_map, List.take_length] at e3
        have hsum := sum_lines hok
        wtm_at "wp"
        refine ⟨"", D, _, rfl, rfl, .inl (.of (e3 ▸ hD)), by rw [l0]; omega, ?_⟩
        have e5 := sgn_join rows
        have ew : S (hdL rows) ++ ("\n" : Str) ++ Txt.join "" (rows.map fun r => r ++ ("\n" : Str)) = wt rows := str_ext (by
          rw [cps_append, cps_append, e5]
          rfl)
        refine w_addS (sz2 ?_) ?_
        · have h2 := hok.2
          have l1 : ("\n" : Str).length = 1 := rfl
          have h3 : (Txt.join "" (rows.map fun r => r ++ ("\n" : Str))).length = (sgn rows).length := by rw [← len_cps, e5]
          rw [Str.length_append, len_S, h3]
          omega
        rw [ew]
        exact k _ (s1.trans s3)
end
end K65

namespace K65
abbrev s_law_kind : Stmt := topS 29
theorem sc_law_kind : FnScope ["_law_e", "_law_names", "_law_some", "_law_label", "_law_bases", "_law_due_here", "_law_sign"] ["_law_e"] (defScope s_law_kind) := ⟨rfl, rfl, rfl, by decide +kernel, rfl, by decide +kernel, by decide +kernel⟩
section
variable {P : Program} {w : World} {K : PySem.W.Frag} {mg : Str → Option Value} {base : Heap} {Z : Zs} {C_Broken C_Full C_Gone C_NoFile C_Torn : Addr}
theorem ok_kind2 {f : Addr} {fd : FuncData} (F : Fun K "_law_kind" "_law_kind" s_law_kind f fd) (T : Txt K mg Z C_Broken C_Full C_Gone C_NoFile C_Torn) : FnQ0 P w K mg base 1 f fd ["_law_e"] (spKind2 K [C_Broken, C_Full, C_Gone, Z.NoDeed, C_NoFile, Z.NoName, Z.NoNumber, Z.NoPages, Z.NoQuery, Z.NoShelf, Z.NoSize, Z.NoSlot, Z.NoText, Z.Taken, C_Torn] Z.Wrong) := by
  refine Fun_okQ F sc_law_kind (fun p vs H Q h => ?_) (fun cdv A outer s H vs Q p pl hot0 hr h => ?_)
  · obtain ⟨D, d, i, nm, rfl, _⟩ := h
    rfl
  · obtain ⟨a, oe⟩ := p
    obtain ⟨D, d, i, nm, rfl, hz, hf, hk, hx, hn, k⟩ := h
    have hE := hk.ex
    have k0 := hk.is 0 _ rfl
    have k1 := hk.is 1 _ rfl
    have k2 := hk.is 2 _ rfl
    have k3 := hk.is 3 _ rfl
    have k4 := hk.is 4 _ rfl
    have k5 := hk.is 5 _ rfl
    have k6 := hk.is 6 _ rfl
    have k7 := hk.is 7 _ rfl
    have k8 := hk.is 8 _ rfl
    have k9 := hk.is 9 _ rfl
    have k10 := hk.is 10 _ rfl
    have k11 := hk.is 11 _ rfl
    have k12 := hk.is 12 _ rfl
    have k13 := hk.is 13 _ rfl
    have k14 := hk.is 14 _ rfl
    have kw := hk.w
    have kr := hk.r
    have ko := hk.o
    have kk := hk.k
    have kl := hk.l
    have kv := hk.v
    have hi : i < 15 := kind2_lt hn
    have hm : (a, oe) ∈ pl := hot0.mem
    have hot := hotD_of (CX := CX0) (P := P) (w := w) (K := K) (mg := mg) (base := base) (N := ["_law_e", "_law_names", "_law_some", "_law_label", "_law_bases", "_law_due_here", "_law_sign"]) (qual := "_law_kind") (scope := defScope s_law_kind) (f := f) (cd := cdv) (A := A) (outer := outer) (s := s) (H := H) (E := E0) hot0
    refine ⟨_, (pss_cons (ps_set (i := 1) sc_law_kind.nd rfl (.inl rfl) (pe_lst (pa_cons pe_str (pa_cons pe_str (pa_cons pe_str (pa_cons pe_str (pa_cons pe_str (pa_cons pe_str (pa_cons pe_str (pa_cons pe_str (pa_cons pe_str (pa_cons pe_str pa_nil))))))))))))
 (pss_cons (ps_set (i := 1) sc_law_kind.nd rfl (.inl rfl) (pe_op op_cat (pv 1) (pe_lst (pa_cons pe_str (pa_cons pe_str (pa_cons pe_str (pa_cons pe_str (pa_cons pe_str pa_nil))))))))
 (pss_cons (ps_set (i := 2) sc_law_kind.nd rfl (.inl rfl) (pe_lst (pa_cons (pe_callB (call_isP (a := a) (oe := oe) hm hz hf) (by rfl) T.n_isinstance PyProof.Rows.boot_isinstance (pa_cons (pv 0) (pa_cons (pe_gcls T.m_Broken rfl) pa_nil))) (pa_cons (pe_callB (call_isP (a := a) (oe := oe) hm hz hf) (by rfl) T.n_isinstance PyProof.Rows.boot_isinstance (pa_cons (pv 0) (pa_cons (pe_gcls T.m_Full rfl) pa_nil))) (pa_cons (pe_callB (call_isP (a := a) (oe := oe) hm hz hf) (by rfl) T.n_isinstance PyProof.Rows.boot_isinstance (pa_cons (pv 0) (pa_cons (pe_gcls T.m_Gone rfl) pa_nil))) (pa_cons (pe_callB (call_isP (a := a) (oe := oe) hm hz hf) (by rfl) T.n_isinstance PyProof.Rows.boot_isinstance (pa_cons (pv 0) (pa_cons (pe_gcls T.m_NoDeed rfl) pa_nil))) pa_nil))))))
 (pss_cons (ps_set (i := 2) sc_law_kind.nd rfl (.inl rfl) (pe_op op_cat (pv 2) (pe_lst (pa_cons (pe_callB (call_isP (a := a) (oe := oe) hm hz hf) (by rfl) T.n_isinstance PyProof.Rows.boot_isinstance (pa_cons (pv 0) (pa_cons (pe_gcls T.m_NoFile rfl) pa_nil))) (pa_cons (pe_callB (call_isP (a := a) (oe := oe) hm hz hf) (by rfl) T.n_isinstance PyProof.Rows.boot_isinstance (pa_cons (pv 0) (pa_cons (pe_gcls T.m_NoName rfl) pa_nil))) (pa_cons (pe_callB (call_isP (a := a) (oe := oe) hm hz hf) (by rfl) T.n_isinstance PyProof.Rows.boot_isinstance (pa_cons (pv 0) (pa_cons (pe_gcls T.m_NoNumber rfl) pa_nil))) (pa_cons (pe_callB (call_isP (a := a) (oe := oe) hm hz hf) (by rfl) T.n_isinstance PyProof.Rows.boot_isinstance (pa_cons (pv 0) (pa_cons (pe_gcls T.m_NoPages rfl) pa_nil))) pa_nil)))))))
 (pss_cons (ps_set (i := 2) sc_law_kind.nd rfl (.inl rfl) (pe_op op_cat (pv 2) (pe_lst (pa_cons (pe_callB (call_isP (a := a) (oe := oe) hm hz hf) (by rfl) T.n_isinstance PyProof.Rows.boot_isinstance (pa_cons (pv 0) (pa_cons (pe_gcls T.m_NoQuery rfl) pa_nil))) (pa_cons (pe_callB (call_isP (a := a) (oe := oe) hm hz hf) (by rfl) T.n_isinstance PyProof.Rows.boot_isinstance (pa_cons (pv 0) (pa_cons (pe_gcls T.m_NoShelf rfl) pa_nil))) (pa_cons (pe_callB (call_isP (a := a) (oe := oe) hm hz hf) (by rfl) T.n_isinstance PyProof.Rows.boot_isinstance (pa_cons (pv 0) (pa_cons (pe_gcls T.m_NoSize rfl) pa_nil))) (pa_cons (pe_callB (call_isP (a := a) (oe := oe) hm hz hf) (by rfl) T.n_isinstance PyProof.Rows.boot_isinstance (pa_cons (pv 0) (pa_cons (pe_gcls T.m_NoSlot rfl) pa_nil))) pa_nil)))))))
 (pss_cons (ps_set (i := 2) sc_law_kind.nd rfl (.inl rfl) (pe_op op_cat (pv 2) (pe_lst (pa_cons (pe_callB (call_isP (a := a) (oe := oe) hm hz hf) (by rfl) T.n_isinstance PyProof.Rows.boot_isinstance (pa_cons (pv 0) (pa_cons (pe_gcls T.m_NoText rfl) pa_nil))) (pa_cons (pe_callB (call_isP (a := a) (oe := oe) hm hz hf) (by rfl) T.n_isinstance PyProof.Rows.boot_isinstance (pa_cons (pv 0) (pa_cons (pe_gcls T.m_Taken rfl) pa_nil))) (pa_cons (pe_callB (call_isP (a := a) (oe := oe) hm hz hf) (by rfl) T.n_isinstance PyProof.Rows.boot_isinstance (pa_cons (pv 0) (pa_cons (pe_gcls T.m_Torn rfl) pa_nil))) pa_nil))))))
 (pss_cons (ps_if (pt_cmpR op_ne (pe_bm PySem.F.plainAttrs_list PySem.F.slot_list_count PySem.F.type_list_count (mt_countD (huH hr)) (pv 2) (pa_cons pe_bl pa_nil)) pe_int (nomark _))
 (pss_one (ps_ret pe_str))
 pss_nil)
 (pss_cons (ps_set (i := 3) sc_law_kind.nd rfl (.inl rfl) (pe_ix ix_list (pv 1) (pe_bm PySem.F.plainAttrs_list PySem.F.slot_list_index PySem.F.type_list_index (mt_indexD (huH hr)) (pv 2) (pa_cons pe_bl pa_nil)) (fun _ _ => rfl)))
 (pss_cons (ps_set (i := 4) sc_law_kind.nd rfl (.inl rfl) (pe_lst (pa_cons (pe_callB (call_isP (a := a) (oe := oe) hm hz hf) (by rfl) T.n_isinstance PyProof.Rows.boot_isinstance (pa_cons (pv 0) (pa_cons (pe_gcls T.m_Wrong rfl) pa_nil))) (pa_cons (pe_callB (call_isP (a := a) (oe := oe) hm hz hf) (by rfl) T.n_isinstance PyProof.Rows.boot_isinstance (pa_cons (pv 0) (pa_cons (pe_bltn (v := .ty "RuntimeError") (by rfl) T.n_RuntimeError PyProof.Rows.Boot.«RuntimeError» rfl) pa_nil))) (pa_cons (pe_callB (call_isP (a := a) (oe := oe) hm hz hf) (by rfl) T.n_isinstance PyProof.Rows.boot_isinstance (pa_cons (pv 0) (pa_cons (pe_bltn (v := .ty "OverflowError") (by rfl) T.n_OverflowError PyProof.Rows.Boot.«OverflowError» rfl) pa_nil))) (pa_cons (pe_callB (call_isP (a := a) (oe := oe) hm hz hf) (by rfl) T.n_isinstance PyProof.Rows.boot_isinstance (pa_cons (pv 0) (pa_cons (pe_bltn (v := .ty "KeyError") (by rfl) T.n_KeyError PyProof.Rows.Boot.«KeyError» rfl) pa_nil))) pa_nil))))))
 (pss_cons (ps_set (i := 4) sc_law_kind.nd rfl (.inl rfl) (pe_op op_cat (pv 4) (pe_lst (pa_cons (pe_callB (call_isP (a := a) (oe := oe) hm hz hf) (by rfl) T.n_isinstance PyProof.Rows.boot_isinstance (pa_cons (pv 0) (pa_cons (pe_bltn (v := .ty "LookupError") (by rfl) T.n_LookupError PyProof.Rows.Boot.«LookupError» rfl) pa_nil))) (pa_cons (pe_callB (call_isP (a := a) (oe := oe) hm hz hf) (by rfl) T.n_isinstance PyProof.Rows.boot_isinstance (pa_cons (pv 0) (pa_cons (pe_bltn (v := .ty "ValueError") (by rfl) T.n_ValueError PyProof.Rows.Boot.«ValueError» rfl) pa_nil))) pa_nil)))))
 (pss_cons (ps_set (i := 5) sc_law_kind.nd rfl (.inr rfl) (pe_dget2 (u1H hr) (pe_disp (pps_cons pe_str pe_str (pps_cons pe_str pe_str (pps_cons pe_str pe_str (pps_cons pe_str pe_str (pps_cons pe_str pe_str (pps_cons pe_str pe_str pps_nil)))))) rfl rfl (by simp) (by decide)) (pv 3) pe_str ⟨rfl, rfl, rfl, rfl⟩))
 (pss_cons (ps_if (pt_cmpR (op_neD (Nat.lt_of_le_of_lt (Nat.le_succ _) (huH hr))) (pv 4) (pe_lcK (own := [("_law_sign", 6)]) (g := gName 6) (tt := tYes) hot sc_law_kind.nd (pi_strK pe_str) (blkOk_by (own := [("_law_sign", 6)]) (N := ["_law_e", "_law_names", "_law_some", "_law_label", "_law_bases", "_law_due_here", "_law_sign"]) (sc := defScope s_law_kind) (by decide +kernel)) (fun _ _ _ _ _ => pg_name (i := 6) sc_law_kind.nd rfl (Or.inl rfl)) (fun _ _ _ _ _ => pts_nil) (fun _ _ _ _ _ => (pe_cmpR op_inS (pv 6) (pv 5) (by rfl)))) (nomark _))
 (pss_one (ps_ret pe_str))
 pss_nil)
 (pss_one (ps_ret (pe_op op_addS pe_str (pv 3)))))))))))))))), ?_⟩
    wtm_at "w0"
    wtm_at "wp"
    rename_i p1 n1 H1 s1 h1 p2 n2 H2 s2 h2 p3 H3 n3 s3 h3 p4 n4 H4 s4 h4 p5 n5 H5 s5 h5 p6 H6 n6 s6 h6 p7 n7 H7 s7 h7 p8 H8 n8 s8 h8 p9 n9 H9 s9 h9 p10 H10 n10 s10 h10
    refine w_countT (n := 1) [decide (0 = i), decide (1 = i), decide (2 = i), decide (3 = i), decide (4 = i), decide (5 = i), decide (6 = i), decide (7 = i), decide (8 = i), decide (9 = i), decide (10 = i), decide (11 = i), decide (12 = i), decide (13 = i), decide (14 = i)] rfl (.of h10) (cnt15 hi) ?_
    wtm_at "wp"
    have hS : SqL K H10 p10 _ := .of h10
    refine w_indexT (j := i) [decide (0 = i), decide (1 = i), decide (2 = i), decide (3 = i), decide (4 = i), decide (5 = i), decide (6 = i), decide (7 = i), decide (8 = i), decide (9 = i), decide (10 = i), decide (11 = i), decide (12 = i), decide (13 = i), decide (14 = i)] rfl hS (idx15 hi) (fun m hm => bef15 hi m hm) ?_
    have hN : SqL K H10 p3 (kind2Names.map V.str) := .of (s10 _ _ (s9 _ _ (s8 _ _ (s7 _ _ (s6 _ _ (s5 _ _ (s4 _ _ h3)))))))
    refine w_ixL hN (nam15 hn) ?_
    wtm_at "wp"
    rename_i p11 n11 H11 s11 h11 p12 n12 H12 s12 h12 p13 H13 n13 s13 h13
    intro pd npd
    refine ⟨upd_same, dueKvs, rfl, by decide, ?_⟩
    generalize eN : upd (upd H13 pd _) pd _ = H14
    have s14 : Same H13 H14 := fun c o h => by
      have hcp := ne_of_none h npd
      rw [← eN, upd_ne hcp, upd_ne hcp]
      exact h
    have hd14 : H14 pd = some (.dK (mergeK [] dueKvs)) := by
      rw [← eN]
      exact upd_same
    clear eN
    refine ⟨pd, rfl, .inl ⟨_, .inl hd14⟩, ?_⟩
    wtm_at "wp"
    refine ⟨_, .inl ⟨_, .inr nm, .inl hd14, rfl, rfl⟩, ?_⟩
    rw [due_get hn]
    have sA : Same H H14 := s1.trans (s2.trans (s3.trans (s4.trans (s5.trans (s6.trans (s7.trans (s8.trans (s9.trans (s10.trans (s11.trans (s12.trans (s13.trans s14))))))))))))
    have h13' := s14 _ _ h13
    wtm_at "wp"
    refine lc_fin (fin_str (x := "WROKLV")) (fun j acc H' => Same H14 H' ∧ acc = ((("WROKLV" : Str).cps.toList.take j).map fun c => decide (c ∈ (dueOf i).cps.toList)).map V.bl) (fun D H2 nD s2 hD => ⟨s2, rfl⟩) (fun _ _ _ _ _ => trivial) ?_ ?_
    · rintro D j v acc H3 H4 nD hi ha ⟨s3, e3⟩ hD ⟨rfl, c, hc, rfl⟩
      wtm_at "wp"
      refine ⟨rfl, ?_⟩
      wtm_at "wp"
      refine w_acc hD ha hi (sz (by decide)) (fun H5 k5 h5 => ⟨k5.same s3 nD, ?_⟩)
      rw [e3, take_succ hc]
      simp
      try rfl
    · rintro D acc H3 nD ⟨s3, e3⟩ ha hD
      have e4 : acc = ([basS 87 i, basS 82 i, basS 79 i, basS 75 i, basS 76 i, basS 86 i] : List Bool).map V.bl := by
        rw [e3]
        rfl
      subst e4
      refine w_neD (k := true) (.lst (.of (s3 _ _ h13')) (dpAll_bl [basS 87 i, basS 82 i, basS 79 i, basS 75 i, basS 76 i, basS 86 i])) (.lst (.of hD) (dpAll_bl _)) (shaped_bl _) (shaped_bl _) (SeqAt.eqv_refl _ (SeqAt.canLay_of_shaped (shaped_bl _))) ?_
      wtm_at "wp"
      have hl := kind2_len hn
      refine w_addS (sz (by have : ("!" : Str).length = 1 := rfl; omega)) ?_
      exact k _ (sA.trans s3)
end

section
variable {P : Program} {w : World} {K : PySem.W.Frag} {mg : Str → Option Value} {base : Heap} {Z : Zs} {C_Broken C_Full C_Gone C_NoFile C_Torn : Addr}
def fif (Z : Zs) (C_Broken C_Full C_Gone C_NoFile C_Torn : Addr) : List Addr := [C_Broken, C_Full, C_Gone, Z.NoDeed, C_NoFile, Z.NoName, Z.NoNumber, Z.NoPages, Z.NoQuery, Z.NoShelf, Z.NoSize, Z.NoSlot, Z.NoText, Z.Taken, C_Torn]
end
abbrev s_law_torn : Stmt := topS 33
theorem sc_law_torn : FnScope ["_law_deed", "_law_told", "_law_e"] ["_law_deed"] (defScope s_law_torn) := ⟨rfl, rfl, rfl, by decide +kernel, rfl, by decide +kernel, by decide +kernel⟩
section
variable {P : Program} {w : World} {K : PySem.W.Frag} {mg : Str → Option Value} {base : Heap} {Z : Zs} {C_Broken C_Full C_Gone C_NoFile C_Torn : Addr}
/-- what _law_torn wants of an exception -/
def tornE (K : PySem.W.Frag) (C : Addr) (Q : VK) : XK := fun cls d H => cls = .ref C ∧ ∃ dd v, d = some dd ∧ H dd = some (.xd [("name", v)]) ∧ ∀ p H', H p = none → Same H H' → H' p = some (.lst [.str "!Torn", v]) → Q (.ref p) H'
def TTTorn (K : PySem.W.Frag) (C : Addr) : (XK → Hp → VK → Prop) → Hp → VK → Prop := fun tl H Q => ∀ Q1 : VK, (∀ v H1, (∀ p H', H1 p = none → Same H1 H' → H' p = some (.lst [.str "told", v]) → Q (.ref p) H') → Q1 v H1) → tl (tornE K C Q) H Q1
theorem torn_gives {X : Cx} {Z : Zs} {C_Broken C_Full C_Gone C_NoFile C_Torn : Addr} (T : Txt X.K X.mg Z C_Broken C_Full C_Gone C_NoFile C_Torn) (hk : Kind2 X.K (fif Z C_Broken C_Full C_Gone C_NoFile C_Torn) Z.Wrong C_Torn 14) (hx : PySem.W.exmAny X.K (.ref C_Torn) [.ref C_Torn, .ref C_NoFile] = some true) (hno : PySem.W.findIn X.K (.ref C_Torn) "name" = some none)
    (f__law_kind : FnQ X.prog X.w X.K X.mg X.base "_law_kind" 1 ["_law_e"] (spKind2 X.K (fif Z C_Broken C_Full C_Gone C_NoFile C_Torn) Z.Wrong)) (hr : Room 2 X.A) {g : Addr} {cdg : Value} {q : Str} :
    GivesC X ["_law_deed", "_law_told", "_law_e"] "_law_torn" (defScope s_law_torn) g cdg (defBody s_law_torn) "_law_deed" q (TTTorn X.K C_Torn) := by
  intro f c' s H Q tl act hc h
  have hrH : ∀ a : Addr, L2H.RoomH 1 ((X.A.deeper (PyProof.Rows.envOfC "_law_torn" (defScope s_law_torn) s.heap.objs.size g cdg)).mark (some (.ref a))) := fun a => roomH_mark (hr.deeper _)
  refine ⟨_, pss_cons (ps_try_mac (X := (cxOf C8.CX0 X.prog X.w X.K X.mg X.base ["_law_deed", "_law_told", "_law_e"] "_law_torn" (defScope s_law_torn) g cdg X.A X.stack s H C8.E0).nox)
      (tb := fun W D σ H => ∃ Ech : XK, (∀ cls d (σ' : L2.St) H', σ'.length = 3 → Ech cls d H' → W cls d σ' H') ∧ σ[0]? = some (some (.ref f)) ∧ H c' = some (LamX.CodeO c' q) ∧ tl Ech H (fun v H' => D.nx (σ.set 1 (some v)) H'))
      rfl rfl (show List.Nodup _ from sc_law_torn.nd) takesC0 ?hsz (fun W pn xe tk _ => ?hb)
      (.cons (.tup (.cons ⟨rfl, by decide, .inl T.m_Torn⟩ (.cons ⟨rfl, by decide, .inl T.m_NoFile⟩ .nil))) (i := 2) rfl rfl
        (fun a oe cls d pn hz hf hot => by exact (pss_one (ps_ret (pe_lst (pa_cons (pe_fq (a := a) (oe := oe) f__law_kind List.mem_cons_self hz hf hot rfl (hrH _) rfl (pa_cons (pv 2) pa_nil)) (pa_cons (show PE _ _ (tXfc X.K a cls d _ _) from pe_xfc (a := a) (oe := oe) List.mem_cons_self hz hf (pv 2)) pa_nil)))))) .nil)) (pss_one (ps_ret (pe_lst (pa_cons pe_str (pa_cons (pe_var (i := 1) rfl (.inl rfl)) pa_nil))))), ?_⟩
  case hsz =>
    intro x hx
    simp only [List.mem_cons, List.not_mem_nil, or_false] at hx
    rcases hx with rfl <;> simp
  case hb =>
    refine ⟨fun pins s' σ H' D I h' => ?_⟩
    obtain ⟨Ech, hW, h1, h2, h3⟩ := h'
    refine (pss_one (ps_set (i := 1) sc_law_torn.nd rfl (.inl rfl) (act _ pn xe Ech _ _ (takes_lenC tk) (fun cls d σ' H' e hl => hW cls d σ' H' hl e)))).run pins s' σ H' D I ?_
    exact ⟨h1, h2, h3⟩
  · refine ⟨tornE X.K C_Torn Q, fun cls d σ' H' hl hw => ?_, rfl, hc, ?_⟩
    · obtain ⟨ec, dd, v, ed, hd, k⟩ := hw
      subst ec ed
      refine ⟨true, hx, fun _ a na => ?_, fun z => Bool.noConfusion z⟩
      match σ', hl with
      | [y1, y2, y3], _ =>
        wtm_at "wp"
        intro oe hz hf
        refine ⟨C_Torn, some dd, 14, "Torn", rfl, hz, hf, hk, ?_, rfl, fun H2 s2 => ?_⟩
        · exact xdOk_at hd
        wtm_at "wp"
        refine ⟨C_Torn, dd, [("name", v)], v, rfl, rfl, hk.ex, hno, rfl, s2 _ _ hd, rfl, ?_⟩
        wtm_at "wp"
        rename_i p3 n3 H3 s3 h3
        exact k _ _ (same_free s2 n3) (s2.trans s3) h3
    · refine h _ (fun v H1 hq => ?_)
      wtm_at "wp"
      exact hq _ _ (by assumption) (by assumption) (by assumption)
end
end K65

namespace K65
abbrev s_law_bent : Stmt := topS 34
theorem sc_law_bent : FnScope ["_law_purse_here", "_law_text", "_law_sort", "_law_at", "_law_sign"] ["_law_purse_here", "_law_text"] (defScope s_law_bent) := ⟨rfl, rfl, rfl, by decide +kernel, rfl, by decide +kernel, by decide +kernel⟩
abbrev s_law_due : Stmt := topS 35
theorem sc_law_due : FnScope ["_law_text", "_law_rows"] ["_law_text"] (defScope s_law_due) := ⟨rfl, rfl, rfl, by decide +kernel, rfl, by decide +kernel, by decide +kernel⟩
section
variable {P : Program} {w : World} {K : PySem.W.Frag} {mg : Str → Option Value} {base : Heap} {Z : Zs} {C_Broken C_Full C_Gone C_NoFile C_Torn : Addr}
def Asi (t : Str) : Prop := ∀ c ∈ t.cps.toList, c < 128
theorem cut_in {z : Str} {lo hi : Option Int} {c : Nat} (h : c ∈ (cutS z lo hi).cps.toList) : c ∈ z.cps.toList := by
  unfold cutS at h
  exact List.mem_of_mem_drop (List.mem_of_mem_take h)
theorem cut_len (z : Str) (lo hi : Option Int) : (cutS z lo hi).length ≤ z.length := by
  rw [← len_cps, ← len_cps]
  unfold cutS
  show ((z.cps.toList.drop _).take _).length ≤ _
  rw [List.length_take, List.length_drop]
  omega
theorem Asi.cut {z : Str} (h : Asi z) {lo hi : Option Int} : Asi (cutS z lo hi) := fun c hc => h c (cut_in hc)
theorem Asi.app {x y : Str} (h : Asi x) (h' : Asi y) : Asi (x ++ y) := fun c hc => by
  rw [cps_append] at hc
  rcases List.mem_append.mp hc with hc | hc
  · exact h c hc
  · exact h' c hc
theorem sign_at {d : Int} (h0 : 0 ≤ d) (h : d < 24) : ∃ c, atI ("0123456789abcdefABF: \n~x" : Str).cps.toList d = some c ∧ Asi ⟨#[c]⟩ := by
  obtain ⟨n, rfl⟩ := Int.eq_ofNat_of_zero_le h0
  have hl : ("0123456789abcdefABF: \n~x" : Str).cps.toList.length = 24 := by decide +kernel
  have hn : n < ("0123456789abcdefABF: \n~x" : Str).cps.toList.length := by omega
  have key : ∀ c ∈ ("0123456789abcdefABF: \n~x" : Str).cps.toList, c < 128 := by decide +kernel
  refine ⟨_, atI_nat (List.getElem?_eq_getElem hn), fun c hc => ?_⟩
  rw [show (⟨#[("0123456789abcdefABF: \n~x" : Str).cps.toList[n]]⟩ : Str).cps.toList = [("0123456789abcdefABF: \n~x" : Str).cps.toList[n]] from rfl, List.mem_singleton] at hc
  rw [hc]
  exact key _ (List.getElem_mem hn)
theorem up_asi {x : Str} (h : Asi x) : Asi (Txt.upper x) ∧ (Txt.upper x).length = x.length := by
  rw [PyProof.Rows.upper_ascii h]
  refine ⟨fun c hc => ?_, ?_⟩
  · have hc' : c ∈ (x.cps.map PyProof.Rows.up1).toList := hc
    rw [Array.toList_map] at hc'
    obtain ⟨b, hb, rfl⟩ := List.mem_map.mp hc'
    have key : ∀ b, b < 128 → PyProof.Rows.up1 b < 128 := by decide +kernel
    exact key b (h b hb)
  · show (x.cps.map PyProof.Rows.up1).size = x.cps.size
    rw [Array.size_map]
theorem eight_at {x0 x1 x2 x3 x4 x5 x6 x7 : Str} {d : Int} (h0 : 0 ≤ d) (h : d < 8) {L : Nat} (k : ∀ x ∈ [x0, x1, x2, x3, x4, x5, x6, x7], Asi x ∧ x.length ≤ L) : ∃ x, atI [V.str x0, V.str x1, V.str x2, V.str x3, V.str x4, V.str x5, V.str x6, V.str x7] d = some (.str x) ∧ Asi x ∧ x.length ≤ L := by
  have hd : d = 0 ∨ d = 1 ∨ d = 2 ∨ d = 3 ∨ d = 4 ∨ d = 5 ∨ d = 6 ∨ d = 7 := by omega
  rcases hd with rfl | rfl | rfl | rfl | rfl | rfl | rfl | rfl
  · exact ⟨_, rfl, k x0 (by simp)⟩
  · exact ⟨_, rfl, k x1 (by simp)⟩
  · exact ⟨_, rfl, k x2 (by simp)⟩
  · exact ⟨_, rfl, k x3 (by simp)⟩
  · exact ⟨_, rfl, k x4 (by simp)⟩
  · exact ⟨_, rfl, k x5 (by simp)⟩
  · exact ⟨_, rfl, k x6 (by simp)⟩
  · exact ⟨_, rfl, k x7 (by simp)⟩
def spBent : Sp := fun vs H Q _ => ∃ (p : Addr) (t : Str) (n : Nat), vs = [.ref p, .str t] ∧ Pool H p n ∧ n ≤ 10 ^ 8 ∧ Asi t ∧ t.length ≤ 10000 ∧ ∀ (x : Str) H', Asi x → x.length ≤ 2 * t.length + 10 → KB p H H' → Pool H' p (n + 3) → Q (.str x) H'
theorem ok_bent {f : Addr} {fd : FuncData} (F : Fun K "_law_bent" "_law_bent" s_law_bent f fd) (T : Txt K mg Z C_Broken C_Full C_Gone C_NoFile C_Torn) (f__law_take : Fn P w K mg base "_law_take" 1 ["_law_purse_here", "_law_many"] spTake) : FnOk P w K mg base CX0 2 f fd ["_law_purse_here", "_law_text"] spBent := by
  refine F.ok sc_law_bent (fun vs H Q E h => ?_) (fun cdv A outer s H vs Q E hr h => ?_)
  · obtain ⟨p, t, n, rfl, _⟩ := h
    rfl
  · obtain ⟨p, t, n, rfl, hp, hn, ha, hl, k⟩ := h
    have hn' : n ≤ 100000000 := hn
    refine ⟨_, (pss_cons (ps_set (i := 2) sc_law_bent.nd rfl (.inl rfl) (pe_fn f__law_take (hr.mono (by omega)) rfl (pa_cons (pv 0) (pa_cons pe_int pa_nil))))
 (pss_cons (ps_set (i := 3) sc_law_bent.nd rfl (.inl rfl) (pe_fn f__law_take (hr.mono (by omega)) rfl (pa_cons (pv 0) (pa_cons (pe_op op_add (pe_callB cl_len (by rfl) T.n_len PySem.boot_len (pa_cons (pv 1) pa_nil)) pe_int) pa_nil))))
 (pss_cons (ps_set (i := 4) sc_law_bent.nd rfl (.inl rfl) (pe_ix ix_str pe_str (pe_fn f__law_take (hr.mono (by omega)) rfl (pa_cons (pv 0) (pa_cons pe_int pa_nil))) (fun _ _ => rfl)))
 (pss_cons (ps_if (pt_cmpR op_lt (pv 2) pe_int (nomark _))
 (pss_one (ps_ret (pe_slice sl_str (pv 1) po_none (po_some (pv 3)))))
 pss_nil)
 (pss_cons (ps_if (pt_cmpR op_eq (pv 2) pe_int (nomark _))
 (pss_one (ps_ret (pe_op op_addS (pe_op op_addS (pe_slice sl_str (pv 1) po_none (po_some (pv 3))) (pv 4)) (pe_slice sl_str (pv 1) (po_some (pv 3)) po_none))))
 pss_nil)
 (pss_cons (ps_if (pt_cmpR op_eq (pv 2) pe_int (nomark _))
 (pss_one (ps_ret (pe_op op_addS (pe_slice sl_str (pv 1) po_none (po_some (pv 3))) (pe_slice sl_str (pv 1) (po_some (pe_op op_add (pv 3) pe_int)) po_none))))
 pss_nil)
 (pss_cons (ps_if (pt_cmpR op_eq (pv 2) pe_int (nomark _))
 (pss_one (ps_ret (pe_ix ix_list (pe_lst (pa_cons (pe_op op_addS (pv 1) (pv 1)) (pa_cons (pe_op op_addS (pv 1) pe_str) (pa_cons (pe_op op_addS (pv 1) pe_str) (pa_cons (pe_slice sl_str (pv 1) (po_some pe_int) po_none) (pa_cons (pe_upper (pv 1)) (pa_cons pe_str (pa_cons pe_str (pa_cons pe_str pa_nil))))))))) (pe_op op_mod (pv 3) pe_int) (fun _ _ => rfl))))
 pss_nil)
 (pss_cons (ps_if (pt_cmpR op_eq (pv 2) pe_int (nomark _))
 (pss_one (ps_ret (pe_op op_addS (pe_op op_addS (pe_slice sl_str (pv 1) po_none (po_some pe_int)) (pv 4)) (pe_slice sl_str (pv 1) (po_some pe_int) po_none))))
 pss_nil)
 (pss_one (ps_ret (pe_op op_addS (pe_op op_addS (pe_slice sl_str (pv 1) po_none (po_some (pv 3))) (pv 4)) (pe_slice sl_str (pv 1) (po_some (pe_op op_add (pv 3) pe_int)) po_none)))))))))))), ?_⟩
    wtm_at "w0"
    wtm_at "wp"
    refine ⟨p, 8, _, rfl, hp, by omega, by decide, by decide, fun d1 H1 d10 d11 k1 p1 => ?_⟩
    wtm_at "wp"
    refine ⟨p, _, _, rfl, p1, by omega, by omega, by omega, fun d2 H2 d20 d21 k2 p2 => ?_⟩
    wtm_at "wp"
    refine ⟨p, 24, _, rfl, p2, by omega, by decide, by decide, fun d3 H3 d30 d31 k3 p3 => ?_⟩
    obtain ⟨c, hat, hc⟩ := sign_at d30 d31
    have hc1 : (⟨#[c]⟩ : Str).length = 1 := rfl
    refine w_ixS (by decide +kernel) hat ?_
    generalize (⟨#[c]⟩ : Str) = sg at hc hc1 ⊢
    have kA : KB p H H3 := (k1.trans k2).trans k3
    have pA := p3
    have ok : ∀ (x : Str) H', Asi x → x.length ≤ 2 * t.length + 10 → Same H3 H' → Q (.str x) H' := fun x H' hx hxl s => k x H' hx hxl (kA.trans (KB.of s)) ((pA.mono s (by omega)))
    clear p1 p2 p3 k1 k2 k3
    have fin : ∀ x : Str, Asi x → x.length ≤ 2 * t.length + 10 → Q (.str x) H3 := fun x h1 h2 => ok x H3 h1 h2 (.refl _)
    have cl := fun lo hi => cut_len t lo hi
    have hs : t.length ≤ sizeLine := sz (by omega)
    wtm_at "wp"
    refine w_dec (fun h1 => ?_) (fun h1 => ?_)
    · wtm_at "wp"
      exact fin _ ha.cut (by have := cl none (some d2); omega)
    wtm_at "wp"
    refine w_dec (fun h2 => ?_) (fun h2 => ?_)
    · wtm_at "wp"
      refine w_addS (sz (by have := cl none (some d2); omega)) ?_
      wtm_at "wp"
      refine w_addS (sz (by rw [Str.length_append]; have := cl none (some d2); have := cl (some d2) none; omega)) ?_
      exact fin _ ((ha.cut.app hc).app ha.cut) (by rw [Str.length_append, Str.length_append]; have := cl none (some d2); have := cl (some d2) none; omega)
    wtm_at "wp"
    refine w_dec (fun h3 => ?_) (fun h3 => ?_)
    · wtm_at "wp"
      refine w_addS (sz (by have := cl none (some d2); have := cl (some (d2 + 1)) none; omega)) ?_
      exact fin _ (ha.cut.app ha.cut) (by rw [Str.length_append]; have := cl none (some d2); have := cl (some (d2 + 1)) none; omega)
    wtm_at "wp"
    refine w_dec (fun h4 => ?_) (fun h4 => ?_)
    · wtm_at "wp"
      refine w_addS (sz (by omega)) ?_
      wtm_at "wp"
      have la : ("a\n" : Str).length = 2 := by decide +kernel
      have ln : ("\n" : Str).length = 1 := rfl
      refine w_addS (sz (by omega)) ?_
      wtm_at "wp"
      refine w_addS (sz (by omega)) ?_
      wtm_at "wp"
      refine ⟨rfl, by omega, ?_⟩
      wtm_at "wp"
      rename_i p5 n5 H5 s5 h5
      obtain ⟨u1, u2⟩ := up_asi ha
      obtain ⟨x, e1, e2, e3⟩ := eight_at (x0 := t ++ t) (x1 := t ++ "a\n") (x2 := t ++ "\n") (x3 := cutS t (some 1) none) (x4 := Txt.upper t) (x5 := "") (x6 := "\n") (x7 := ":") (d := d2 % 8) (Int.emod_nonneg _ (by decide)) (Int.emod_lt_of_pos _ (by decide)) (L := 2 * t.length + 10) (fun x hx => by
        simp only [List.mem_cons, List.not_mem_nil, or_false] at hx
        have dA : ∀ y : Str, y.cps.toList.all (· < 128) = true → Asi y := fun y hy c hc => of_decide_eq_true (List.all_eq_true.mp hy c hc)
        rcases hx with rfl | rfl | rfl | rfl | rfl | rfl | rfl | rfl
        · exact ⟨ha.app ha, by rw [Str.length_append]; omega⟩
        · exact ⟨ha.app (dA _ (by decide +kernel)), by rw [Str.length_append]; omega⟩
        · exact ⟨ha.app (dA _ (by decide +kernel)), by rw [Str.length_append]; omega⟩
        · exact ⟨ha.cut, by have := cl (some 1) none; omega⟩
        · exact ⟨u1, by omega⟩
        · exact ⟨dA _ (by decide +kernel), by have : ("" : Str).length = 0 := rfl; omega⟩
        · exact ⟨dA _ (by decide +kernel), by omega⟩
        · exact ⟨dA _ (by decide +kernel), by have : (":" : Str).length = 1 := rfl; omega⟩)
      wtm_at "wp"
      exact ok x _ e2 e3 s5
    wtm_at "wp"
    refine w_dec (fun h5 => ?_) (fun h5 => ?_)
    · wtm_at "wp"
      refine w_addS (sz (by have := cl none (some 9); omega)) ?_
      wtm_at "wp"
      refine w_addS (sz (by rw [Str.length_append]; have := cl none (some 9); have := cl (some 10) none; omega)) ?_
      exact fin _ ((ha.cut.app hc).app ha.cut) (by rw [Str.length_append, Str.length_append]; have := cl none (some 9); have := cl (some 10) none; omega)
    wtm_at "wp"
    refine w_addS (sz (by have := cl none (some d2); omega)) ?_
    wtm_at "wp"
    refine w_addS (sz (by rw [Str.length_append]; have := cl none (some d2); have := cl (some (d2 + 1)) none; omega)) ?_
    exact fin _ ((ha.cut.app hc).app ha.cut) (by rw [Str.length_append, Str.length_append]; have := cl none (some d2); have := cl (some (d2 + 1)) none; omega)
/-- the rows between the first and the last -/
def spDue (K : PySem.W.Frag) : Sp := fun vs H Q _ => ∃ t : Str, vs = [.str t] ∧ Asc t ∧ (¬ isWt t → ∀ H', Same H H' → Q .non H') ∧ (∀ rows, Rw rows → wt rows = t → ∀ p H', H p = none → Same H H' → H' p = some (.lst (rows.map V.str)) → Q (.ref p) H')
theorem ok_due {f : Addr} {fd : FuncData} (F : Fun K "_law_due" "_law_due" s_law_due f fd) (T : Txt K mg Z C_Broken C_Full C_Gone C_NoFile C_Torn) (f__law_whole : Fn P w K mg base "_law_whole" 2 ["_law_rows"] (spWhole K)) : FnOk P w K mg base CX0 3 f fd ["_law_text"] (spDue K) := by
  refine F.ok sc_law_due (fun vs H Q E h => ?_) (fun cdv A outer s H vs Q E hr h => ?_)
  · obtain ⟨t, rfl, _⟩ := h
    rfl
  · obtain ⟨t, rfl, ha, kn, k⟩ := h
    obtain ⟨hd, rs, es, hh, hrs, ec⟩ := cut_of t
    refine ⟨_, (pss_cons (ps_set (i := 1) sc_law_due.nd rfl (.inl rfl) (pe_split (pv 0) pe_str))
 (pss_cons (ps_if (PW.pt (pw_or (pt_cmpR op_lt (pe_callB cl_len (by rfl) T.n_len PySem.boot_len (pa_cons (pv 1) pa_nil)) pe_int (nomark _)) (pw_or (pt_cmpR op_ne (pe_ix ix_list (pv 1) (pe_un un_neg pe_int) (fun _ _ => rfl)) pe_str (nomark _)) (pw_or1 (pt_cmpR op_gt (pe_callB cl_len (by rfl) T.n_len PySem.boot_len (pa_cons (pv 1) pa_nil)) pe_int (nomark _))))))
 (pss_one (ps_ret pe_non))
 pss_nil)
 (pss_one (ps_ret (pe_ix ix_list (pe_lst (pa_cons pe_non (pa_cons (pe_slice sl_list (pv 1) (po_some pe_int) (po_some (pe_un un_neg pe_int))) pa_nil))) (pe_callTy cl_int (by rfl) T.n_int PyProof.Rows.boot_int (pa_cons (pe_cmpR op_eq (pe_fn f__law_whole (hr.mono (by omega)) rfl (pa_cons (pe_slice sl_list (pv 1) (po_some pe_int) (po_some (pe_un un_neg pe_int))) pa_nil)) (pv 0) (nomark _)) pa_nil)) (fun _ _ => rfl)))))), ?_⟩
    wtm_at "w0"
    wtm_at "wp"
    refine w_split rfl (Nat.le_trans (by have := ha.1; omega : t.length + 2 ≤ 1200000) (by decide)) (fun p1 H1 n1 s1 h1 => ?_)
    rw [es] at h1
    wtm_at "wp"
    have hT : hd.length ≤ t.length ∧ ((rs.map fun r => 10 :: r.cps.toList).flatten).length ≤ t.length := by
      rw [← len_cps t, ec, List.length_append, len_cps]
      omega
    refine w_dec (fun h0 => ?_) (fun h0 => ?_)
    · wtm_at "wp"
      refine kn ?_ _ s1
      rintro ⟨rows, hq, rfl⟩
      rw [wt_split hq.2] at es
      have e2 := congrArg List.length (List.cons.inj es).2
      rw [List.length_append] at e2
      rw [List.length_map, List.length_cons] at h0
      simp at e2
      omega
    have hrs0 : rs ≠ [] := fun z => h0 (by rw [z]; exact (by decide : ((1 : Nat) : Int) < 2))
    obtain ⟨rows, e, rfl⟩ : ∃ rows e, rs = rows ++ [e] := ⟨rs.dropLast, rs.getLast hrs0, (List.dropLast_concat_getLast hrs0).symm⟩
    have hR : ∀ r ∈ rows, 10 ∉ r.cps.toList := fun r hr => hrs r (List.mem_append_left _ hr)
    have isw : isWt t → e = ("" : Str) ∧ rows.length ≤ 9999 ∧ wt rows = t := by
      rintro ⟨rows', hq, rfl⟩
      rw [wt_split hq.2] at es
      have e2 := List.append_inj' (List.cons.inj es).2 rfl
      have e3 : rows' = rows := e2.1
      subst e3
      exact ⟨(List.cons.inj e2.2).1.symm, hq.1, rfl⟩
    have hsg : (sgn rows).length ≤ t.length := by
      have h2 : (sgn rows).length = ((rows.map fun r => 10 :: r.cps.toList).flatten).length := by
        unfold sgn
        rw [List.length_flatten, List.length_flatten, List.map_map, List.map_map]
        congr 1
        refine List.map_congr_left fun r _ => ?_
        show (r.cps.toList ++ [10]).length = (10 :: r.cps.toList).length
        simp
      have h3 := hT.2
      rw [List.map_append, List.flatten_append, List.length_append, ← h2] at h3
      omega
    have hat : atI ((hd :: (rows ++ [e])).map V.str) (-1) = some (.str e) := by
      unfold atI ixN
      rw [if_neg (by decide), if_pos (by simp; omega)]
      show ((hd :: (rows ++ [e])).map V.str)[(-1 + (((hd :: (rows ++ [e])).map V.str).length : Int)).toNat]? = _
      rw [List.getElem?_map, show (-1 + (((hd :: (rows ++ [e])).map V.str).length : Int)).toNat = rows.length + 1 by simp; omega]
      simp
    wtm_at "wp"
    refine w_decn (fun he => ?_) (fun he => ?_)
    rotate_left
    · wtm_at "wp"
      exact kn (fun z => he (by rw [(isw z).1])) _ s1
    wtm_at "wp"
    refine w_dec (fun hl => ?_) (fun hl => ?_)
    · wtm_at "wp"
      refine kn (fun z => ?_) _ s1
      have := (isw z).2.1
      rw [List.length_map] at hl
      simp at hl
      omega
    have hRw : Rw rows := ⟨by rw [List.length_map] at hl; simp at hl; omega, hR⟩
    have hok : okR rows := ⟨hRw, by have := ha.1; omega⟩
    have ecut : cutV ((hd :: (rows ++ [e])).map V.str) (some 1) (some (-1)) = rows.map V.str := by
      have hlen : ((hd :: (rows ++ [e])).map V.str).length = rows.length + 2 := by simp
      unfold cutV
      rw [hlen]
      have a1 : HT.sIx (rows.length + 2) 0 (some 1) = 1 := by
        rw [show (1 : Int) = ((1 : Nat) : Int) from rfl, HT.sIx_nat]
        omega
      have a2 : HT.sIx (rows.length + 2) (rows.length + 2) (some (-1)) = rows.length + 1 := by
        show (if (-1 : Int) < 0 then (-1 + ((rows.length + 2 : Nat) : Int)).toNat else min (-1 : Int).toNat (rows.length + 2)) = _
        rw [if_pos (by decide)]
        omega
      rw [a1, a2, List.map_cons, List.drop_one, List.tail_cons, List.map_append, show rows.length + 1 - 1 = (rows.map V.str).length by simp, List.take_left']
      rfl
    wtm_at "wp"
    rename_i p2 H2 n2 s2 h2 p3 n3 H3 s3 h3 p4 H4 n4 s4 h4
    rw [ecut] at h2 h4
    have hq := okR.wid hok
    refine ⟨p4, rows, ?_, ?_, hq, fun H5 s5 => ?_⟩
    · rfl
    · exact .of h4
    wtm_at "w1"
    wtm_at "w1"
    have h35 : H5 p3 = some (.lst [.non, .ref p2]) := s5 _ _ (s4 _ _ h3)
    generalize hb : decide (V.str (wt rows) = V.str t) = b
    cases b with
    | true =>
      have hw : wt rows = t := V.str.inj (of_decide_eq_true hb)
      wtm_at "w1"
      refine w_intB ?_
      refine w_ixL (.of h35) (v := .ref p2) rfl ?_
      exact k rows hRw hw _ _ (same_free s1 n2) (s1.trans (s2.trans (s3.trans (s4.trans s5)))) (s5 _ _ (s4 _ _ (s3 _ _ h2)))
    | false =>
      have hw : ¬ wt rows = t := fun z => of_decide_eq_false hb (by rw [z])
      wtm_at "w1"
      refine w_intB ?_
      refine w_ixL (.of h35) (v := .non) rfl ?_
      exact kn (fun z => hw (isw z).2.2) _ (s1.trans (s2.trans (s3.trans (s4.trans s5))))
end
end K65

namespace K65
abbrev s_law : Stmt := topS 36
theorem sc_law : FnScope ["_law_script", "_law_k", "_law_purse_here", "_law_rows", "_law_whole_here", "_law_text", "_law_turn", "_law_label", "_law_due_here", "_law_found", "_law_at", "_law_other", "_law_torn_here"] ["_law_script"] (defScope s_law) := ⟨rfl, rfl, rfl, by decide +kernel, rfl, by decide +kernel, by decide +kernel⟩
section
variable {P : Program} {w : World} {K : PySem.W.Frag} {mg : Str → Option Value} {base : Heap} {Z : Zs} {C_Broken C_Full C_Gone C_NoFile C_Torn : Addr}
theorem torn_asks {g : Addr} {fd : FuncData} (T : Txt K mg Z C_Broken C_Full C_Gone C_NoFile C_Torn) (F : Fun K "_law_torn" "_law_torn" s_law_torn g fd) (hm : mg "_law_torn" = some (.ref g)) (hb : L2.Binds K fd ["_law_deed"] []) (hk : Kind2 K (fif Z C_Broken C_Full C_Gone C_NoFile C_Torn) Z.Wrong C_Torn 14) (hx : PySem.W.exmAny K (.ref C_Torn) [.ref C_Torn, .ref C_NoFile] = some true) (hno : PySem.W.findIn K (.ref C_Torn) "name" = some none)
    (f__law_kind : FnQ P w K mg base "_law_kind" 1 ["_law_e"] (spKind2 K (fif Z C_Broken C_Full C_Gone C_NoFile C_Torn) Z.Wrong)) :
    AsksC P w K mg base "_law_torn" "_law_deed" ["_law_deed", "_law_told", "_law_e"] s_law_torn 2 (TTTorn K C_Torn) := by
  refine ⟨⟨g, fd, F, hm, hb⟩, sc_law_torn, rfl, .inl rfl, fun X e1 e2 e3 e4 e5 hr g cdg q => ?_⟩
  subst e1 e2 e3 e4 e5
  exact torn_gives T hk hx hno f__law_kind hr
theorem grown_kbp {TT : List (Addr × Str)} {H H1 H2 : Hp} {p : Addr} {xs : List V} (g : Grown TT H H1) (n : H p = none) (k : KB p H1 H2) (hp : H1 p = some (.lst xs)) : Grown TT H H2 := ⟨fun b o h no => k b o (g.e b o h no) (ne_of_none h n), tabs_kb g.t hp k⟩
theorem Pool.ext {H H' : Hp} {p : Addr} {n n' : Nat} (h : Pool H p n) (e : LamX.ExtN H H') (hn : n ≤ n') : Pool H' p n' := by
  obtain ⟨a, b, c, h, h1, h2, h3, h4, h5⟩ := h
  exact ⟨a, b, c, e _ _ h (fun _ z => by cases z), h1, h2, h3, h4, by omega⟩
theorem asi_wt {rows : List Str} (h : ∀ r ∈ rows, ∀ c ∈ r.cps.toList, c < 128) : Asi (wt rows) := fun c hc => by
  rw [cps_wt] at hc
  rcases List.mem_append.mp hc with hc | hc
  · unfold hdL at hc
    rcases List.mem_append.mp hc with hc | hc
    · rcases List.mem_append.mp hc with hc | hc
      · have := zf_dig _ hc
        omega
      · simp at hc
        omega
    · have := Hx.hex_rng (hex4_hex _ hc)
      omega
  · rcases List.mem_cons.mp hc with rfl | hc
    · decide
    · unfold sgn at hc
      obtain ⟨l, hl, hcl⟩ := List.mem_flatten.mp hc
      obtain ⟨r, hr, rfl⟩ := List.mem_map.mp hl
      rcases List.mem_append.mp hcl with hcl | hcl
      · exact h r hr c hcl
      · rw [List.mem_singleton.mp hcl]
        decide
theorem wt_lenW {rows : List Str} (h : okW rows) : (wt rows).length = (hdL rows).length + 1 + (sgn rows).length ∧ (hdL rows).length ≤ 10 := by
  refine ⟨?_, ?_⟩
  · rw [← len_cps, cps_wt, List.length_append, List.length_cons]
    omega
  · unfold hdL
    rw [List.length_append, List.length_append]
    have := zf5 h.1
    have : (hex4 (chk 1 (sgn rows))).length = 4 := rfl
    simp only [List.length_cons, List.length_nil]
    omega
theorem rep_flat (m : Nat) : (List.replicate (m : Int).toNat [V.str ("" : Str)]).flatten = (List.replicate m ("" : Str)).map V.str := by
  rw [Int.toNat_natCast, List.map_replicate]
  induction m with
  | zero => rfl
  | succ m ih => rw [List.replicate_succ, List.flatten_cons, ih]; rfl
theorem w_seq3R {t1 t2 t3 u : TS} {D : Ends} {σ : L2.St} {H : Hp} (R : L2.St → Hp → Prop) (h : ∀ N : L2.St → Hp → Prop, (∀ σ H, R σ H → N σ H) → tSeq t1 (tSeq t2 t3) { D with nx := N } σ H) (k : ∀ σ H, R σ H → u D σ H) : tSeq t1 (tSeq t2 (tSeq t3 u)) D σ H := h _ k
theorem w_asg3R {t1 t2 t3 u : TS} {D : Ends} {σ : L2.St} {H : Hp} (R : L2.St → Hp → Prop) (h : ∀ N : L2.St → Hp → Prop, (∀ σ H, R σ H → N σ H) → tSeq t1 (tSeq t2 t3) { D with nx := N } σ H) (k : ∀ σ H, R σ H → u D σ H) : t1 { D with nx := tSeq t2 (tSeq t3 u) D } σ H := h _ k
theorem cut_pre {z : Str} {n : Nat} (h : n ≤ z.length) : cutS z none (some (n : Int)) = S (z.cps.toList.take n) := by
  unfold cutS
  rw [HT.sIx_nat, HT.sIx_none, List.drop_zero, Nat.sub_zero, Nat.min_eq_left h]
  rfl
theorem cut_post {z : Str} {n : Nat} (h : n ≤ z.length) : cutS z (some (n : Int)) none = S (z.cps.toList.drop n) := by
  unfold cutS
  rw [HT.sIx_nat, HT.sIx_none, Nat.min_eq_left h, List.take_of_length_le (by rw [List.length_drop, len_cps]; exact Nat.le_refl _)]
  rfl
theorem five_at {d : Int} (h0 : 0 ≤ d) (h : d < 5) : ∃ c, atI ("0a:\n~" : Str).cps.toList d = some c ∧ c < 128 := by
  obtain ⟨n, rfl⟩ := Int.eq_ofNat_of_zero_le h0
  have hl : ("0a:\n~" : Str).cps.toList.length = 5 := by decide +kernel
  have hn : n < ("0a:\n~" : Str).cps.toList.length := by omega
  have key : ∀ c ∈ ("0a:\n~" : Str).cps.toList, c < 128 := by decide +kernel
  exact ⟨_, atI_nat (List.getElem?_eq_getElem hn), key _ (List.getElem_mem hn)⟩
/-- what is handed to rows_of last -/
theorem other_of {rows : List Str} (h : Rw rows) (ha : Asi (wt rows)) {n c : Nat} (hn : n < (wt rows).length) (hc : c < 128) :
    cutS (wt rows) none (some (n : Int)) ++ ⟨#[c]⟩ ++ cutS (wt rows) (some ((n : Int) + 1)) none = wt rows ∨ ¬ isWt (cutS (wt rows) none (some (n : Int)) ++ ⟨#[c]⟩ ++ cutS (wt rows) (some ((n : Int) + 1)) none) := by
  have e0 : ((n : Int) + 1) = ((n + 1 : Nat) : Int) := by omega
  rw [e0, cut_pre (by omega), cut_post (by omega)]
  have hl : n < (wt rows).cps.toList.length := by rw [len_cps]; exact hn
  have e1 : S ((wt rows).cps.toList.take n) ++ ⟨#[c]⟩ ++ S ((wt rows).cps.toList.drop (n + 1)) = S ((wt rows).cps.toList.take n ++ c :: (wt rows).cps.toList.drop (n + 1)) := str_ext (by
    rw [cps_append, cps_append, cps_S, cps_S, cps_S]
    show _ ++ [c] ++ _ = _
    simp)
  rw [e1]
  have e2 : (wt rows).cps.toList = (wt rows).cps.toList.take n ++ (wt rows).cps.toList[n] :: (wt rows).cps.toList.drop (n + 1) := by
    rw [← List.drop_eq_getElem_cons hl, List.take_append_drop]
  by_cases hcc : (wt rows).cps.toList[n] = c
  · left
    refine str_ext ?_
    rw [cps_S]
    rw [hcc] at e2
    exact e2.symm
  · right
    refine one_torn h (fun d hd => ?_) (Nat.lt_trans hc (by decide)) e2 hcc
    have : d ∈ (wt rows).cps.toList := by
      rw [cps_wt]
      exact List.mem_append_right _ (List.mem_cons_of_mem _ hd)
    exact Nat.lt_trans (ha d this) (by decide)
theorem asi_ok {x : Str} (h : Asi x) : PyData.strOk x = true := strOk_of (fun c hc => Nat.lt_trans (h c hc) (by decide))
def spLaw (K : PySem.W.Frag) (TT : List (Addr × Str)) : Sp := fun vs H Q _ => ∃ (a : Addr) (ns : List Int), vs = [.ref a] ∧ SqL K H a (ns.map V.int) ∧ ns.length ≤ 63 ∧ (∀ p ∈ TT, LamX.TabS H p.1 p.2) ∧ ∀ H', Q (.bl true) H'
theorem ok_law {f c P1 : Addr} {fd : FuncData} {TT : List (Addr × Str)} (F : FunC K "law" "law" s_law f fd c) (T : Txt K mg Z C_Broken C_Full C_Gone C_NoFile C_Torn) (hTB : LamX.TabB base mg c P1) (hmT : (P1, lamN "law") ∈ TT) (hu : ∀ p ∈ TT, p.1 = P1 → p.2 = lamN "law")
    (f__law_purse : Fn P w K mg base "_law_purse" 1 ["_law_script", "_law_at"] (spPool K)) (f__law_take : Fn P w K mg base "_law_take" 1 ["_law_purse_here", "_law_many"] spTake) (f__law_row : Fn P w K mg base "_law_row" 2 ["_law_purse_here", "_law_most"] spRow) (f__law_whole : Fn P w K mg base "_law_whole" 2 ["_law_rows"] (spWhole K)) (f__law_bent : Fn P w K mg base "_law_bent" 2 ["_law_purse_here", "_law_text"] spBent) (f__law_due : Fn P w K mg base "_law_due" 3 ["_law_text"] (spDue K))
    (f_rows_of_1 : FnD P w K mg base (CXc P w) "rows_of" 3 ["text", "name"] [.str ""] (spRows K C_Torn)) (f_rows_of_name : FnK P w K mg base (CXc P w) "rows_of" 3 ["text", "name"] 1 ["name"] (fun vs zs => vs ++ zs) (spRows K C_Torn)) (f__law_torn : AsksC P w K mg base "_law_torn" "_law_deed" ["_law_deed", "_law_told", "_law_e"] s_law_torn 2 (TTTorn K C_Torn)) : FnOk P w K mg base CX0 16 f fd ["_law_script"] (spLaw K TT) := by
  refine F.ok sc_law (fun vs H Q E h => ?_) (fun A outer s H vs Q E hr h => ?_)
  · obtain ⟨a, ns, rfl, _⟩ := h
    rfl
  · obtain ⟨a, ns, rfl, hS, hlen, hT, k⟩ := h
    have hu0 := hr.units
    refine ⟨_, (pss_cons (ps_for PassesOwn.never rfl (pi_range1 (by rfl) T.n_range (pa_cons (pe_callB (cl_max rfl) (by rfl) T.n_max PyProof.Rows.boot_max (pa_cons pe_int (pa_cons (pe_callB (cl_min rfl) (by rfl) T.n_min PyProof.Rows.boot_min (pa_cons (pe_callB cl_len (by rfl) T.n_len PySem.boot_len (pa_cons (pv 0) pa_nil)) (pa_cons pe_int pa_nil))) pa_nil))) pa_nil)) (pg_name (i := 1) sc_law.nd rfl (.inl rfl))
 (pss_cons (ps_set (i := 2) sc_law.nd rfl (.inr rfl) (pe_fn f__law_purse (hr.mono (by omega)) rfl (pa_cons (pv 0) (pa_cons (pv 1) pa_nil))))
 (pss_cons (ps_setLc (i := 3) (own := [("_law_turn", 6)]) (g := gName 6) (tt := tYes) rfl sc_law.nd rfl rfl (sw_true rfl rfl rfl (by decide +kernel)) (pi_range1 (by rfl) T.n_range (pa_cons (pe_fn f__law_take (hr.mono (by omega)) rfl (pa_cons (pv 2) (pa_cons pe_int pa_nil))) pa_nil)) (blkOk_by (own := [("_law_turn", 6)]) (N := ["_law_script", "_law_k", "_law_purse_here", "_law_rows", "_law_whole_here", "_law_text", "_law_turn", "_law_label", "_law_due_here", "_law_found", "_law_at", "_law_other", "_law_torn_here"]) (sc := defScope s_law) (by decide +kernel)) (fun _ _ _ _ _ => pg_name (i := 6) sc_law.nd rfl (Or.inl rfl)) (fun _ _ _ _ _ => pts_nil) (fun _ _ _ _ _ => (pe_fn f__law_row (hr.mono (by omega)) rfl (pa_cons (pv 2) (pa_cons pe_int pa_nil)))))
 (pss_cons (ps_set (i := 4) sc_law.nd rfl (.inl rfl) (pe_fn f__law_whole (hr.mono (by omega)) rfl (pa_cons (pv 3) pa_nil)))
 (pss_cons (ps_set (i := 5) sc_law.nd rfl (.inr rfl) (pv 4))
 (pss_cons (ps_for PassesOwn.never rfl (pi_range1 (by rfl) T.n_range (pa_cons (pe_op op_add pe_int (pe_fn f__law_take (hr.mono (by omega)) rfl (pa_cons (pv 2) (pa_cons pe_int pa_nil)))) pa_nil)) (pg_name (i := 6) sc_law.nd rfl (.inl rfl))
 (pss_one (ps_set (i := 5) sc_law.nd rfl (.inr rfl) (pe_fn f__law_bent (hr.mono (by omega)) rfl (pa_cons (pv 2) (pa_cons (pv 5) pa_nil))))))
 (pss_cons (ps_if (PW.pt (pw_and (pt_cmpR op_eq (pv 1) pe_int (nomark _)) (pw_and1 (pt_cmpR op_eq (pe_fn f__law_take (hr.mono (by omega)) rfl (pa_cons (pv 2) (pa_cons pe_int pa_nil))) pe_int (nomark _)))))
 (pss_one (ps_set (i := 5) sc_law.nd rfl (.inr rfl) (pe_fn f__law_whole (hr.mono (by omega)) rfl (pa_cons (pe_op op_rep (pe_lst (pa_cons pe_str pa_nil)) (pe_ix ix_list (pe_lst (pa_cons pe_int (pa_cons pe_int (pa_cons pe_int pa_nil)))) (pe_fn f__law_take (hr.mono (by omega)) rfl (pa_cons (pv 2) (pa_cons pe_int pa_nil))) (fun _ _ => rfl))) pa_nil))))
 pss_nil)
 (pss_cons (ps_set (i := 7) sc_law.nd rfl (.inr rfl) (pe_ix ix_list (pe_lst (pa_cons pe_str (pa_cons pe_str (pa_cons pe_str pa_nil)))) (pe_fn f__law_take (hr.mono (by omega)) rfl (pa_cons (pv 2) (pa_cons pe_int pa_nil))) (fun _ _ => rfl)))
 (pss_cons (ps_set (i := 8) sc_law.nd rfl (.inl rfl) (pe_fn f__law_due (hr.mono (by omega)) rfl (pa_cons (pv 5) pa_nil)))
 (pss_cons (ps_set (i := 9) sc_law.nd rfl (.inl rfl) (pe_asksC (T := TT) (j := 10) f__law_torn rfl (by exact hTB) (by rfl) (by rfl) hmT hu (hr.mono (by omega)) (hr.mono (by omega)) (by rfl) rfl (fun _ _ _ _ _ => rfl) (fun A' outer' s' H' E' f' c' hr' => (pe_fnk f_rows_of_name (lets_ofC takesLamC) (hr'.mono (by omega)) rfl (pa_cons (pv 5) pa_nil) (pk_cons (pv 7) pk_nil)))))
 (pss_cons (ps_if (pt_cmpR (op_neD hr.units) (pv 9) (pe_ix ix_list (pe_lst (pa_cons (pe_lst (pa_cons pe_str (pa_cons (pv 8) pa_nil))) (pa_cons (pe_lst (pa_cons pe_str (pa_cons (pv 7) pa_nil))) pa_nil))) (pe_callTy cl_int (by rfl) T.n_int PyProof.Rows.boot_int (pa_cons (pe_cmpR op_is0 (pv 8) pe_non (nomark _)) pa_nil)) (fun _ _ => rfl)) (nomark _))
 (pss_one (ps_ret pe_bl))
 pss_nil)
 (pss_cons (ps_set (i := 10) sc_law.nd rfl (.inl rfl) (pe_fn f__law_take (hr.mono (by omega)) rfl (pa_cons (pv 2) (pa_cons (pe_callB cl_len (by rfl) T.n_len PySem.boot_len (pa_cons (pv 4) pa_nil)) pa_nil))))
 (pss_cons (ps_set (i := 11) sc_law.nd rfl (.inl rfl) (pe_op op_addS (pe_op op_addS (pe_slice sl_str (pv 4) po_none (po_some (pv 10))) (pe_ix ix_str pe_str (pe_fn f__law_take (hr.mono (by omega)) rfl (pa_cons (pv 2) (pa_cons pe_int pa_nil))) (fun _ _ => rfl))) (pe_slice sl_str (pv 4) (po_some (pe_op op_add (pv 10) pe_int)) po_none)))
 (pss_one (ps_for PassesOwn.never rfl (pi_list (pe_lst (pa_cons (pe_slice sl_str (pv 4) po_none (po_some (pv 10))) (pa_cons (pv 11) pa_nil)))) (pg_name (i := 12) sc_law.nd rfl (.inr rfl))
 (pss_one (ps_if (PW.pt (pw_and (pt_cmpR op_ne (pv 12) (pv 4) (nomark _)) (pw_and1 (pt_cmpR (op_neD hr.units) (pe_asksC (T := TT) (j := 10) f__law_torn rfl (by exact hTB) (by rfl) (by rfl) hmT hu (hr.mono (by omega)) (hr.mono (by omega)) (by rfl) rfl (fun _ _ _ _ _ => rfl) (fun A' outer' s' H' E' f' c' hr' => (pe_fnd f_rows_of_1 (lets_ofC takesLamC) (hr'.mono (by omega)) rfl (pa_cons (pv 12) pa_nil)))) (pe_lst (pa_cons pe_str (pa_cons pe_str pa_nil))) (nomark _)))))
 (pss_one (ps_ret pe_bl))
 pss_nil)))))))))))))))))
 (pss_one (ps_ret pe_bl))), ?_⟩
    wtm_at "w0"
    wtm_at "wp"
    rw [List.length_map]
    refine ⟨_, rfl, by omega, by omega, for_fin (n := (max (4 : Int) (min (ns.length : Int) 24)).toNat) fin_rng (fun i σ H' => ∃ v1 v2 v3 v4 v5 v6 v7 v8 v9 v10 v11 v12 : Option V, σ = [some (.ref a), v1, v2, v3, v4, v5, v6, v7, v8, v9, v10, v11, v12] ∧ Grown TT H H') ?_ (fun _ _ _ _ _ => trivial) ?_ ?_⟩
    · exact ⟨_, _, _, _, _, _, _, _, _, _, _, _, rfl, Grown.of hT (.refl _)⟩
    · rintro i x σ H0 H0' hi ⟨v1, v2, v3, v4, v5, v6, v7, v8, v9, v10, v11, v12, rfl, g0⟩ ⟨rfl, rfl⟩
      wtm_at "wp"
      rw [Int.zero_add]
      refine ⟨a, ns, i, rfl, extn_seq g0.e hS, by omega, fun p H1 np s1 p1 => ?_⟩
      wtm_at "wp"
      refine ⟨p, 9, _, rfl, p1, by omega, by decide, by decide, fun d2 H2 d20 d21 k2 p2 => ?_⟩
      wtm_at "wp"
      refine ⟨_, rfl, by omega, by omega, ?_⟩
      refine lc_fin (n := d2.toNat) fin_rng (fun j acc H' => KB p H2 H' ∧ Pool H' p (1 + 101 * j) ∧ ∃ rows : List Str, acc = rows.map V.str ∧ rows.length = j ∧ ∀ r ∈ rows, r.length ≤ 12 ∧ 10 ∉ r.cps.toList ∧ Asi r) (fun D H3 nD s3 hD => ⟨KB.of s3, p2.mono s3 (by omega), [], rfl, rfl, by simp⟩) (fun _ _ _ _ _ => trivial) ?_ ?_
      · rintro D j v acc H3 H4 nD hj ha ⟨k3, p3, rows, rfl, hrl, hrs⟩ hD ⟨rfl, rfl⟩
        wtm_at "wp"
        refine ⟨rfl, ?_⟩
        wtm_at "wp"
        have nDp : D ≠ p := fun z => by rw [z, p2.at.choose_spec] at nD; cases nD
        refine ⟨p, 12, _, rfl, by decide, p3, by omega, fun y H5 hy1 hy2 hy3 k5 p5 => ?_⟩
        refine w_acc (k5 _ _ hD nDp) ha hj (sz (by omega)) (fun H6 k6 h6 => ⟨kb2 (k3.trans k5) k6 nD, (p5.kb k6 nDp.symm).mono (.refl _) (by omega), rows ++ [y], by simp, by simp [hrl], fun r hr => ?_⟩)
        rcases List.mem_append.mp hr with hr | hr
        · exact hrs r hr
        · rw [List.mem_singleton.mp hr]
          exact ⟨by omega, hy2, hy3⟩
      · rintro D acc H3 nD ⟨k3, p3, rows, rfl, hrl, hrs⟩ ha hD
        have nDp : D ≠ p := fun z => by rw [z, p2.at.choose_spec] at nD; cases nD
        have G3 : Grown TT H0' H3 := Grown.of g0.t ((k2.trans k3).same s1 np)
        have hRw : Rw rows := ⟨by omega, fun r hr => (hrs r hr).2.1⟩
        have hsg : (sgn rows).length ≤ 104 := by
          have := sgn_len (rows := rows) (m := 12) (fun r hr => (hrs r hr).1)
          omega
        have hok : okR rows := ⟨hRw, by omega⟩
        have hA : Asi (wt rows) := asi_wt (fun r hr => (hrs r hr).2.2)
        obtain ⟨hwl, hhl⟩ := wt_lenW hok.wid
        wtm_at "wp"
        refine ⟨D, rows, rfl, .of hD, hok.wid, fun H4 s4 => ?_⟩
        wtm_at "wp"
        refine ⟨p, 2, _, rfl, p3.mono s4 (Nat.le_refl _), by omega, by decide, by decide, fun d5 H5 d50 d51 k5 p5 => ?_⟩
        have G5 : Grown TT H0' H5 := grown_kbp (G3.same s4) np k5 (p3.mono s4 (Nat.le_refl _)).at.choose_spec
        wtm_at "wp"
        refine ⟨_, rfl, by omega, by omega, ?_⟩
        refine for_fin (n := (1 + d5).toNat) fin_rng (fun j σ H' => ∃ (v6 : Option V) (t : Str), σ = [some (.ref a), some (.int i), some (.ref p), some (.ref D), some (.str (wt rows)), some (.str t), v6, v7, v8, v9, v10, v11, v12] ∧ KB p H5 H' ∧ Pool H' p (2000 + 3 * j) ∧ Asi t ∧ t.length + 10 ≤ 210 * 2 ^ j) ⟨_, _, rfl, KB.of (.refl _), p5.mono (.refl _) (by omega), hA, by omega⟩ (fun _ _ _ _ _ => trivial) ?_ ?_
        · rintro j x σ H6 H6' hj ⟨v6', t, rfl, k6, p6, ht, htl⟩ ⟨rfl, rfl⟩
          wtm_at "wp"
          have h2j : 2 ^ j ≤ 4 := by
            have : j = 0 ∨ j = 1 := by omega
            rcases this with rfl | rfl <;> decide
          refine ⟨p, t, _, rfl, p6, by omega, ht, by omega, fun y H7 hy hyl k7 p7 => ?_⟩
          wtm_at "wp"
          exact ⟨_, y, rfl, k6.trans k7, p7.mono (.refl _) (by omega), hy, by rw [Nat.pow_succ]; omega⟩
        · rintro σ H6 ⟨v6', t, rfl, k6, p6, ht, htl⟩
          have htl : t.length ≤ 9000 := by
            have : 2 ^ (1 + d5).toNat ≤ 4 := by
              have : d5 = 0 ∨ d5 = 1 := by omega
              rcases this with rfl | rfl <;> decide
            omega
          have G6 : Grown TT H0' H6 := grown_kbp G5 np k6 p5.at.choose_spec
          have p6 := p6.mono (.refl _) (n' := 10000) (by omega)
          clear k6
          wtm_at "wp"
          refine w_decR (fun σ H' => ∃ (v6 : Option V) (t : Str), σ = [some (.ref a), some (.int i), some (.ref p), some (.ref D), some (.str (wt rows)), some (.str t), v6, v7, v8, v9, v10, v11, v12] ∧ Grown TT H0' H' ∧ Pool H' p 20000 ∧ Asi t ∧ t.length ≤ 10100) (fun _ => ⟨_, t, rfl, G6, p6.mono (.refl _) (by omega), ht, by omega⟩) (fun go hc => ?_) ?_
          · wtm_at "wp"
            refine ⟨p, 8, _, rfl, p6, by omega, by decide, by decide, fun d7 H7 d70 d71 k7 p7 => ?_⟩
            have G7 : Grown TT H0' H7 := grown_kbp G6 np k7 p6.at.choose_spec
            wtm_at "wp"
            refine w_dec (fun h7 => ?_) (fun h7 => ?_)
            · wtm_at "wp"
              rename_i q1 nq1 H8 s8 hq1 q2 nq2 H9 s9 hq2
              refine ⟨p, 3, _, rfl, p7.mono (s8.trans s9) (Nat.le_refl _), by omega, by decide, by decide, fun d10 H10 d100 d101 k10 p10 => ?_⟩
              have pn7 := p7.at.choose_spec
              have f1 := k10 _ _ (s9 _ _ hq1) (ne_of_none pn7 nq1).symm
              have f2 := k10 _ _ hq2 (ne_of_none (s8 _ _ pn7) nq2).symm
              have G10 : Grown TT H0' H10 := grown_kbp (G7.same (s8.trans s9)) np k10 ((s8.trans s9) _ _ pn7)
              have hat : ∃ m : Nat, atI [V.int 2001, V.int 9999, V.int 10000] d10 = some (.int (m : Int)) ∧ m ≤ 10000 := by
                have hd : d10 = 0 ∨ d10 = 1 ∨ d10 = 2 := by omega
                rcases hd with rfl | rfl | rfl
                · exact ⟨2001, rfl, by decide⟩
                · exact ⟨9999, rfl, by decide⟩
                · exact ⟨10000, rfl, by decide⟩
              obtain ⟨m, hat, hm⟩ := hat
              refine w_ixL (.of f2) hat ?_
              refine w_rep f1 (by omega) (by omega) (by simp; omega) (fun q3 H11 nq3 s11 hq3 => ?_)
              rw [rep_flat] at hq3
              have esg : (sgn (List.replicate m ("" : Str))).length = m := by
                rw [← sgn_sum, List.map_replicate, List.sum_replicate_nat]
                simp
                rfl
              have hw : okW (List.replicate m ("" : Str)) := ⟨by simp; exact hm, by rw [esg]; omega⟩
              wtm_at "wp"
              refine ⟨q3, _, rfl, .of hq3, hw, fun H12 s12 => ?_⟩
              obtain ⟨w1, w2⟩ := wt_lenW hw
              refine go _ _ ?_
              refine ⟨v6', wt (List.replicate m ""), rfl, G10.same (s11.trans s12), p10.mono (s11.trans s12) (by omega), asi_wt (fun r hr c hc => ?_), by omega⟩
              rw [(List.mem_replicate.mp hr).2] at hc
              exact absurd hc (by show ¬ c ∈ ([] : List Nat); simp)
            · exact go _ _ ⟨_, t, rfl, G7, p7.mono (.refl _) (by omega), ht, by omega⟩
          · rintro σ H7 ⟨v6'', t, rfl, G7, p7, ht, htl⟩
            clear p6 G6 p5 G5 p3 G3 k5 k2 k3
            wtm_at "wp"
            rename_i q1 nq1 H8 s8 hq1
            refine ⟨p, 3, _, rfl, p7.mono s8 (Nat.le_refl _), by omega, by decide, by decide, fun d9 H9 d90 d91 k9 p9 => ?_⟩
            have pn7 := p7.at.choose_spec
            have f1 := k9 _ _ hq1 (ne_of_none pn7 nq1).symm
            have G9 : Grown TT H0' H9 := grown_kbp (G7.same s8) np k9 (s8 _ _ pn7)
            have hat : ∃ m : Str, atI [V.str "", V.str "h1", V.str "s1.0"] d9 = some (.str m) ∧ PyData.strOk m = true := by
              have hd : d9 = 0 ∨ d9 = 1 ∨ d9 = 2 := by omega
              rcases hd with rfl | rfl | rfl
              · exact ⟨_, rfl, by decide +kernel⟩
              · exact ⟨_, rfl, by decide +kernel⟩
              · exact ⟨_, rfl, by decide +kernel⟩
            obtain ⟨lb, hat, hlb⟩ := hat
            refine w_ixL (.of f1) hat ?_
            have hasc : Asc t := ⟨by omega, ht⟩
            clear f1 hq1 k9 G7
            wtm_at "w1"
            refine w_asg3R (fun σ H' => ∃ v8 v9 : Option V, σ = [some (.ref a), some (.int i), some (.ref p), some (.ref D), some (.str (wt rows)), some (.str t), v6'', some (.str lb), v8, v9, v10, v11, v12] ∧ Grown TT H0' H' ∧ Pool H' p 21000) (fun N hN => ?_) ?_
            · wtm_at "wp"
              by_cases hW : isWt t
              · obtain ⟨rs, hrs, ert⟩ := hW
                have hrsA : ∀ r ∈ rs, PyData.strOk r = true := fun r hr => strOk_of (fun c hc => Nat.lt_trans (ht c (by
                  rw [← ert, cps_wt]
                  refine List.mem_append_right _ (List.mem_cons_of_mem _ ?_)
                  unfold sgn
                  exact List.mem_flatten.mpr ⟨_, List.mem_map.mpr ⟨r, hr, rfl⟩, List.mem_append_left _ hc⟩)) (by decide))
                refine ⟨t, rfl, hasc, fun hn => absurd ⟨rs, hrs, ert⟩ hn, fun rows' hr' er' q H10 nq s10 hq => ?_⟩
                obtain rfl := wt_inj hr'.2 hrs.2 (er'.trans ert.symm)
                wtm_at "wp"
                refine w_lam (G9.same s10).t (fun H11 e11 t11 => ?_)
                intro Q1 hQ1
                refine w_callN ?_
                wtm_at "wp"
                refine w_nlen rfl rfl ?_
                refine ⟨t, .str lb, rfl, hasc, fun rows2 hr2 er2 r H12 nr s12 hr12 => ?_, fun hn => absurd ⟨_, hr', er'⟩ hn⟩
                obtain rfl := wt_inj hr2.2 hr'.2 (er2.trans er'.symm)
                refine hQ1 _ _ (fun u H13 nu s13 hu13 => ?_)
                wtm_at "wp"
                rename_i c1 nc1 H14 s14 h14 c2 nc2 H15 s15 h15 c3 nc3 H16 s16 h16
                have sA := s14.trans (s15.trans s16)
                have gr : GoodD (.list [.str "told", .list (rows2.map PyData.str)]) 2 := good_list (fun d hd => by
                  simp only [List.mem_cons, List.not_mem_nil, or_false] at hd
                  rcases hd with rfl | rfl
                  · exact good_str (by decide +kernel)
                  · exact good_list (fun d hd => by
                      obtain ⟨r, hr, rfl⟩ := List.mem_map.mp hd
                      exact good_str (hrsA r hr)))
                have hq16 := sA _ _ (s13 _ _ (s12 _ _ (e11 _ _ hq (fun _ z => by cases z))))
                refine w_neG (.lst (.of (sA _ _ hu13)) (.cons (.str _) (.cons (.lst (.of (sA _ _ (s13 _ _ hr12))) (dpAll_str rows2)) .nil))) (.lst (.of (s16 _ _ (s15 _ _ h14))) (.cons (.str _) (.cons (.lst (.of hq16) (dpAll_str rows2)) .nil))) gr (by decide) ?_
                wtm_at "w1"
                wtm_at "w1"
                refine hN _ _ ⟨_, _, rfl, ((G9.same s10).trans ⟨e11, t11⟩).same (s12.trans (s13.trans sA)), (Pool.ext (p9.mono s10 (Nat.le_refl _)) e11 (Nat.le_refl _)).mono (s12.trans (s13.trans sA)) (by omega)⟩
              · refine ⟨t, rfl, hasc, fun _ H10 s10 => ?_, fun rows' hr' er' => absurd ⟨rows', hr', er'⟩ hW⟩
                wtm_at "wp"
                refine w_lam (G9.same s10).t (fun H11 e11 t11 => ?_)
                intro Q1 hQ1
                refine w_callN ?_
                wtm_at "wp"
                refine w_nlen rfl rfl ?_
                refine ⟨t, .str lb, rfl, hasc, fun rows' hr' er' => absurd ⟨rows', hr', er'⟩ hW, fun _ d H12 nd s12 hd12 => ?_⟩
                refine ⟨rfl, d, .str lb, rfl, hd12, fun u H13 nu s13 hu13 => ?_⟩
                wtm_at "wp"
                rename_i c1 nc1 H14 s14 h14 c2 nc2 H15 s15 h15 c3 nc3 H16 s16 h16
                have sA := s14.trans (s15.trans s16)
                have gr : GoodD (.list [.str "!Torn", .str lb]) 1 := good_list (fun d hd => by
                  simp only [List.mem_cons, List.not_mem_nil, or_false] at hd
                  rcases hd with rfl | rfl
                  · exact good_str (by decide +kernel)
                  · exact good_str hlb)
                refine w_neG (.lst (.of (sA _ _ hu13)) (.cons (.str _) (.cons (.str _) .nil))) (.lst (.of (s16 _ _ h15)) (.cons (.str _) (.cons (.str _) .nil))) gr (by decide) ?_
                wtm_at "w1"
                wtm_at "w1"
                refine hN _ _ ⟨_, _, rfl, ((G9.same s10).trans ⟨e11, t11⟩).same (s12.trans (s13.trans sA)), (Pool.ext (p9.mono s10 (Nat.le_refl _)) e11 (Nat.le_refl _)).mono (s12.trans (s13.trans sA)) (by omega)⟩
            · rintro σ H13 ⟨v8', v9', rfl, G13, p13⟩
              wtm_at "wp"
              refine ⟨p, _, _, rfl, p13, by omega, by omega, by omega, fun d14 H14 d140 d141 k14 p14 => ?_⟩
              have G14 : Grown TT H0' H14 := grown_kbp G13 np k14 p13.at.choose_spec
              obtain ⟨n, rfl⟩ := Int.eq_ofNat_of_zero_le d140
              have cl := fun lo hi => cut_len (wt rows) lo hi
              wtm_at "wp"
              refine ⟨p, 5, _, rfl, p14, by omega, by decide, by decide, fun d15 H15 d150 d151 k15 p15 => ?_⟩
              have G15 : Grown TT H0' H15 := grown_kbp G14 np k15 p14.at.choose_spec
              obtain ⟨cc, hat5, hcc⟩ := five_at d150 d151
              refine w_ixS (by decide +kernel) hat5 ?_
              have hor := other_of hRw hA (n := n) (c := cc) (by omega) hcc
              have hcA : Asi (⟨#[cc]⟩ : Str) := fun z hz => by
                rw [show (⟨#[cc]⟩ : Str).cps.toList = [cc] from rfl, List.mem_singleton] at hz
                rw [hz]
                exact hcc
              have hc1 : (⟨#[cc]⟩ : Str).length = 1 := rfl
              have yA : Asi (cutS (wt rows) none (some (n : Int)) ++ ⟨#[cc]⟩ ++ cutS (wt rows) (some ((n : Int) + 1)) none) := (hA.cut.app hcA).app hA.cut
              have yl : (cutS (wt rows) none (some (n : Int)) ++ ⟨#[cc]⟩ ++ cutS (wt rows) (some ((n : Int) + 1)) none).length ≤ 1000 := by
                rw [Str.length_append, Str.length_append]
                have := cl none (some (n : Int))
                have := cl (some ((n : Int) + 1)) none
                omega
              generalize (⟨#[cc]⟩ : Str) = sg at *
              wtm_at "wp"
              refine w_addS (sz (by have := cl none (some (n : Int)); omega)) ?_
              wtm_at "wp"
              refine w_addS (sz (by rw [Str.length_append] at yl; omega)) ?_
              generalize cutS (wt rows) none (some (n : Int)) ++ sg ++ cutS (wt rows) (some ((n : Int) + 1)) none = y1 at *
              have y0n : ¬ isWt (cutS (wt rows) none (some (n : Int))) := by
                rw [cut_pre (by omega)]
                exact cut_torn hRw (by rw [len_cps]; omega)
              have y0A : Asi (cutS (wt rows) none (some (n : Int))) := hA.cut
              have y0l := cl none (some (n : Int))
              wtm_at "wp"
              rename_i L16 nL16 H16 s16 h16
              have G16 : Grown TT H0' H16 := G15.same s16
              refine for_fin (fin_list (xs := [V.str (cutS (wt rows) none (some (n : Int))), V.str y1])) (fun j σ H' => ∃ v12 : Option V, σ = [some (.ref a), some (.int i), some (.ref p), some (.ref D), some (.str (wt rows)), some (.str t), v6'', some (.str lb), v8', v9', some (.int (n : Int)), some (.str y1), v12] ∧ Grown TT H16 H') ⟨_, rfl, Grown.of G16.t (.refl _)⟩ (fun j σ H' _ h => extn_seq h.choose_spec.2.e (.of h16)) ?_ ?_
              · rintro j x σ H17 H17' hj ⟨v12', rfl, G17⟩ ⟨rfl, hx⟩
                have hy : ∃ y, x = .str y ∧ Asi y ∧ y.length ≤ 1000 ∧ (y = wt rows ∨ ¬ isWt y) := by
                  have hj2 : j = 0 ∨ j = 1 := by
                    have h2 : j < 2 := hj
                    omega
                  rcases hj2 with rfl | rfl
                  · cases hx
                    exact ⟨_, rfl, y0A, by omega, .inr y0n⟩
                  · cases hx
                    exact ⟨_, rfl, yA, by omega, hor⟩
                obtain ⟨y, rfl, yAs, yl2, hy⟩ := hy
                wtm_at "wp"
                refine w_decn (fun he => ?_) (fun he => ?_)
                · exact ⟨_, rfl, G17⟩
                have hnw : ¬ isWt y := hy.resolve_left (fun z => he (by rw [z]))
                wtm_at "wp"
                refine w_lam G17.t (fun H18 e18 t18 => ?_)
                intro Q1 hQ1
                refine w_callD ?_
                wtm_at "wp"
                refine ⟨y, .str "", rfl, ⟨by omega, yAs⟩, fun rows' hr' er' => absurd ⟨rows', hr', er'⟩ hnw, fun _ d H19 nd s19 hd19 => ?_⟩
                refine ⟨rfl, d, .str "", rfl, hd19, fun u H20 nu s20 hu20 => ?_⟩
                wtm_at "wp"
                rename_i c1 nc1 H21 s21 h21
                have gr : GoodD (.list [.str "!Torn", .str ""]) 1 := good_list (fun d hd => by
                  simp only [List.mem_cons, List.not_mem_nil, or_false] at hd
                  rcases hd with rfl | rfl
                  · exact good_str (by decide +kernel)
                  · exact good_str (by decide +kernel))
                refine w_neG (.lst (.of (s21 _ _ hu20)) (.cons (.str _) (.cons (.str _) .nil))) (.lst (.of h21) (.cons (.str _) (.cons (.str _) .nil))) gr (by decide) ?_
                wtm_at "w1"
                wtm_at "w1"
                exact ⟨_, rfl, (G17.trans ⟨e18, t18⟩).same (s19.trans (s20.trans s21))⟩
              · rintro σ H17 ⟨v12', rfl, G17⟩
                exact ⟨_, _, _, _, _, _, _, _, _, _, _, _, rfl, g0.trans (G16.trans G17)⟩
    · rintro σ H1 ⟨v1, v2, v3, v4, v5, v6, v7, v8, v9, v10, v11, v12, rfl, _⟩
      wtm_at "wp"
      exact k _
end
end K65

namespace K65
theorem all_mk {l : PySem.W.OpenLaw} {w : World} {K : PySem.W.Frag} {h : Heap} {mg : Str → Option Value} {fa : Addr} (X : K.In h) (G : h.Ns mainGlobals mg) (hfa : mg "law" = some (.ref fa))
    {C_Wrong : Addr}
    {C_NoText : Addr}
    {C_NoNumber : Addr}
    {C_NoSize : Addr}
    {C_NoQuery : Addr}
    {C_NoPages : Addr}
    {C_NoName : Addr}
    {C_NoShelf : Addr}
    {C_NoDeed : Addr}
    {C_Taken : Addr}
    {C_NoSlot : Addr}
    {tc_CHECK : Tok}
    {tc_FIGURES : Tok}
    {tc_MOST_ROWS : Tok}
    {tc_MOST_FIGURES : Tok}
    {C_Broken : Addr}
    {C_Full : Addr}
    {C_Gone : Addr}
    {C_NoFile : Addr}
    {C_Torn : Addr}
    {fi_Torn : Addr} {od_Torn an_Torn : Option Addr} {sl_Torn : Array (Option Value)} {oc_Torn kV_Torn dc_Torn pm_Torn ct_Torn cd_Torn : Value}
    {f_law_kind : Addr} {od_law_kind an_law_kind : Option Addr} {sl_law_kind : Array (Option Value)} {oc_law_kind kV_law_kind dc_law_kind pm_law_kind ct_law_kind : Value} {cd_law_kind : Value}
    {f_check_of : Addr} {od_check_of an_check_of : Option Addr} {sl_check_of : Array (Option Value)} {oc_check_of kV_check_of dc_check_of pm_check_of ct_check_of : Value} {cd_check_of : Value}
    {f_check_text : Addr} {od_check_text an_check_text : Option Addr} {sl_check_text : Array (Option Value)} {oc_check_text kV_check_text dc_check_text pm_check_text ct_check_text : Value} {cd_check_text : Value}
    {f_whole_text : Addr} {od_whole_text an_whole_text : Option Addr} {sl_whole_text : Array (Option Value)} {oc_whole_text kV_whole_text dc_whole_text pm_whole_text ct_whole_text : Value} {cd_whole_text : Value}
    {f_rows_of : Addr} {od_rows_of an_rows_of : Option Addr} {sl_rows_of : Array (Option Value)} {oc_rows_of  dc_rows_of pm_rows_of ct_rows_of : Value} {cd_rows_of : Value}
    {Dk_rows_of : Addr} {tkw_rows_of_name : Tok}
    {f_law_purse : Addr} {od_law_purse an_law_purse : Option Addr} {sl_law_purse : Array (Option Value)} {oc_law_purse kV_law_purse dc_law_purse pm_law_purse ct_law_purse : Value} {cd_law_purse : Value}
    {f_law_take : Addr} {od_law_take an_law_take : Option Addr} {sl_law_take : Array (Option Value)} {oc_law_take kV_law_take dc_law_take pm_law_take ct_law_take : Value} {cd_law_take : Value}
    {f_law_row : Addr} {od_law_row an_law_row : Option Addr} {sl_law_row : Array (Option Value)} {oc_law_row kV_law_row dc_law_row pm_law_row ct_law_row : Value} {cd_law_row : Value}
    {f_law_check : Addr} {od_law_check an_law_check : Option Addr} {sl_law_check : Array (Option Value)} {oc_law_check kV_law_check dc_law_check pm_law_check ct_law_check : Value} {cd_law_check : Value}
    {f_law_whole : Addr} {od_law_whole an_law_whole : Option Addr} {sl_law_whole : Array (Option Value)} {oc_law_whole kV_law_whole dc_law_whole pm_law_whole ct_law_whole : Value} {cd_law_whole : Value}
    {f_law_bent : Addr} {od_law_bent an_law_bent : Option Addr} {sl_law_bent : Array (Option Value)} {oc_law_bent kV_law_bent dc_law_bent pm_law_bent ct_law_bent : Value} {cd_law_bent : Value}
    {f_law_due : Addr} {od_law_due an_law_due : Option Addr} {sl_law_due : Array (Option Value)} {oc_law_due kV_law_due dc_law_due pm_law_due ct_law_due : Value} {cd_law_due : Value}
    {f_law_torn : Addr} {od_law_torn an_law_torn : Option Addr} {sl_law_torn : Array (Option Value)} {oc_law_torn kV_law_torn dc_law_torn pm_law_torn ct_law_torn : Value} {cd_law_torn : Value}
    {f_law : Addr} {od_law an_law : Option Addr} {sl_law : Array (Option Value)} {oc_law kV_law dc_law pm_law ct_law : Value} {c0_law P_law : Addr}
    (aC_Wrong : PySem.W.nsIn K mainGlobals "Wrong" = some (some (.ref C_Wrong)))
    (aC_NoText : PySem.W.nsIn K mainGlobals "NoText" = some (some (.ref C_NoText)))
    (aC_NoNumber : PySem.W.nsIn K mainGlobals "NoNumber" = some (some (.ref C_NoNumber)))
    (aC_NoSize : PySem.W.nsIn K mainGlobals "NoSize" = some (some (.ref C_NoSize)))
    (aC_NoQuery : PySem.W.nsIn K mainGlobals "NoQuery" = some (some (.ref C_NoQuery)))
    (aC_NoPages : PySem.W.nsIn K mainGlobals "NoPages" = some (some (.ref C_NoPages)))
    (aC_NoName : PySem.W.nsIn K mainGlobals "NoName" = some (some (.ref C_NoName)))
    (aC_NoShelf : PySem.W.nsIn K mainGlobals "NoShelf" = some (some (.ref C_NoShelf)))
    (aC_NoDeed : PySem.W.nsIn K mainGlobals "NoDeed" = some (some (.ref C_NoDeed)))
    (aC_Taken : PySem.W.nsIn K mainGlobals "Taken" = some (some (.ref C_Taken)))
    (aC_NoSlot : PySem.W.nsIn K mainGlobals "NoSlot" = some (some (.ref C_NoSlot)))
    (g_CHECK : PySem.W.nsIn K mainGlobals "CHECK" = some (some (.int 65521 tc_CHECK)))
    (g_FIGURES : PySem.W.nsIn K mainGlobals "FIGURES" = some (some (.str "0123456789abcdef" tc_FIGURES)))
    (g_MOST_ROWS : PySem.W.nsIn K mainGlobals "MOST_ROWS" = some (some (.int 9999 tc_MOST_ROWS)))
    (g_MOST_FIGURES : PySem.W.nsIn K mainGlobals "MOST_FIGURES" = some (some (.int 4 tc_MOST_FIGURES)))
    (z_isinstance : PySem.W.nsIn K mainGlobals "isinstance" = some none)
    (z_bool : PySem.W.nsIn K mainGlobals "bool" = some none)
    (z_int : PySem.W.nsIn K mainGlobals "int" = some none)
    (z_str : PySem.W.nsIn K mainGlobals "str" = some none)
    (z_list : PySem.W.nsIn K mainGlobals "list" = some none)
    (z_tuple : PySem.W.nsIn K mainGlobals "tuple" = some none)
    (z_len : PySem.W.nsIn K mainGlobals "len" = some none)
    (z_max : PySem.W.nsIn K mainGlobals "max" = some none)
    (z_min : PySem.W.nsIn K mainGlobals "min" = some none)
    (z_range : PySem.W.nsIn K mainGlobals "range" = some none)
    (z_abs : PySem.W.nsIn K mainGlobals "abs" = some none)
    (z_ord : PySem.W.nsIn K mainGlobals "ord" = some none)
    (z_RuntimeError : PySem.W.nsIn K mainGlobals "RuntimeError" = some none)
    (z_OverflowError : PySem.W.nsIn K mainGlobals "OverflowError" = some none)
    (z_KeyError : PySem.W.nsIn K mainGlobals "KeyError" = some none)
    (z_LookupError : PySem.W.nsIn K mainGlobals "LookupError" = some none)
    (z_ValueError : PySem.W.nsIn K mainGlobals "ValueError" = some none)
    (z_IndexError : PySem.W.nsIn K mainGlobals "IndexError" = some none)
    (aC_Broken : PySem.W.nsIn K mainGlobals "Broken" = some (some (.ref C_Broken)))
    (aC_Full : PySem.W.nsIn K mainGlobals "Full" = some (some (.ref C_Full)))
    (aC_Gone : PySem.W.nsIn K mainGlobals "Gone" = some (some (.ref C_Gone)))
    (aC_NoFile : PySem.W.nsIn K mainGlobals "NoFile" = some (some (.ref C_NoFile)))
    (aC_Torn : PySem.W.nsIn K mainGlobals "Torn" = some (some (.ref C_Torn)))
    (oex_Torn : OexB "RuntimeError.__new__" [.type "RuntimeError", .type "Exception", .type "BaseException", .type "object"] K C_Torn)
    (no_Torn : PySem.W.findIn K (.ref C_Torn) "name" = some none)
    (i_Torn : PySem.W.findIn K (.ref C_Torn) "__init__" = some (some (.ref fi_Torn)))
    (ti_Torn : PySem.W.typeIn K (.ref fi_Torn) = some (.type "function"))
    (l_Torn : K.lookup fi_Torn = some ⟨oc_Torn, od_Torn, .func (PySem.W.fnOf "__init__" "Torn.__init__" (defArgs s_Torn___init__) (defBody s_Torn___init__) (defScope s_Torn___init__) .none kV_Torn dc_Torn pm_Torn an_Torn cd_Torn ct_Torn), sl_Torn⟩)
    (c_Torn : PySem.W.codeIn K cd_Torn "Torn.__init__" = true)
    (k_Torn : PySem.W.keepIn K (.ref fi_Torn) = true)
    (iv_RuntimeError : PySem.W.findCls K (.type "RuntimeError") (.type "type") "__init__" = some (.val (.builtin "RuntimeError.__init__")))
    (k2_Torn : kind2B K [C_Broken, C_Full, C_Gone, C_NoDeed, C_NoFile, C_NoName, C_NoNumber, C_NoPages, C_NoQuery, C_NoShelf, C_NoSize, C_NoSlot, C_NoText, C_Taken, C_Torn] C_Wrong C_Torn 14 = true)
    (hx_Torn : PySem.W.exmAny K (.ref C_Torn) [.ref C_Torn, .ref C_NoFile] = some true)
    (a_law_kind : PySem.W.nsIn K mainGlobals "_law_kind" = some (some (.ref f_law_kind)))
    (l_law_kind : K.lookup f_law_kind = some ⟨oc_law_kind, od_law_kind, .func (PySem.W.fnOf "_law_kind" "_law_kind" (defArgs s_law_kind) (defBody s_law_kind) (defScope s_law_kind) .none kV_law_kind dc_law_kind pm_law_kind an_law_kind cd_law_kind ct_law_kind), sl_law_kind⟩)
    (c_law_kind : PySem.W.codeIn K cd_law_kind "_law_kind" = true)
    (k_law_kind : PySem.W.keepIn K (.ref f_law_kind) = true)
    (a_check_of : PySem.W.nsIn K mainGlobals "check_of" = some (some (.ref f_check_of)))
    (l_check_of : K.lookup f_check_of = some ⟨oc_check_of, od_check_of, .func (PySem.W.fnOf "check_of" "check_of" (defArgs s_check_of) (defBody s_check_of) (defScope s_check_of) .none kV_check_of dc_check_of pm_check_of an_check_of cd_check_of ct_check_of), sl_check_of⟩)
    (c_check_of : PySem.W.codeIn K cd_check_of "check_of" = true)
    (k_check_of : PySem.W.keepIn K (.ref f_check_of) = true)
    (a_check_text : PySem.W.nsIn K mainGlobals "check_text" = some (some (.ref f_check_text)))
    (l_check_text : K.lookup f_check_text = some ⟨oc_check_text, od_check_text, .func (PySem.W.fnOf "check_text" "check_text" (defArgs s_check_text) (defBody s_check_text) (defScope s_check_text) .none kV_check_text dc_check_text pm_check_text an_check_text cd_check_text ct_check_text), sl_check_text⟩)
    (c_check_text : PySem.W.codeIn K cd_check_text "check_text" = true)
    (k_check_text : PySem.W.keepIn K (.ref f_check_text) = true)
    (a_whole_text : PySem.W.nsIn K mainGlobals "whole_text" = some (some (.ref f_whole_text)))
    (l_whole_text : K.lookup f_whole_text = some ⟨oc_whole_text, od_whole_text, .func (PySem.W.fnOf "whole_text" "whole_text" (defArgs s_whole_text) (defBody s_whole_text) (defScope s_whole_text) .none kV_whole_text dc_whole_text pm_whole_text an_whole_text cd_whole_text ct_whole_text), sl_whole_text⟩)
    (c_whole_text : PySem.W.codeIn K cd_whole_text "whole_text" = true)
    (k_whole_text : PySem.W.keepIn K (.ref f_whole_text) = true)
    (a_rows_of : PySem.W.nsIn K mainGlobals "rows_of" = some (some (.ref f_rows_of)))
    (l_rows_of : K.lookup f_rows_of = some ⟨oc_rows_of, od_rows_of, .func (PySem.W.fnOf "rows_of" "rows_of" (defArgs s_rows_of) (defBody s_rows_of) (defScope s_rows_of) .none (.ref Dk_rows_of) dc_rows_of pm_rows_of an_rows_of cd_rows_of ct_rows_of), sl_rows_of⟩)
    (kw_rows_of_name : PySem.W.nsIn K Dk_rows_of "name" = some (some (.str "" tkw_rows_of_name)))
    (c_rows_of : PySem.W.codeIn K cd_rows_of "rows_of" = true)
    (k_rows_of : PySem.W.keepIn K (.ref f_rows_of) = true)
    (a_law_purse : PySem.W.nsIn K mainGlobals "_law_purse" = some (some (.ref f_law_purse)))
    (l_law_purse : K.lookup f_law_purse = some ⟨oc_law_purse, od_law_purse, .func (PySem.W.fnOf "_law_purse" "_law_purse" (defArgs s_law_purse) (defBody s_law_purse) (defScope s_law_purse) .none kV_law_purse dc_law_purse pm_law_purse an_law_purse cd_law_purse ct_law_purse), sl_law_purse⟩)
    (c_law_purse : PySem.W.codeIn K cd_law_purse "_law_purse" = true)
    (k_law_purse : PySem.W.keepIn K (.ref f_law_purse) = true)
    (a_law_take : PySem.W.nsIn K mainGlobals "_law_take" = some (some (.ref f_law_take)))
    (l_law_take : K.lookup f_law_take = some ⟨oc_law_take, od_law_take, .func (PySem.W.fnOf "_law_take" "_law_take" (defArgs s_law_take) (defBody s_law_take) (defScope s_law_take) .none kV_law_take dc_law_take pm_law_take an_law_take cd_law_take ct_law_take), sl_law_take⟩)
    (c_law_take : PySem.W.codeIn K cd_law_take "_law_take" = true)
    (k_law_take : PySem.W.keepIn K (.ref f_law_take) = true)
    (a_law_row : PySem.W.nsIn K mainGlobals "_law_row" = some (some (.ref f_law_row)))
    (l_law_row : K.lookup f_law_row = some ⟨oc_law_row, od_law_row, .func (PySem.W.fnOf "_law_row" "_law_row" (defArgs s_law_row) (defBody s_law_row) (defScope s_law_row) .none kV_law_row dc_law_row pm_law_row an_law_row cd_law_row ct_law_row), sl_law_row⟩)
    (c_law_row : PySem.W.codeIn K cd_law_row "_law_row" = true)
    (k_law_row : PySem.W.keepIn K (.ref f_law_row) = true)
    (a_law_check : PySem.W.nsIn K mainGlobals "_law_check" = some (some (.ref f_law_check)))
    (l_law_check : K.lookup f_law_check = some ⟨oc_law_check, od_law_check, .func (PySem.W.fnOf "_law_check" "_law_check" (defArgs s_law_check) (defBody s_law_check) (defScope s_law_check) .none kV_law_check dc_law_check pm_law_check an_law_check cd_law_check ct_law_check), sl_law_check⟩)
    (c_law_check : PySem.W.codeIn K cd_law_check "_law_check" = true)
    (k_law_check : PySem.W.keepIn K (.ref f_law_check) = true)
    (a_law_whole : PySem.W.nsIn K mainGlobals "_law_whole" = some (some (.ref f_law_whole)))
    (l_law_whole : K.lookup f_law_whole = some ⟨oc_law_whole, od_law_whole, .func (PySem.W.fnOf "_law_whole" "_law_whole" (defArgs s_law_whole) (defBody s_law_whole) (defScope s_law_whole) .none kV_law_whole dc_law_whole pm_law_whole an_law_whole cd_law_whole ct_law_whole), sl_law_whole⟩)
    (c_law_whole : PySem.W.codeIn K cd_law_whole "_law_whole" = true)
    (k_law_whole : PySem.W.keepIn K (.ref f_law_whole) = true)
    (a_law_bent : PySem.W.nsIn K mainGlobals "_law_bent" = some (some (.ref f_law_bent)))
    (l_law_bent : K.lookup f_law_bent = some ⟨oc_law_bent, od_law_bent, .func (PySem.W.fnOf "_law_bent" "_law_bent" (defArgs s_law_bent) (defBody s_law_bent) (defScope s_law_bent) .none kV_law_bent dc_law_bent pm_law_bent an_law_bent cd_law_bent ct_law_bent), sl_law_bent⟩)
    (c_law_bent : PySem.W.codeIn K cd_law_bent "_law_bent" = true)
    (k_law_bent : PySem.W.keepIn K (.ref f_law_bent) = true)
    (a_law_due : PySem.W.nsIn K mainGlobals "_law_due" = some (some (.ref f_law_due)))
    (l_law_due : K.lookup f_law_due = some ⟨oc_law_due, od_law_due, .func (PySem.W.fnOf "_law_due" "_law_due" (defArgs s_law_due) (defBody s_law_due) (defScope s_law_due) .none kV_law_due dc_law_due pm_law_due an_law_due cd_law_due ct_law_due), sl_law_due⟩)
    (c_law_due : PySem.W.codeIn K cd_law_due "_law_due" = true)
    (k_law_due : PySem.W.keepIn K (.ref f_law_due) = true)
    (a_law_torn : PySem.W.nsIn K mainGlobals "_law_torn" = some (some (.ref f_law_torn)))
    (l_law_torn : K.lookup f_law_torn = some ⟨oc_law_torn, od_law_torn, .func (PySem.W.fnOf "_law_torn" "_law_torn" (defArgs s_law_torn) (defBody s_law_torn) (defScope s_law_torn) .none kV_law_torn dc_law_torn pm_law_torn an_law_torn cd_law_torn ct_law_torn), sl_law_torn⟩)
    (c_law_torn : PySem.W.codeIn K cd_law_torn "_law_torn" = true)
    (k_law_torn : PySem.W.keepIn K (.ref f_law_torn) = true)
    (a_law : PySem.W.nsIn K mainGlobals "law" = some (some (.ref f_law)))
    (l_law : K.lookup f_law = some ⟨oc_law, od_law, .func (PySem.W.fnOf "law" "law" (defArgs s_law) (defBody s_law) (defScope s_law) .none kV_law dc_law pm_law an_law (.ref c0_law) ct_law), sl_law⟩)
    (c_law : PySem.W.codeIn K (.ref c0_law) "law" = true)
    (k_law : PySem.W.keepIn K (.ref f_law) = true)
    (t_law : h.get? P_law = some (PySem.W.tabObj #[]))
    (ch_law : PySem.W.codeHdIn K c0_law P_law = true)
    (nk_law : K.lookup P_law = none) :
    LamX.LawAtS l w K CX0 16 63 "_law_script" mg fa h := by
  have e := hfa.symm.trans (PySem.W.mg_of X G a_law)
  cases e
  have T : Txt K mg (⟨C_Wrong, C_Wrong, C_NoText, C_NoNumber, C_NoSize, C_Wrong, C_NoQuery, C_Wrong, C_Wrong, C_Wrong, C_Wrong, C_NoPages, C_NoName, C_Wrong, C_NoShelf, C_NoDeed, C_Taken, C_Wrong, C_NoSlot⟩ : Zs) C_Broken C_Full C_Gone C_NoFile C_Torn := { c_CHECK := ⟨_, PySem.W.mg_of X G g_CHECK⟩, c_FIGURES := ⟨_, PySem.W.mg_of X G g_FIGURES⟩, c_MOST_ROWS := ⟨_, PySem.W.mg_of X G g_MOST_ROWS⟩, c_MOST_FIGURES := ⟨_, PySem.W.mg_of X G g_MOST_FIGURES⟩, n_isinstance := PySem.W.mg_none_of X G z_isinstance, n_bool := PySem.W.mg_none_of X G z_bool, n_int := PySem.W.mg_none_of X G z_int, n_str := PySem.W.mg_none_of X G z_str, n_list := PySem.W.mg_none_of X G z_list, n_tuple := PySem.W.mg_none_of X G z_tuple, n_len := PySem.W.mg_none_of X G z_len, n_max := PySem.W.mg_none_of X G z_max, n_min := PySem.W.mg_none_of X G z_min, n_range := PySem.W.mg_none_of X G z_range, n_abs := PySem.W.mg_none_of X G z_abs, n_ord := PySem.W.mg_none_of X G z_ord, n_RuntimeError := PySem.W.mg_none_of X G z_RuntimeError, n_OverflowError := PySem.W.mg_none_of X G z_OverflowError, n_KeyError := PySem.W.mg_none_of X G z_KeyError, n_LookupError := PySem.W.mg_none_of X G z_LookupError, n_ValueError := PySem.W.mg_none_of X G z_ValueError, n_IndexError := PySem.W.mg_none_of X G z_IndexError, m_Wrong := PySem.W.mg_of X G aC_Wrong, m_NoText := PySem.W.mg_of X G aC_NoText, m_NoNumber := PySem.W.mg_of X G aC_NoNumber, m_NoSize := PySem.W.mg_of X G aC_NoSize, m_NoQuery := PySem.W.mg_of X G aC_NoQuery, m_NoPages := PySem.W.mg_of X G aC_NoPages, m_NoName := PySem.W.mg_of X G aC_NoName, m_NoShelf := PySem.W.mg_of X G aC_NoShelf, m_NoDeed := PySem.W.mg_of X G aC_NoDeed, m_Taken := PySem.W.mg_of X G aC_Taken, m_NoSlot := PySem.W.mg_of X G aC_NoSlot, m_Broken := PySem.W.mg_of X G aC_Broken, m_Full := PySem.W.mg_of X G aC_Full, m_Gone := PySem.W.mg_of X G aC_Gone, m_NoFile := PySem.W.mg_of X G aC_NoFile, m_Torn := PySem.W.mg_of X G aC_Torn }
  have F_law_kind := fun_mk (st := s_law_kind) l_law_kind c_law_kind k_law_kind
  have b_law_kind := F_law_kind.binds (ps := ["_law_e"]) fun _ _ _ _ _ _ us hl => match us, hl with | [_], _ => rfl
  have F_check_of := fun_mk (st := s_check_of) l_check_of c_check_of k_check_of
  have b_check_of := F_check_of.binds (ps := ["rows"]) fun _ _ _ _ _ _ us hl => match us, hl with | [_], _ => rfl
  have F_check_text := fun_mk (st := s_check_text) l_check_text c_check_text k_check_text
  have b_check_text := F_check_text.binds (ps := ["check"]) fun _ _ _ _ _ _ us hl => match us, hl with | [_], _ => rfl
  have F_whole_text := fun_mk (st := s_whole_text) l_whole_text c_whole_text k_whole_text
  have b_whole_text := F_whole_text.binds (ps := ["rows"]) fun _ _ _ _ _ _ us hl => match us, hl with | [_], _ => rfl
  have F_rows_of : FunD K "rows_of" "rows_of" (defArgs s_rows_of) (defBody s_rows_of) (defScope s_rows_of) [] [("name", .str "")] f_rows_of _ := ⟨⟨_, _, _, _, _, _, _, _, _, _, rfl, l_rows_of, c_rows_of, .inl ⟨rfl, rfl⟩, .inr ⟨_, rfl, fun q hq => by
    simp only [List.mem_cons, List.not_mem_nil, or_false] at hq
    rcases hq with rfl
    · exact ⟨_, kw_rows_of_name, by first | exact ⟨_, rfl⟩ | rfl⟩⟩⟩, k_rows_of⟩
  have F_law_purse := fun_mk (st := s_law_purse) l_law_purse c_law_purse k_law_purse
  have b_law_purse := F_law_purse.binds (ps := ["_law_script", "_law_at"]) fun _ _ _ _ _ _ us hl => match us, hl with | [_, _], _ => rfl
  have F_law_take := fun_mk (st := s_law_take) l_law_take c_law_take k_law_take
  have b_law_take := F_law_take.binds (ps := ["_law_purse_here", "_law_many"]) fun _ _ _ _ _ _ us hl => match us, hl with | [_, _], _ => rfl
  have F_law_row := fun_mk (st := s_law_row) l_law_row c_law_row k_law_row
  have b_law_row := F_law_row.binds (ps := ["_law_purse_here", "_law_most"]) fun _ _ _ _ _ _ us hl => match us, hl with | [_, _], _ => rfl
  have F_law_check := fun_mk (st := s_law_check) l_law_check c_law_check k_law_check
  have b_law_check := F_law_check.binds (ps := ["_law_rows"]) fun _ _ _ _ _ _ us hl => match us, hl with | [_], _ => rfl
  have F_law_whole := fun_mk (st := s_law_whole) l_law_whole c_law_whole k_law_whole
  have b_law_whole := F_law_whole.binds (ps := ["_law_rows"]) fun _ _ _ _ _ _ us hl => match us, hl with | [_], _ => rfl
  have F_law_bent := fun_mk (st := s_law_bent) l_law_bent c_law_bent k_law_bent
  have b_law_bent := F_law_bent.binds (ps := ["_law_purse_here", "_law_text"]) fun _ _ _ _ _ _ us hl => match us, hl with | [_, _], _ => rfl
  have F_law_due := fun_mk (st := s_law_due) l_law_due c_law_due k_law_due
  have b_law_due := F_law_due.binds (ps := ["_law_text"]) fun _ _ _ _ _ _ us hl => match us, hl with | [_], _ => rfl
  have F_law_torn := fun_mk (st := s_law_torn) l_law_torn c_law_torn k_law_torn
  have b_law_torn := F_law_torn.binds (ps := ["_law_deed"]) fun _ _ _ _ _ _ us hl => match us, hl with | [_], _ => rfl
  have FC_law := funC_mk (st := s_law) l_law c_law k_law
  have F_law := FC_law.fun_
  refine ⟨PySem.W.fnOf "law" "law" (defArgs s_law) (defBody s_law) (defScope s_law) .none kV_law dc_law pm_law an_law (.ref c0_law) ct_law, [(c0_law, P_law)], spLaw K [(P_law, lamN "law")], ?_, ?_, ?_, fun s v => .of_eq rfl, ?_, fun base _ _ hTB => ?_⟩
  · intro p hp
    simp only [List.mem_cons, List.not_mem_nil, or_false] at hp
    rcases hp with rfl
    · exact t_law
  · intro p hp
    simp only [List.mem_cons, List.not_mem_nil, or_false] at hp
    rcases hp with rfl
    · exact nk_law
  · intro p hp
    simp only [List.mem_cons, List.not_mem_nil, or_false] at hp
    rcases hp with rfl
    · exact PySem.W.codeHd_of_K X ch_law
  · intro H a ns hl _ hE hS
    refine ⟨a, ns, rfl, hS, hl, fun p hp => ?_, fun _ => rfl⟩
    simp only [List.mem_cons, List.not_mem_nil, or_false] at hp
    rcases hp with rfl
    · exact LamX.TabS.nil (hE (c0_law, P_law) (by simp))
  have tb_law := hTB (c0_law, P_law) (by simp)
  have Fi_Torn := fun_mk (st := s_Torn___init__) l_Torn c_Torn k_Torn
  have bi_Torn := Fi_Torn.binds (ps := ["self", "name"]) fun _ _ _ _ _ _ us hl => match us, hl with | [_, _], _ => rfl
  have x1_Torn : Xcb "RuntimeError.__new__" [.type "RuntimeError", .type "Exception", .type "BaseException", .type "object"] l.prog w K mg base "Torn" C_Torn 1 "name" := ⟨oex_Torn, no_Torn, PySem.W.mg_of X G aC_Torn, _, _, _, i_Torn, ti_Torn, xbi_Torn Fi_Torn T.n_RuntimeError iv_RuntimeError, bi_Torn⟩
  have f__law_kind : FnQ l.prog w K mg base "_law_kind" _ _ _ := ⟨_, _, ok_kind2 F_law_kind T, PySem.W.mg_of X G a_law_kind, k_law_kind, b_law_kind⟩
  have f_check_of : Fn l.prog w K mg base "check_of" _ _ _ := ⟨_, _, ok_check F_check_of T, PySem.W.mg_of X G a_check_of, k_check_of, b_check_of⟩
  have f_check_text : Fn l.prog w K mg base "check_text" _ _ _ := ⟨_, _, ok_checkt F_check_text T, PySem.W.mg_of X G a_check_text, k_check_text, b_check_text⟩
  have f_whole_text : Fn l.prog w K mg base "whole_text" _ _ _ := ⟨_, _, ok_wt F_whole_text T f_check_of f_check_text, PySem.W.mg_of X G a_whole_text, k_whole_text, b_whole_text⟩
  have G_rows := ok_rows (P := l.prog) (w := w) (base := base) F_rows_of T x1_Torn f_check_of f_whole_text
  obtain ⟨d1, hd1, hb1⟩ := F_rows_of.binds0 (ps := ["text", "name"]) 1 (by simp) rfl (fun D doc pm an cdv ct us ks h1 h2 => match us, ks, h1, h2 with | [_], [_], _, _ => ⟨_, _, _, _, _, _, rfl, rfl, rfl⟩)
  obtain ⟨mv, hb2⟩ := F_rows_of.kbinds0 (ps := ["text", "name"]) 1 ["name"] [] (fun us _ ws => us ++ ws) (by simp) (by simp) (fun a b c => a.append c) (fun D doc pm an cdv ct us mv ws h1 h2 h3 => match us, mv, ws, h1, h2, h3 with | [_], [], [_], _, _, _ => rfl)
  have f_rows_of_1 : FnD l.prog w K mg base (CXc l.prog w) "rows_of" _ _ [.str ""] _ := ⟨_, _, _, G_rows, PySem.W.mg_of X G a_rows_of, k_rows_of, hb1, hd1⟩
  have f_rows_of_name : FnK l.prog w K mg base (CXc l.prog w) "rows_of" _ _ 1 ["name"] (fun vs zs => vs ++ zs) _ := ⟨_, _, _, G_rows, PySem.W.mg_of X G a_rows_of, k_rows_of, hb2⟩
  have f__law_purse : Fn l.prog w K mg base "_law_purse" _ _ _ := ⟨_, _, ok_pool F_law_purse T, PySem.W.mg_of X G a_law_purse, k_law_purse, b_law_purse⟩
  have f__law_take : Fn l.prog w K mg base "_law_take" _ _ _ := ⟨_, _, ok_take F_law_take , PySem.W.mg_of X G a_law_take, k_law_take, b_law_take⟩
  have f__law_row : Fn l.prog w K mg base "_law_row" _ _ _ := ⟨_, _, ok_row F_law_row T f__law_take, PySem.W.mg_of X G a_law_row, k_law_row, b_law_row⟩
  have f__law_check : Fn l.prog w K mg base "_law_check" _ _ _ := ⟨_, _, ok_checkL F_law_check T, PySem.W.mg_of X G a_law_check, k_law_check, b_law_check⟩
  have f__law_whole : Fn l.prog w K mg base "_law_whole" _ _ _ := ⟨_, _, ok_whole F_law_whole T f__law_check, PySem.W.mg_of X G a_law_whole, k_law_whole, b_law_whole⟩
  have f__law_bent : Fn l.prog w K mg base "_law_bent" _ _ _ := ⟨_, _, ok_bent F_law_bent T f__law_take, PySem.W.mg_of X G a_law_bent, k_law_bent, b_law_bent⟩
  have f__law_due : Fn l.prog w K mg base "_law_due" _ _ _ := ⟨_, _, ok_due F_law_due T f__law_whole, PySem.W.mg_of X G a_law_due, k_law_due, b_law_due⟩
  have f__law_torn := torn_asks (P := l.prog) (w := w) (base := base) T F_law_torn (PySem.W.mg_of X G a_law_torn) b_law_torn (kind2B_ok k2_Torn) hx_Torn no_Torn f__law_kind
  exact ok_law FC_law T tb_law List.mem_cons_self (fun p hp _ => by rw [List.mem_singleton.mp hp]) f__law_purse f__law_take f__law_row f__law_whole f__law_bent f__law_due f_rows_of_1 f_rows_of_name f__law_torn
end K65

open PySem PySem.W PySem.Calls PyProof.Rows
set_option maxRecDepth 100000 in
set_option maxHeartbeats 0 in
theorem PySem.Challenge.cw_blocksearch_k65_torn_texts_refused_holds : PySem.Challenge.rw_blocksearch_k65_torn_texts_refused.Holds := by
  refine topK65 ?_
  k_fill
  refine LamX.walk_ofTsE (l := PySem.Challenge.rw_blocksearch_k65_torn_texts_refused) (n := 63) (k := 16) (x := "_law_script") (CX := fun _ => L2.CX0) rfl (by decide) rfl ⟨rfl, by decide, by decide⟩ ?F (fun _ _ _ _ _ h => h.elim)
  case F =>
    intro w mg fa h Y G hmg
    refine ⟨_, PySem.W.km_in_of Y, ?_⟩
    refine' K65.all_mk (PySem.W.km_in_of Y) G hmg ?aC_Wrong ?aC_NoText ?aC_NoNumber ?aC_NoSize ?aC_NoQuery ?aC_NoPages ?aC_NoName ?aC_NoShelf ?aC_NoDeed ?aC_Taken ?aC_NoSlot ?g_CHECK ?g_FIGURES ?g_MOST_ROWS ?g_MOST_FIGURES ?z_isinstance ?z_bool ?z_int ?z_str ?z_list ?z_tuple ?z_len ?z_max ?z_min ?z_range ?z_abs ?z_ord ?z_RuntimeError ?z_OverflowError ?z_KeyError ?z_LookupError ?z_ValueError ?z_IndexError ?aC_Broken ?aC_Full ?aC_Gone ?aC_NoFile ?aC_Torn ?oex_Torn ?no_Torn ?i_Torn ?ti_Torn ?l_Torn ?c_Torn ?k_Torn ?iv_RuntimeError ?k2_Torn ?hx_Torn ?a_law_kind ?l_law_kind ?c_law_kind ?k_law_kind ?a_check_of ?l_check_of ?c_check_of ?k_check_of ?a_check_text ?l_check_text ?c_check_text ?k_check_text ?a_whole_text ?l_whole_text ?c_whole_text ?k_whole_text ?a_rows_of ?l_rows_of ?kw_rows_of_name ?c_rows_of ?k_rows_of ?a_law_purse ?l_law_purse ?c_law_purse ?k_law_purse ?a_law_take ?l_law_take ?c_law_take ?k_law_take ?a_law_row ?l_law_row ?c_law_row ?k_law_row ?a_law_check ?l_law_check ?c_law_check ?k_law_check ?a_law_whole ?l_law_whole ?c_law_whole ?k_law_whole ?a_law_bent ?l_law_bent ?c_law_bent ?k_law_bent ?a_law_due ?l_law_due ?c_law_due ?k_law_due ?a_law_torn ?l_law_torn ?c_law_torn ?k_law_torn ?a_law ?l_law ?c_law ?k_law ?t_law ?ch_law ?nk_law
    (case aC_Wrong => k_is); (case aC_NoText => k_is); (case aC_NoNumber => k_is); (case aC_NoSize => k_is); (case aC_NoQuery => k_is); (case aC_NoPages => k_is); (case aC_NoName => k_is); (case aC_NoShelf => k_is); (case aC_NoDeed => k_is); (case aC_Taken => k_is); (case aC_NoSlot => k_is); (case g_CHECK => k_is); (case g_FIGURES => k_is); (case g_MOST_ROWS => k_is); (case g_MOST_FIGURES => k_is); (case z_isinstance => k_is); (case z_bool => k_is); (case z_int => k_is); (case z_str => k_is); (case z_list => k_is); (case z_tuple => k_is); (case z_len => k_is); (case z_max => k_is); (case z_min => k_is); (case z_range => k_is); (case z_abs => k_is); (case z_ord => k_is); (case z_RuntimeError => k_is); (case z_OverflowError => k_is); (case z_KeyError => k_is); (case z_LookupError => k_is); (case z_ValueError => k_is); (case z_IndexError => k_is); (case aC_Broken => k_is); (case aC_Full => k_is); (case aC_Gone => k_is); (case aC_NoFile => k_is); (case aC_Torn => k_is); (case oex_Torn => (refine' oexb_mk ?ol ?or ?oa ?ob ?oc ?od; (case ol => k_is); (case or => rfl); (case oa => k_is); (case ob => k_is); (case oc => k_is); (case od => k_is))); (case no_Torn => k_is); (case i_Torn => k_is); (case ti_Torn => k_is); (case l_Torn => k_is); (case c_Torn => k_is); (case k_Torn => k_is); (case iv_RuntimeError => k_is); (case k2_Torn => exact Eq.refl true); (case hx_Torn => exact Eq.refl _); (case a_law_kind => k_is); (case l_law_kind => k_is); (case c_law_kind => k_is); (case k_law_kind => k_is); (case a_check_of => k_is); (case l_check_of => k_is); (case c_check_of => k_is); (case k_check_of => k_is); (case a_check_text => k_is); (case l_check_text => k_is); (case c_check_text => k_is); (case k_check_text => k_is); (case a_whole_text => k_is); (case l_whole_text => k_is); (case c_whole_text => k_is); (case k_whole_text => k_is); (case a_rows_of => k_is); (case l_rows_of => k_is); (case kw_rows_of_name => k_is); (case c_rows_of => k_is); (case k_rows_of => k_is); (case a_law_purse => k_is); (case l_law_purse => k_is); (case c_law_purse => k_is); (case k_law_purse => k_is); (case a_law_take => k_is); (case l_law_take => k_is); (case c_law_take => k_is); (case k_law_take => k_is); (case a_law_row => k_is); (case l_law_row => k_is); (case c_law_row => k_is); (case k_law_row => k_is); (case a_law_check => k_is); (case l_law_check => k_is); (case c_law_check => k_is); (case k_law_check => k_is); (case a_law_whole => k_is); (case l_law_whole => k_is); (case c_law_whole => k_is); (case k_law_whole => k_is); (case a_law_bent => k_is); (case l_law_bent => k_is); (case c_law_bent => k_is); (case k_law_bent => k_is); (case a_law_due => k_is); (case l_law_due => k_is); (case c_law_due => k_is); (case k_law_due => k_is); (case a_law_torn => k_is); (case l_law_torn => k_is); (case c_law_torn => k_is); (case k_law_torn => k_is); (case a_law => k_is); (case l_law => k_is); (case c_law => k_is); (case k_law => k_is); (case t_law => exact PySem.W.km_tabs_of Y _ List.mem_cons_self); (case ch_law => exact Eq.refl true); (case nk_law => exact Eq.refl none)

