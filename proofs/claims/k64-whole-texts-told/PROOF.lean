import PyProof.Rows.All
import Wide.All
import OpenK.AllK
import Wide.FinOn
import HandS.ForMost
import HandS.Evl
import HandS.Wide
import HandS.IsInst
import HandS.Exc
import HandS.Defaults
import HandS.TryMany
import HandS.ExcOwn
import HandS.ExcIs
import HandS.HotCalls
import HandS.ExcField
import HandS.Lambda
import HandS.ExcInit
import HandS.WordsExc
import HandS.Deep
import KE.KExcIs
import KE.DataFind
import HandS.Small
import HandS.RaiseMore
import HandS.Steps
import PyProof.CollectIter
import PyProof.WalksMore
import HandS.More
import HandS.WideBits
import HandS.Replace
import HandS.SetKeys
import HandS.MakeKwOnly
import HandS.IntHex
import HandS.StrMore
import HandS.Rindex
import PyProof.Rows.StrNews2
import PyProof.StrLawsLast
import HandS.HeadWalk
import PySem.Challenge.RW_blocksearch_k64_whole_texts_told
set_option Elab.async false
set_option linter.all false
set_option maxRecDepth 100000
set_option maxHeartbeats 4000000
set_option autoImplicit false
/-! The layer of this work: bundles of defs, readings as steps. -/
namespace Bw
open PySem PySem.Spec L2

/-! ### a def that lets nothing out, as its callers want it -/
structure Fn (P : Program) (w : World) (K : PySem.W.Frag) (mg : Str → Option Value) (base : Heap) (x : Str) (k : Nat) (ps : List Str) (sp : Sp) : Prop where
  ex : ∃ (f : Addr) (fd : FuncData), FnOk P w K mg base CX0 k f fd ps sp ∧ mg x = some (.ref f) ∧ PySem.W.keepIn K (.ref f) = true ∧ Binds K fd ps []
section
variable {X : Cx}
theorem pe_fn {x : Str} {k : Nat} {ps : List Str} {sp : Sp} {e : Expr} {es : List Expr} {t : TA} {p pos : Pos} (F : Fn X.prog X.w X.K X.mg X.base x k ps sp) (hr : Room k X.A) (hg : Gl X x) (ha : PA X (e :: es) t)
    (hdb : (x == ("__debug__" : Str)) = false := by decide) (he : starEach (e :: es) X.env = (false, eval e X.env) :: starEach es X.env := by rfl) (hpl : (backTo pos (starEach es X.env)).any (·.1) = false := by rfl) :
    PE X (.Call (.Name x p) (e :: es) [] pos) (tCall sp [] E0 t) := by
  obtain ⟨f, fd, G, hm, hk, hb⟩ := F.ex
  exact pe_call G hr hg hm hk hb .nil pass0 ha hdb he hpl
theorem pe_fn0 {x : Str} {k : Nat} {ps : List Str} {sp : Sp} {p pos : Pos} (F : Fn X.prog X.w X.K X.mg X.base x k ps sp) (hr : Room k X.A) (hg : Gl X x)
    (hdb : (x == ("__debug__" : Str)) = false := by decide) : PE X (.Call (.Name x p) [] [] pos) (tCall sp [] E0 tNil) := by
  obtain ⟨f, fd, G, hm, hk, hb⟩ := F.ex
  exact pe_call0 G hr hg hm hk hb .nil pass0 hdb
end
/-! ### methods and makers as their callers want them -/
structure Me (P : Program) (w : World) (K : PySem.W.Frag) (mg : Str → Option Value) (base : Heap) (C : Addr) (m : Str) (k : Nat) (ps : List Str) (sp : Sp) : Prop where
  ex : ∃ (f : Addr) (fd : FuncData), FnOk P w K mg base CX0 k f fd ps sp ∧ Meth K C m f ∧ Binds K fd ps []
structure Mkr (P : Program) (w : World) (K : PySem.W.Frag) (mg : Str → Option Value) (base : Heap) (x : Str) (C : Addr) (k : Nat) (ps : List Str) (dvs : List V) (sp : Sp) : Prop where
  ex : ∃ (f : Addr) (fd : FuncData) (ds : List Value), Mk K C f ∧ FnOk P w K mg base CX0 k f fd ps sp ∧ mg x = some (.ref C) ∧ Binds K fd ps ds ∧ Vals dvs ds
section
variable {X : Cx}
theorem pe_me {pl : Sem Bool} {C : Addr} {m : Str} {k : Nat} {ps : List Str} {sp : Sp} {o e : Expr} {es : List Expr} {t : TA} {ta : TE} {apos pos : Pos} (he : PE X o ta) (c : Cls X.K C) (M : Me X.prog X.w X.K X.mg X.base C m k ps sp) (hr : Room k X.A) (ha : PA X (e :: es) t)
    (hst : starEach (e :: es) X.env = (false, eval e X.env) :: starEach es X.env := by rfl) (hpl : (backTo pos (starEach es X.env)).any (·.1) = false := by rfl)
    (ht : eval (.Call (.Attribute o m apos) (e :: es) [] pos) X.env = (do
      let ov ← eval o X.env
      standAt apos.atName
      let (f, first) ← holding [ov] (getMethod ov m pl)
      callWith pos f first (backTo pos (starEach (e :: es) X.env)) (backToKw pos (keywordEach [] X.env))) := by rfl) :
    PE X (.Call (.Attribute o m apos) (e :: es) [] pos) (tMeth C m sp [] E0 ta t) := by
  obtain ⟨f, fd, G, hm, hb⟩ := M.ex
  exact pe_meth he c hm G hr hb .nil pass0 ha hst hpl ht
theorem pe_me0 {pl : Sem Bool} {C : Addr} {m : Str} {k : Nat} {ps : List Str} {sp : Sp} {o : Expr} {ta : TE} {apos pos : Pos} (he : PE X o ta) (c : Cls X.K C) (M : Me X.prog X.w X.K X.mg X.base C m k ps sp) (hr : Room k X.A)
    (ht : eval (.Call (.Attribute o m apos) [] [] pos) X.env = (do
      let ov ← eval o X.env
      standAt apos.atName
      let (f, first) ← holding [ov] (getMethod ov m pl)
      callWith pos f first (backTo pos (starEach [] X.env)) (backToKw pos (keywordEach [] X.env))) := by rfl) :
    PE X (.Call (.Attribute o m apos) [] [] pos) (tMeth C m sp [] E0 ta tNil) := by
  obtain ⟨f, fd, G, hm, hb⟩ := M.ex
  exact pe_meth0 he c hm G hr hb .nil pass0 ht
theorem pe_mkr {x : Str} {C : Addr} {k : Nat} {ps : List Str} {dvs : List V} {sp : Sp} {e : Expr} {es : List Expr} {t : TA} {p pos : Pos} (M : Mkr X.prog X.w X.K X.mg X.base x C k ps dvs sp) (hr : Room (k + 1) X.A) (hg : Gl X x) (ha : PA X (e :: es) t)
    (hdb : (x == ("__debug__" : Str)) = false := by decide) (he : starEach (e :: es) X.env = (false, eval e X.env) :: starEach es X.env := by rfl) (hpl : (backTo pos (starEach es X.env)).any (·.1) = false := by rfl) :
    PE X (.Call (.Name x p) (e :: es) [] pos) (tMake C sp dvs E0 t) := by
  obtain ⟨f, fd, ds, M, G, hm, hb, hd⟩ := M.ex
  exact pe_make M G hr hg hm hb hd pass0 ha hdb he hpl
theorem pe_gint {x : Str} {n : Int} {p : Pos} (h : ∃ t, X.mg x = some (.int n t)) (hg : Gl X x) (hd : (x == ("__debug__" : Str)) = false := by decide) : PE X (.Name x p) (tC (.int n)) := by
  obtain ⟨t, h⟩ := h
  exact pe_glob hg h ⟨t, rfl⟩ hd
theorem pe_gstr {x : Str} {z : Str} {p : Pos} (h : ∃ t, X.mg x = some (.str z t)) (hg : Gl X x) (hd : (x == ("__debug__" : Str)) = false := by decide) : PE X (.Name x p) (tC (.str z)) := by
  obtain ⟨t, h⟩ := h
  exact pe_glob hg h ⟨t, rfl⟩ hd
end
section
variable {X : Cx}
/-! ### an attribute as a target -/
def gFld (K : PySem.W.Frag) (to : TE) (f : Str) : TG := fun v σ H Q => to σ H fun x H1 => ∃ a C dx fs, x = .ref a ∧ H1 a = some (.ins C dx fs) ∧ Cls K C ∧ NoAttr K C f ∧ fs.length < 1000 ∧ Q σ (upd H1 a (.ins C dx (putF f v fs)))
theorem pg_fld {o : Expr} {f : Str} {pos : Pos} {to : TE} (ho : PE X o to) : PG X (.Attribute o f pos) (gFld X.K to f) := by
  refine ⟨fun pins s σ H v u Q I r h => ?_⟩
  rw [assign_Attribute]
  refine wpAny_bind (wpAny_holding (thn (ho.run pins s σ H _ I h) fun ov s1 ⟨x, H1, I1, r1, a, C, dx, fs, ex, ea, c, n, l, q1⟩ => ?_))
  subst ex
  obtain rfl : ov = Value.ref a := r1
  refine wpAny_bind (wpAny_standAt (wpAny_bind (wpAny_holding (setattr_ok I1 ea c n l r fun s3 I3 => ?_))))
  exact wpAny_release ⟨σ, _, I3, q1⟩

/-! ### ints of any size -/
def CDivU (_ j : Int) : Prop := j ≠ 0 ∧ j.natAbs.log2 < 9000
theorem op_fdivU : OpR X (binaryOp .FloorDiv) (rI CDivU fun i j => .int (i.fdiv j)) := opI fun i j _ _ _ _ _ hc q =>
  PyProof.Rows.floordiv_int hc.1 q (.inl (PyProof.noPylong_of_log2 hc.2))
def CMulU (i j : Int) : Prop := IntMulOk i j
theorem op_mulU : OpR X (binaryOp .Mult) (rI CMulU fun i j => .int (i * j)) := opI fun _ _ _ _ _ _ _ hc q => PyProof.Rows.mul_int q hc
def CPowU (i j : Int) : Prop := 0 ≤ j ∧ (Builtin.Int.intBits i : Int) * j ≤ 2 ^ 27
theorem op_powU : OpR X (binaryOp .Pow) (rI CPowU fun i j => .int (i ^ j.toNat)) := opI fun _ _ _ _ _ _ _ hc q => PyProof.Rows.pow_int hc.1 hc.2 q
end
theorem bits_le {x : Int} {a : Nat} (h : x.natAbs < 2 ^ a) (h0 : 0 < a) : Builtin.Int.intBits x ≤ a := by
  unfold Builtin.Int.intBits
  split
  · omega
  · exact PySem.Flt.log2_lt_of h0 h
theorem powU {i j : Int} {a : Nat} (h : i.natAbs < 2 ^ a) (h0 : 0 < a) (hj : 0 ≤ j) (hs : (a : Int) * j ≤ 2 ^ 27) : CPowU i j := by
  refine ⟨hj, Int.le_trans (Int.mul_le_mul_of_nonneg_right (Int.ofNat_le.mpr (bits_le h h0)) hj) hs⟩
theorem divU {i j : Int} {b : Nat} (h : j ≠ 0) (hb : j.natAbs < 2 ^ b) (h0 : 0 < b) (h9 : b ≤ 9000) : CDivU i j := ⟨h, Nat.lt_of_lt_of_le (PySem.Flt.log2_lt_of h0 hb) h9⟩

/-! ### named readings of calls -/
section
variable {X : Cx}
theorem callR_imp {f : Value} {r r' : List V → Hp → VK → Prop} (h : CallR X f r) (i : ∀ xs H Q, r' xs H Q → r xs H Q) : CallR X f r' :=
  fun pins s σ H xs us Q I rv q => h pins s σ H xs us Q I rv (i _ _ _ q)
theorem opR_imp {f : Value → Value → Sem Value} {r r' : R2} (h : OpR X f r) (i : ∀ x y H Q, r' x y H Q → r x y H Q) : OpR X f r' :=
  fun pins s σ H x y v u Q I rx ry q => h pins s σ H x y v u Q I rx ry (i _ _ _ _ q)
def rAbs : List V → Hp → VK → Prop := fun xs H Q => ∃ i : Int, xs = [.int i] ∧ Q (.int i.natAbs) H
theorem cl_abs : CallR X (.builtin "abs") rAbs := callR_imp call_abs fun xs H Q ⟨i, e, q⟩ => ⟨i, e, by
  have : (if i < 0 then -i else i) = (i.natAbs : Int) := by split <;> omega
  rw [this]; exact q⟩
def rMaxI : List V → Hp → VK → Prop := fun xs H Q => ∃ i j : Int, xs = [.int i, .int j] ∧ Q (.int (max i j)) H
def rMinI : List V → Hp → VK → Prop := fun xs H Q => ∃ i j : Int, xs = [.int i, .int j] ∧ Q (.int (min i j)) H
theorem cl_max (hc : X.calm = true) : CallR X (.builtin "max") rMaxI := callR_imp (call_max2 hc) fun xs H Q ⟨i, j, e, q⟩ => ⟨i, j, e, by
  have : (if j > i then j else i) = max i j := by split <;> omega
  rw [this]; exact q⟩
theorem cl_min (hc : X.calm = true) : CallR X (.builtin "min") rMinI := callR_imp (call_min2 hc) fun xs H Q ⟨i, j, e, q⟩ => ⟨i, j, e, by
  have : (if j < i then j else i) = min i j := by split <;> omega
  rw [this]; exact q⟩
def rIntOf : List V → Hp → VK → Prop := fun xs H Q => (∃ i, xs = [.int i] ∧ Q (.int i) H) ∨ ∃ k : Bool, xs = [.bl k] ∧ Q (.int (if k then 1 else 0)) H
theorem cl_int : CallR X (.type "int") rIntOf := call_int1
def rLen (K : PySem.W.Frag) : List V → Hp → VK → Prop := fun xs H Q => ∃ x n, xs = [x] ∧ LenV K x H n ∧ Q (.int n) H
theorem cl_len : CallR X (.builtin "len") (rLen X.K) := call_len
def rStrI : List V → Hp → VK → Prop := fun xs H Q => ∃ i : Int, xs = [.int i] ∧ i.natAbs.log2 < 1920 ∧ Q (.str (toString i)) H
theorem cl_str : CallR X (.type "str") rStrI := call_str_int
def rOrd : List V → Hp → VK → Prop := fun xs H Q => ∃ x, xs = [.str x] ∧ x.length = 1 ∧ Q (.int (x.cps.getD 0 0 : Nat)) H
theorem cl_ord : CallR X (.builtin "ord") rOrd := call_ord
def rAddS : R2 := fun x y H Q => ∃ i j, x = .str i ∧ y = .str j ∧ i.length + j.length ≤ sizeLine ∧ Q (.str (i ++ j)) H
theorem op_addS : OpR X (binaryOp .Add) rAddS := op_add_str
def rIs0 : R2 := fun x y H Q => y = .non ∧ Q (.bl (decide (x = .non))) H
def rIsNot0 : R2 := fun x y H Q => y = .non ∧ Q (.bl (!decide (x = .non))) H
theorem op_is0 : OpR X (compareOp .Is) rIs0 := op_isN
theorem op_isnot0 : OpR X (compareOp .IsNot) rIsNot0 := op_notN
end

/-! ### readings, step by step -/
section
variable {σ : St} {H H' : Hp} {i : Nat} {v x y z : V} {ta tb te tv tc : TE} {b : Bool} {K : PySem.W.Frag} {Q : VK} {QB : Bool → Hp → Prop} {D : Ends} {t u : TS} {tt tu : TT} {a : Addr} {r r' : R2}
theorem w_seq (h : t { D with nx := u D } σ H) : tSeq t u D σ H := h
theorem w_next (h : D.nx σ H) : tNext D σ H := h
theorem w_set (h : te σ H fun x H1 => D.nx (σ.set i (some x)) H1) : tAsg te (gName i) D σ H := h
theorem w_asg {g : TG} (h : te σ H fun x H1 => g x σ H1 D.nx) : tAsg te g D σ H := h
theorem w_par {j : Nat} {tA : TA} (h : tA σ H fun vs H1 => ∃ v w, vs = [v, w] ∧ D.nx ((σ.set i (some v)).set j (some w)) H1) : tPar i j tA D σ H := h
theorem w_ret (h : te σ H D.rt) : tRet te D σ H := h
theorem w_retN (h : D.rt .non H) : tRetN D σ H := h
theorem w_drop (h : te σ H fun _ H1 => D.nx σ H1) : tDrop te D σ H := h
theorem w_if (h : tt σ H fun b H1 => if b = true then t D σ H1 else u D σ H1) : tIfS tt t u D σ H := h
theorem w_ifE (h : tt σ H fun b H1 => if b = true then ta σ H1 Q else tb σ H1 Q) : tIf tt ta tb σ H Q := h
theorem w_var (h : σ[i]? = some (some v)) (q : Q v H) : tVar i σ H Q := ⟨v, h, q⟩
theorem w_c (q : Q v H) : tC v σ H Q := q
theorem w_op (h : ta σ H fun x H1 => tb σ H1 fun y H2 => r x y H2 Q) : tOp r ta tb σ H Q := h
theorem w_un {r : V → Hp → VK → Prop} (h : ta σ H fun x H1 => r x H1 Q) : tUn r ta σ H Q := h
theorem w_I0 {g : Int → Int → V} {m n : Int} (q : Q (g m n) H) : rI0 g (.int m) (.int n) H Q := ⟨m, n, rfl, rfl, q⟩
theorem w_I {C : Int → Int → Prop} {g : Int → Int → V} {m n : Int} (hc : C m n) (q : Q (g m n) H) : rI C g (.int m) (.int n) H Q := ⟨m, n, rfl, rfl, hc, q⟩
theorem w_U {g : Int → V} {m : Int} (q : Q (g m) H) : rU g (.int m) H Q := ⟨m, rfl, q⟩
theorem w_eq (h : scal x y = true) (q : Q (.bl (decide (x = y))) H) : rEq x y H Q := ⟨h, q⟩
theorem w_ne (h : scal x y = true) (q : Q (.bl (!decide (x = y))) H) : rNe x y H Q := ⟨h, q⟩
theorem w_is0 (q : Q (.bl (decide (x = .non))) H) : rIs0 x .non H Q := ⟨rfl, q⟩
theorem w_isnot0 (q : Q (.bl (!decide (x = .non))) H) : rIsNot0 x .non H Q := ⟨rfl, q⟩
theorem w_test (h : te σ H fun x H' => ∃ k, x = .bl k ∧ QB k H') : tTest te σ H QB := h
theorem w_tB (h : te σ H fun x H' => ∃ k, x = .bl k ∧ QB k H') : tB te σ H QB := h
theorem w_bl {R : Bool → Prop} (q : R b) : ∃ k, V.bl b = .bl k ∧ R k := ⟨b, rfl, q⟩
theorem w_and (h : tt σ H fun c H1 => if c = true then tu σ H1 QB else QB false H1) : tAnd tt tu σ H QB := h
theorem w_or (h : tt σ H fun c H1 => if c = true then QB true H1 else tu σ H1 QB) : tOr tt tu σ H QB := h
theorem w_not (h : tt σ H fun c H1 => QB (!c) H1) : tNot tt σ H QB := h
theorem w_andV (h : ta σ H fun x H1 => ∃ c, x = .bl c ∧ if c = true then tb σ H1 Q else Q (.bl false) H1) : tAndV ta tb σ H Q := h
theorem w_orV (h : ta σ H fun x H1 => ∃ c, x = .bl c ∧ if c = true then Q (.bl true) H1 else tb σ H1 Q) : tOrV ta tb σ H Q := h
theorem w_notV (h : ta σ H fun x H1 => ∃ c, x = .bl c ∧ Q (.bl (!c)) H1) : tNotV ta σ H Q := h
theorem w_chain (h : ta σ H fun x H1 => tb σ H1 fun y H2 => r x y H2 fun z H3 => ∃ k, z = .bl k ∧ (if k = true then tc σ H3 fun w' H4 => r' y w' H4 Q else Q (.bl false) H3)) : tChain r r' ta tb tc σ H Q := h
theorem w_cons {tr : TA} {QA : List V → Hp → Prop} (h : ta σ H fun x H1 => tr σ H1 fun xs H2 => QA (x :: xs) H2) : tCons ta tr σ H QA := h
theorem w_nil {QA : List V → Hp → Prop} (q : QA [] H) : tNil σ H QA := q
theorem w_call {sp : Sp} {tA : TA} {E : XK} (h : tA σ H fun vs H1 => sp (vs ++ []) H1 Q E) : tCall sp [] E tA σ H Q := h
theorem w_cb {r : List V → Hp → VK → Prop} {tA : TA} (h : tA σ H fun vs H1 => r vs H1 Q) : tCB r tA σ H Q := h

/-! ### new objects: the heap as a letter -/
theorem same_new {p : Addr} {o : HO} (h : H p = none) : Same H (upd H p o) := fun c w e => by
  rw [upd_ne (ne_of_none e h)]
  exact e
theorem w_tup {tA : TA} (h : tA σ H fun xs H1 => xs.length ≤ sizeLine ∧ ∀ p H2, H1 p = none → Same H1 H2 → H2 p = some (.tup xs) → Q (.ref p) H2) (mono : ∀ σ H (Q Q' : List V → Hp → Prop), (∀ xs H, Q xs H → Q' xs H) → tA σ H Q → tA σ H Q') : tTup tA σ H Q :=
  mono _ _ _ _ (fun xs H1 ⟨l, k⟩ => ⟨l, fun p hp => k p _ hp (same_new hp) upd_same⟩) h
theorem w_newT {xs : List V} {H1 : Hp} (hl : xs.length ≤ sizeLine) (k : ∀ p H2, H1 p = none → Same H1 H2 → H2 p = some (.tup xs) → Q (.ref p) H2) : xs.length ≤ sizeLine ∧ ∀ p, H1 p = none → Q (.ref p) (upd H1 p (.tup xs)) :=
  ⟨hl, fun p hp => k p _ hp (same_new hp) upd_same⟩
theorem w_newL {xs : List V} {H1 : Hp} (hl : xs.length ≤ sizeLine) (k : ∀ p H2, H1 p = none → Same H1 H2 → H2 p = some (.lst xs) → Q (.ref p) H2) : xs.length ≤ sizeLine ∧ ∀ p, H1 p = none → Q (.ref p) (upd H1 p (.lst xs)) :=
  ⟨hl, fun p hp => k p _ hp (same_new hp) upd_same⟩
theorem w_tupE {tA : TA} (h : tA σ H fun xs H1 => xs.length ≤ sizeLine ∧ ∀ p, H1 p = none → Q (.ref p) (upd H1 p (.tup xs))) : tTup tA σ H Q := h
theorem w_lstE {tA : TA} (h : tA σ H fun xs H1 => xs.length ≤ sizeLine ∧ ∀ p, H1 p = none → Q (.ref p) (upd H1 p (.lst xs))) : tLst tA σ H Q := h
/-! ### calls of built-ins, subscripts -/
theorem w_abs {m : Int} (q : Q (.int m.natAbs) H) : rAbs [.int m] H Q := ⟨m, rfl, q⟩
theorem w_max {m n : Int} (q : Q (.int (max m n)) H) : rMaxI [.int m, .int n] H Q := ⟨m, n, rfl, q⟩
theorem w_min {m n : Int} (q : Q (.int (min m n)) H) : rMinI [.int m, .int n] H Q := ⟨m, n, rfl, q⟩
theorem w_intI {m : Int} (q : Q (.int m) H) : rIntOf [.int m] H Q := .inl ⟨m, rfl, q⟩
theorem w_intB {k : Bool} (q : Q (.int (if k then 1 else 0)) H) : rIntOf [.bl k] H Q := .inr ⟨k, rfl, q⟩
theorem w_lenL {p : Addr} {xs : List V} (h : SqL K H p xs) (q : Q (.int xs.length) H) : rLen K [.ref p] H Q := ⟨_, _, rfl, .inl ⟨xs, h, rfl⟩, q⟩
theorem w_lenT {p : Addr} {xs : List V} (h : SqT K H p xs) (q : Q (.int xs.length) H) : rLen K [.ref p] H Q := ⟨_, _, rfl, .inr ⟨xs, h, rfl⟩, q⟩
theorem w_lenS {w : Str} (h : w.length ≤ sizeLine) (q : Q (.int w.length) H) : rLen K [.str w] H Q := ⟨_, _, rfl, ⟨h, rfl⟩, q⟩
theorem w_ixL {p : Addr} {xs : List V} {m : Int} (h : SqL K H p xs) (ha : atI xs m = some v) (q : Q v H) : rIxL K (.ref p) (.int m) H Q := ⟨p, xs, m, v, rfl, rfl, h, ha, q⟩
theorem w_ixT {p : Addr} {xs : List V} {m : Int} (h : SqT K H p xs) (ha : atI xs m = some v) (q : Q v H) : rIxT K (.ref p) (.int m) H Q := ⟨p, xs, m, v, rfl, rfl, h, ha, q⟩
theorem w_ixS {w : Str} {m : Int} {c : Nat} (h : w.length ≤ sizeLine) (ha : atI w.cps.toList m = some c) (q : Q (.str ⟨#[c]⟩) H) : rIxS (.str w) (.int m) H Q := ⟨w, m, c, rfl, rfl, h, ha, q⟩
theorem w_isi {c : V} {tv cv : Value} {k : Bool} (hc : ClsV c cv) (ht : TyX K H x tv) (hk : PySem.W.kitOne K tv cv = some k) (q : Q (.bl k) H) : rIsi K [x, c] H Q := ⟨x, c, tv, cv, k, rfl, hc, ht, hk, q⟩
theorem w_gname {Q2 : L2.St → Hp → Prop} (q : Q2 (σ.set i (some v)) H) : gName i v σ H Q2 := q
theorem w_gsub {to ti : TE} {ts : TSet} {Q2 : L2.St → Hp → Prop} (h : to σ H fun o H1 => ti σ H1 fun i H2 => ts o i v H2 fun H3 => Q2 σ H3) : gSub to ti ts v σ H Q2 := h
theorem w_fld {C dx : Addr} {fs : List (Str × V)} {f : Str} {R : V → Prop} (ho : H a = some (.ins C dx fs)) (hc : Cls K C) (hn : NoAttr K C f) (hl : fs.lookup f = some v) (q : R v) : ∃ a' C dx fs v, V.ref a = .ref a' ∧ H a' = some (.ins C dx fs) ∧ Cls K C ∧ NoAttr K C f ∧ fs.lookup f = some v ∧ R v := ⟨a, C, dx, fs, v, rfl, ho, hc, hn, hl, q⟩
theorem w_fldE {f : Str} (h : ta σ H fun x H1 => ∃ a C dx fs v, x = .ref a ∧ H1 a = some (.ins C dx fs) ∧ Cls K C ∧ NoAttr K C f ∧ fs.lookup f = some v ∧ Q v H1) : tFld K ta f σ H Q := h
end

section
variable {σ : L2.St} {H H' : Hp} {i : Nat} {v x y z : V} {ta tb te tv tc : TE} {b : Bool} {K : PySem.W.Frag} {Q : VK} {QB : Bool → Hp → Prop} {D : Ends} {a C dx : Addr} {fs : List (Str × V)} {f m : Str}
theorem w_two {R : V → V → Prop} (q : R x y) : ∃ v w, [x, y] = [v, w] ∧ R v w := ⟨x, y, rfl, q⟩
theorem w_methE {sp : Sp} {dvs : List V} {E : XK} {t : TA} (h : ta σ H fun x H1 => ∃ a dx fs, x = .ref a ∧ H1 a = some (.ins C dx fs) ∧ fs.lookup m = none ∧ t σ H1 fun vs H2 => sp (x :: (vs ++ dvs)) H2 Q E) : tMeth C m sp dvs E ta t σ H Q := h
theorem w_meth {R : Prop} (ho : H a = some (.ins C dx fs)) (hl : fs.lookup m = none) (q : R) : ∃ a' dx fs, V.ref a = .ref a' ∧ H a' = some (.ins C dx fs) ∧ fs.lookup m = none ∧ R := ⟨a, dx, fs, rfl, ho, hl, q⟩
theorem w_makeE {sp : Sp} {dvs : List V} {E : XK} {t : TA} (h : t σ H fun vs H1 => ∀ x dx, H1 x = none → H1 dx = none → dx ≠ x →
  sp (.ref x :: (vs ++ dvs)) (upd (upd H1 dx (.own x)) x (.ins C dx [])) (fun v H2 => v = .non ∧ Q (.ref x) H2) E) : tMake C sp dvs E t σ H Q := h
theorem w_make {sp : Sp} {vs : List V} {E : XK} {H1 : Hp} (k : ∀ r dr H2, H1 r = none → H1 dr = none → Same H1 H2 → H2 r = some (.ins C dr []) → sp (.ref r :: vs) H2 (fun v H3 => v = .non ∧ Q (.ref r) H3) E) :
    ∀ x dx, H1 x = none → H1 dx = none → dx ≠ x → sp (.ref x :: vs) (upd (upd H1 dx (.own x)) x (.ins C dx [])) (fun v H2 => v = .non ∧ Q (.ref x) H2) E := by
  intro r dr nr nd ne
  refine k r dr _ nr nd (fun c o e => ?_) upd_same
  rw [upd_ne (ne_of_none e nr), upd_ne (ne_of_none e nd)]
  exact e
theorem w_isiB {tx tn : String} {k : Bool} (ht : TyX K H x (.type tx)) (hk : kitB tx tn = some k) (q : Q (.bl k) H) : rIsi K [x, .ty tn] H Q := ⟨x, .ty tn, _, _, k, rfl, .ty tn, ht, kit_ty hk, q⟩
theorem w_sfld {D : Ends} (h : tv σ H fun y H1 => ta σ H1 fun x H2 => ∃ a C dx fs, x = .ref a ∧ H2 a = some (.ins C dx fs) ∧ Cls K C ∧ NoAttr K C f ∧ fs.length < 1000 ∧ D.nx σ (upd H2 a (.ins C dx (putF f y fs)))) : sFld K ta tv f D σ H := h
theorem w_gfldE {to : TE} {Q2 : L2.St → Hp → Prop} (h : to σ H fun x H1 => ∃ a C dx fs, x = .ref a ∧ H1 a = some (.ins C dx fs) ∧ Cls K C ∧ NoAttr K C f ∧ fs.length < 1000 ∧ Q2 σ (upd H1 a (.ins C dx (putF f v fs)))) : gFld K to f v σ H Q2 := h
/-- a store to an attribute: the heap as a letter -/
def KB (p : Addr) (H H' : Hp) : Prop := ∀ c o, H c = some o → c ≠ p → H' c = some o
theorem KB.refl {p : Addr} : KB p H H := fun _ _ h _ => h
theorem KB.trans {p : Addr} {H1 H2 : Hp} (e : KB p H H1) (e' : KB p H1 H2) : KB p H H2 := fun c o h n => e' c o (e c o h n) n
theorem KB.of {p : Addr} (e : Same H H') : KB p H H' := fun c o h _ => e c o h
theorem KB.same {p : Addr} {H0 : Hp} (e : KB p H H') (e0 : Same H0 H) (n : H0 p = none) : Same H0 H' := fun c o h => e c o (e0 c o h) (ne_of_none h n)
theorem kb_upd {p : Addr} {o : HO} : KB p H (upd H p o) := fun c u h n => by rw [upd_ne n]; exact h
theorem w_st {R : Addr → Addr → Addr → List (Str × V) → Prop} (ho : H a = some (.ins C dx fs)) (hc : Cls K C) (hn : NoAttr K C f) (hl : fs.length < 1000) (q : R a C dx fs) :
    ∃ a' C dx fs, V.ref a = .ref a' ∧ H a' = some (.ins C dx fs) ∧ Cls K C ∧ NoAttr K C f ∧ fs.length < 1000 ∧ R a' C dx fs := ⟨a, C, dx, fs, rfl, ho, hc, hn, hl, q⟩
theorem w_setL {p : Addr} {xs : List V} {m : Int} {j : Nat} {QH : Hp → Prop} (h : H p = some (.lst xs)) (hj : ixN xs.length m = some j) (k : ∀ H2, KB p H H2 → H2 p = some (.lst (xs.set j v)) → QH H2) : rSetL (.ref p) (.int m) v H QH := ⟨p, xs, m, j, rfl, rfl, h, hj, k _ kb_upd upd_same⟩
theorem w_gtup {n : Nat} {t : TGs} {xs : List V} {Q2 : L2.St → Hp → Prop} (h : SqT K H a xs) (hn : xs.length = n) (q : t xs σ H Q2) : gTup K n t (.ref a) σ H Q2 := ⟨a, xs, rfl, h, hn, q⟩
theorem w_gcons {g : TG} {t : TGs} {r : List V} {Q2 : L2.St → Hp → Prop} (q : g v σ H fun σ' H' => t r σ' H' Q2) : gCons g t (v :: r) σ H Q2 := ⟨v, r, rfl, q⟩
theorem w_gnil {Q2 : L2.St → Hp → Prop} (q : Q2 σ H) : gNil [] σ H Q2 := ⟨rfl, q⟩
theorem lk_hit {r : List (Str × V)} : List.lookup f ((f, x) :: r) = some x := by simp [List.lookup]
theorem lk_miss {g : Str} {r : List (Str × V)} {o : Option V} (h : (f == g) = false) (e : List.lookup f r = o) : List.lookup f ((g, x) :: r) = o := by simp only [List.lookup, h]; exact e
theorem pf_hit {r : List (Str × V)} : putF f v ((f, x) :: r) = (f, v) :: r := by simp [putF]
theorem pf_miss {g : Str} {r : List (Str × V)} (h : (g == f) = false) : putF f v ((g, x) :: r) = (g, x) :: putF f v r := by
  have : ¬ g = f := beq_eq_false_iff_ne.mp h
  simp [putF, this]
theorem pf_nil : putF f v [] = [(f, v)] := rfl
/-- kept at another place -/
theorem kb_at {p q : Addr} {o : HO} (e : KB p H H') (h : H q = some o) (n : q ≠ p) : H' q = some o := e q o h n
end

/-- while, by a word that falls -/
theorem w_while {σ : L2.St} {H : Hp} {D : Ends} {c : TT} {tb : TS} (W : Nat → L2.St → Hp → Prop) (m0 : Nat) (h0 : W m0 σ H)
    (hs : ∀ m σ H, W m σ H → c σ H fun b H1 => if b = true then tb { D with nx := fun σ' H' => ∃ m', m' < m ∧ W m' σ' H', ct := fun σ' H' => ∃ m', m' < m ∧ W m' σ' H', bk := D.nx } σ H1 else D.nx σ H1)
    (mono : ∀ σ H (Q Q' : Bool → Hp → Prop), (∀ b H, Q b H → Q' b H) → c σ H Q → c σ H Q' ) : tWhile c tb D σ H :=
  ⟨W, ⟨m0, h0⟩, fun m σ H w => mono _ _ _ _ (fun b H1 q => by
    cases b with
    | true =>
      rw [if_pos rfl] at q ⊢
      exact ⟨_, fun _ _ h => h, q⟩
    | false =>
      rw [if_neg Bool.false_ne_true] at q ⊢
      exact q) (hs m σ H w)⟩
theorem w_loopT {D : Ends} {W : Nat → L2.St → Hp → Prop} {m : Nat} {tb : TS} {σ : L2.St} {H : Hp} (h : tb { D with nx := fun σ' H' => ∃ m', m' < m ∧ W m' σ' H', ct := fun σ' H' => ∃ m', m' < m ∧ W m' σ' H', bk := D.nx } σ H) :
    ∃ N : L2.St → Hp → Prop, (∀ σ' H', N σ' H' → ∃ m', m' < m ∧ W m' σ' H') ∧ tb { D with nx := N, ct := N, bk := D.nx } σ H := ⟨_, fun _ _ h => h, h⟩

theorem same_gen {H H2 : Hp} {p : Addr} {o : HO} (n : H p = none) (e : upd H p o = H2) : Same H H2 := e ▸ same_new n
theorem at_gen {H H2 : Hp} {p : Addr} {o : HO} (e : upd H p o = H2) : H2 p = some o := e ▸ upd_same
theorem kb_gen {H H2 : Hp} {p : Addr} {o : HO} (e : upd H p o = H2) : KB p H H2 := e ▸ kb_upd
theorem same_make {H H2 : Hp} {x dx : Addr} {o u : HO} (nx : H x = none) (nd : H dx = none) (e : upd (upd H dx u) x o = H2) : Same H H2 := fun c w h => by
  rw [← e, upd_ne (ne_of_none h nx), upd_ne (ne_of_none h nd)]
  exact h
theorem makeG {H1 : Hp} {R : Addr → Addr → Prop} (k : ∀ x dx, H1 x = none → H1 dx = none → dx ≠ x → R x dx) : ∀ x dx, H1 x = none → H1 dx = none → dx ≠ x → R x dx := k
theorem newL {n : Nat} {R : Addr → Prop} {H : Hp} (hl : n ≤ sizeLine) (k : ∀ p, H p = none → R p) : n ≤ sizeLine ∧ ∀ p, H p = none → R p := ⟨hl, k⟩
theorem kit_int_int : kitB "int" "int" = some true := by decide +kernel
theorem kit_int_bool : kitB "int" "bool" = some false := by decide +kernel
theorem kit_int_str : kitB "int" "str" = some false := by decide +kernel
theorem kit_int_list : kitB "int" "list" = some false := by decide +kernel
theorem kit_int_tuple : kitB "int" "tuple" = some false := by decide +kernel
theorem kit_int_dict : kitB "int" "dict" = some false := by decide +kernel
theorem kit_bool_int : kitB "bool" "int" = some true := by decide +kernel
theorem kit_bool_bool : kitB "bool" "bool" = some true := by decide +kernel
theorem kit_bool_str : kitB "bool" "str" = some false := by decide +kernel
theorem kit_bool_list : kitB "bool" "list" = some false := by decide +kernel
theorem kit_bool_tuple : kitB "bool" "tuple" = some false := by decide +kernel
theorem kit_bool_dict : kitB "bool" "dict" = some false := by decide +kernel
theorem kit_str_int : kitB "str" "int" = some false := by decide +kernel
theorem kit_str_bool : kitB "str" "bool" = some false := by decide +kernel
theorem kit_str_str : kitB "str" "str" = some true := by decide +kernel
theorem kit_str_list : kitB "str" "list" = some false := by decide +kernel
theorem kit_str_tuple : kitB "str" "tuple" = some false := by decide +kernel
theorem kit_str_dict : kitB "str" "dict" = some false := by decide +kernel
theorem kit_list_int : kitB "list" "int" = some false := by decide +kernel
theorem kit_list_bool : kitB "list" "bool" = some false := by decide +kernel
theorem kit_list_str : kitB "list" "str" = some false := by decide +kernel
theorem kit_list_list : kitB "list" "list" = some true := by decide +kernel
theorem kit_list_tuple : kitB "list" "tuple" = some false := by decide +kernel
theorem kit_list_dict : kitB "list" "dict" = some false := by decide +kernel
theorem kit_tuple_int : kitB "tuple" "int" = some false := by decide +kernel
theorem kit_tuple_bool : kitB "tuple" "bool" = some false := by decide +kernel
theorem kit_tuple_str : kitB "tuple" "str" = some false := by decide +kernel
theorem kit_tuple_list : kitB "tuple" "list" = some false := by decide +kernel
theorem kit_tuple_tuple : kitB "tuple" "tuple" = some true := by decide +kernel
theorem kit_tuple_dict : kitB "tuple" "dict" = some false := by decide +kernel
theorem kit_NoneType_int : kitB "NoneType" "int" = some false := by decide +kernel
theorem kit_NoneType_bool : kitB "NoneType" "bool" = some false := by decide +kernel
theorem kit_NoneType_str : kitB "NoneType" "str" = some false := by decide +kernel
theorem kit_NoneType_list : kitB "NoneType" "list" = some false := by decide +kernel
theorem kit_NoneType_tuple : kitB "NoneType" "tuple" = some false := by decide +kernel
theorem kit_NoneType_dict : kitB "NoneType" "dict" = some false := by decide +kernel
theorem kit_dict_int : kitB "dict" "int" = some false := by decide +kernel
theorem kit_dict_bool : kitB "dict" "bool" = some false := by decide +kernel
theorem kit_dict_str : kitB "dict" "str" = some false := by decide +kernel
theorem kit_dict_list : kitB "dict" "list" = some false := by decide +kernel
theorem kit_dict_tuple : kitB "dict" "tuple" = some false := by decide +kernel
theorem kit_dict_dict : kitB "dict" "dict" = some true := by decide +kernel

section
variable {σ : L2.St} {H : Hp} {K : PySem.W.Frag} {D : Ends} {a : Addr}
theorem w_forE {wi : TI} {g : TG} {tb : TS} (h : wi σ H fun J H1 => ∃ W : Nat → Nat → L2.St → Hp → Prop, (∃ m, W 0 m σ H1) ∧ ∀ i m σ H, W i m σ H →
  (J.stop i H ∧ D.nx σ H) ∨ (J.go i H ∧ ∃ N : L2.St → Hp → Prop, (∀ σ' H', N σ' H' → ∃ m', m' < m ∧ W (i + 1) m' σ' H') ∧ ∀ x H', J.yld i H x H' → g x σ H' fun σ2 H2 => tb { D with nx := N, ct := N, bk := D.nx } σ2 H2)) : tFor wi g tb D σ H := h
theorem w_iTup {tl : TE} {R : It → Hp → Prop} (h : tl σ H fun x H1 => ∃ a, x = .ref a ∧ (∃ xs, SqT K H1 a xs) ∧ R (Itt K a) H1) : iTup K tl σ H R := h
theorem w_iList {tl : TE} {R : It → Hp → Prop} (h : tl σ H fun x H1 => ∃ a, x = .ref a ∧ (∃ xs, SqL K H1 a xs) ∧ R (Itl K a) H1) : iList K tl σ H R := h
theorem w_iRng1 {ta : TA} {R : It → Hp → Prop} (h : ta σ H fun vs H1 => ∃ j : Int, vs = [.int j] ∧ -(2 ^ 62) ≤ j ∧ j < 2 ^ 62 ∧ R (Itr 0 j.toNat) H1) : iRng1 ta σ H R := h
theorem w_iRng2 {ta : TA} {R : It → Hp → Prop} (h : ta σ H fun vs H1 => ∃ i j : Int, vs = [.int i, .int j] ∧ (-(2 ^ 62) ≤ i ∧ i < 2 ^ 62 ∧ -(2 ^ 62) ≤ j ∧ j < 2 ^ 62) ∧ R (Itr i (j - i).toNat) H1) : iRng2 ta σ H R := h
theorem w_itT {R : Addr → Prop} {xs : List V} (h : SqT K H a xs) (q : R a) : ∃ a', V.ref a = .ref a' ∧ (∃ xs, SqT K H a' xs) ∧ R a' := ⟨a, rfl, ⟨xs, h⟩, q⟩
theorem w_itL {R : Addr → Prop} {xs : List V} (h : SqL K H a xs) (q : R a) : ∃ a', V.ref a = .ref a' ∧ (∃ xs, SqL K H a' xs) ∧ R a' := ⟨a, rfl, ⟨xs, h⟩, q⟩
/-- == of data -/
theorem w_eqD {x y : V} {Q : VK} {d e : PyData} {k : Bool} (hx : Dp K H x d) (hy : Dp K H y e) (sd : SeqAt.shaped d = true) (se : SeqAt.shaped e = true) (hk : PyData.eqv d e = k) (q : Q (.bl k) H) : rEqD K x y H Q := ⟨d, e, hx, hy, sd, se, hk ▸ q⟩
theorem w_neD {x y : V} {Q : VK} {d e : PyData} {k : Bool} (hx : Dp K H x d) (hy : Dp K H y e) (sd : SeqAt.shaped d = true) (se : SeqAt.shaped e = true) (hk : PyData.eqv d e = k) (q : Q (.bl (!k)) H) : rNeD K x y H Q := ⟨d, e, hx, hy, sd, se, hk ▸ q⟩
theorem dp_t2 {p : Addr} {m n : Int} (h : SqT K H p [.int m, .int n]) : Dp K H (.ref p) (.tuple [.int m, .int n]) := .tup h (.cons (.int m) (.cons (.int n) .nil))
end
theorem mulW {i j : Int} {a b : Nat} (ha : i.natAbs < 2 ^ a) (hb : j.natAbs < 2 ^ b) (h0 : 0 < a) (h1 : 0 < b) (h : a + b ≤ 1000000) : CMulU i j := (wide_mul ha hb h0 h1 h).ok
theorem mulL {i j : Int} (h : i.natAbs < 2 ^ 64) : CMulU i j := CMul.ok (.inl ⟨by omega, by omega⟩)
theorem mulR {i j : Int} (h : j.natAbs < 2 ^ 64) : CMulU i j := CMul.ok (.inr ⟨by omega, by omega⟩)
theorem w_pow10_5 {H : Hp} {Q : VK} (q : Q (.int 100000) H) : rI CPowU (fun i j => .int (i ^ j.toNat)) (.int 10) (.int 5) H Q := ⟨10, 5, rfl, rfl, powU (a := 4) (by decide) (by decide) (by decide) (by decide), q⟩
theorem w_pow10_8 {H : Hp} {Q : VK} (q : Q (.int 100000000) H) : rI CPowU (fun i j => .int (i ^ j.toNat)) (.int 10) (.int 8) H Q := ⟨10, 8, rfl, rfl, powU (a := 4) (by decide) (by decide) (by decide) (by decide), q⟩
theorem w_pow10_9 {H : Hp} {Q : VK} (q : Q (.int 1000000000) H) : rI CPowU (fun i j => .int (i ^ j.toNat)) (.int 10) (.int 9) H Q := ⟨10, 9, rfl, rfl, powU (a := 4) (by decide) (by decide) (by decide) (by decide), q⟩
theorem w_pow10_10 {H : Hp} {Q : VK} (q : Q (.int 10000000000) H) : rI CPowU (fun i j => .int (i ^ j.toNat)) (.int 10) (.int 10) H Q := ⟨10, 10, rfl, rfl, powU (a := 4) (by decide) (by decide) (by decide) (by decide), q⟩
theorem w_pow10_11 {H : Hp} {Q : VK} (q : Q (.int 100000000000) H) : rI CPowU (fun i j => .int (i ^ j.toNat)) (.int 10) (.int 11) H Q := ⟨10, 11, rfl, rfl, powU (a := 4) (by decide) (by decide) (by decide) (by decide), q⟩
theorem w_pow10_12 {H : Hp} {Q : VK} (q : Q (.int 1000000000000) H) : rI CPowU (fun i j => .int (i ^ j.toNat)) (.int 10) (.int 12) H Q := ⟨10, 12, rfl, rfl, powU (a := 4) (by decide) (by decide) (by decide) (by decide), q⟩
theorem w_pow10_18 {H : Hp} {Q : VK} (q : Q (.int 1000000000000000000) H) : rI CPowU (fun i j => .int (i ^ j.toNat)) (.int 10) (.int 18) H Q := ⟨10, 18, rfl, rfl, powU (a := 4) (by decide) (by decide) (by decide) (by decide), q⟩
/-! ### small facts -/
theorem sz {n : Nat} (h : n ≤ 100000) : n ≤ sizeLine := Nat.le_trans h (by decide)
theorem w_iteP {c : Bool} {A B : Prop} (h1 : c = true → A) (h2 : c = false → B) : if c = true then A else B := by
  cases c with
  | true => exact iteT (h1 rfl)
  | false => exact iteF (h2 rfl)
theorem w_dec {c A B : Prop} {dc : Decidable c} (h1 : c → A) (h2 : ¬ c → B) : if decide c = true then A else B := by
  by_cases h : c
  · rw [if_pos (decide_eq_true h)]
    exact h1 h
  · rw [if_neg (fun e => h (of_decide_eq_true e))]
    exact h2 h
theorem same_at {H H' : Hp} {a : Addr} {o : HO} (e : Same H H') (h : H a = some o) : H' a = some o := e a o h
theorem same_t {K : PySem.W.Frag} {H H' : Hp} {a : Addr} {xs : List V} (e : Same H H') (h : SqT K H a xs) : SqT K H' a xs := by
  rcases h with (h | ⟨o, h⟩) | h
  · exact .inl (.inl (e _ _ h))
  · exact .inl (.inr ⟨o, e _ _ h⟩)
  · exact .inr h
section
variable {K : PySem.W.Frag} {H : Hp}
theorem tyx_int {i : Int} : TyX K H (.int i) (.type "int") := .base (.int _)
theorem tyx_bl {b : Bool} : TyX K H (.bl b) (.type "bool") := .base (.bl _)
theorem tyx_str {x : Str} : TyX K H (.str x) (.type "str") := .base (.str _)
theorem tyx_non : TyX K H .non (.type "NoneType") := .base .non
theorem tyx_lst {a : Addr} {xs : List V} (h : H a = some (.lst xs)) : TyX K H (.ref a) (.type "list") := .base (.lst h)
theorem tyx_tup {a : Addr} {xs : List V} (h : H a = some (.tup xs)) : TyX K H (.ref a) (.type "tuple") := .base (.tup h)
end
end Bw

/-! Except clauses: tuples of classes of any length. -/
namespace PySem.W
open PySem PySem.Spec PySem.Calls
section
variable {M : Model} {K : Frag}
theorem forIn_stay {β : Type} {A : Around} {E : Value → Shared → Prop} {s : Shared} {b : β} {f : Value → β → Sem (ForInStep β)} {Q : β → Shared → Prop} : ∀ {cs : List Value}, (∀ c ∈ cs, ∀ (Q : ForInStep β → Shared → Prop), Q (.yield b) s → wpAny M A (f c b) Q E s) → Q b s → wpAny M A (forIn cs b f) Q E s
  | [], _, q => by
    rw [List.forIn_nil]
    exact wpAny_pure q
  | c :: r, hf, q => by
    rw [List.forIn_cons]
    refine wpAny_bind (hf c List.mem_cons_self _ ?_)
    exact forIn_stay (fun c hc => hf c (List.mem_cons_of_mem _ hc)) q
theorem exmAny_mem {cls : Value} : ∀ {cs : List Value} {b : Bool}, exmAny K cls cs = some b → ∀ c ∈ cs, ∃ b1, exmOne K cls c = some b1
  | c :: r, b, h, x, hx => by
    obtain ⟨b1, d1, h1, h2, _⟩ := exmAny_cons h
    rcases List.mem_cons.mp hx with rfl | hx
    · exact ⟨_, h1⟩
    · exact exmAny_mem h2 x hx
theorem exm_tupN {cs : List Value} {cls : Value} {tp e : Addr} {b : Bool} {h : Heap} {n : Nat} {dd : Option Addr} {sl : Array (Option Value)} (X : K.In h) (LT : Looks M h (typeOf (.ref e)) cls) (hp : h.get? tp = some { cls := .type "tuple", dict := dd, data := .seq cs.toArray n, slots := sl }) (hx : exmAny K cls cs = some b) :
    Looks M h (excMatches (.ref e) (.ref tp)) b := by
  intro A Q E s k₀ q
  obtain ⟨hh, g, d, tk, os⟩ := s
  have k : ∀ b o, h.get? b = some o → hh.get? b = some o := k₀
  have LT0 : Looks M h (isInstance (.ref tp) (.type "tuple")) true := ((Looks.ld hp).andThen .now).andThen (Looks.of_pure isSubtype_tuple_tuple)
  have LT := LT.keeps k
  have LT0 := LT0.keeps k
  have hp' := k _ _ hp
  have hk := X.keeps k
  unfold excMatches
  refine wpAny_bind (LT0.at ?_)
  dsimp only
  rw [if_pos rfl]
  first
    | refine wpAny_bind (wpAny_seqItems hp' rfl ?_)
    | refine wpAny_bind (wpAny_bind (wpAny_seqItems hp' rfl (wpAny_pure ?_)))
  dsimp only [Option.getD_some, Option.getD]
  refine wpAny_bind (wpAny_pure ?_)
  refine wpAny_bind (forIn_stay (fun c hc Q q => ?_) ?_)
  · obtain ⟨b1, h1⟩ := exmAny_mem hx c hc
    refine wpAny_bind ((exm_cls (M := M) hk h1).1.here ?_)
    exact wpAny_pure q
  · refine wpAny_bind (LT.here ?_)
    have loop : ∀ (cs : List Value) (b : Bool), exmAny K cls cs = some b → ∀ (Q : Option Bool × Unit → Shared → Prop), Q (if b then some true else none, ()) { heap := hh, gens := g, drawn := d, toks := tk, os := os } →
        wpAny M A (forIn cs ((none : Option Bool), ()) fun c __s => do
            let __do_lift ← isSubtype cls c
            if __do_lift = true then pure (ForInStep.done (some true, ())) else pure (ForInStep.yield (none, ()))) Q E { heap := hh, gens := g, drawn := d, toks := tk, os := os } := by
      intro cs
      induction cs with
      | nil =>
        intro b hb Q q
        have w2 : some false = some b := hb
        cases w2
        rw [List.forIn_nil]
        exact wpAny_pure q
      | cons c r ih =>
        intro b hb Q q
        obtain ⟨b1, d1, h1, h2, rfl⟩ := exmAny_cons hb
        rw [List.forIn_cons]
        refine wpAny_bind (wpAny_bind ((exm_cls (M := M) hk h1).2.here ?_))
        cases b1 with
        | true =>
          rw [if_pos rfl]
          exact wpAny_pure (wpAny_pure q)
        | false =>
          rw [if_neg Bool.false_ne_true]
          exact wpAny_pure (ih d1 h2 Q q)
    refine wpAny_bind (loop cs b hx _ ?_)
    cases b with
    | true => exact wpAny_pure q
    | false => exact wpAny_pure q
end
end PySem.W

namespace Bw
open PySem PySem.Spec L2
/-! ### try with several clauses, classes or tuples of classes, each with a name -/
/-- a clause's class expression, read where the exception is handled -/
def wMas (K : PySem.W.Frag) (Wout : WX) (D : Ends) : List (List Value × Nat × (Addr → Value → Option Addr → TS)) → WX
  | [] => Wout
  | (cs, i, ts) :: r => fun cls d σ H => ∃ b, PySem.W.exmAny K cls cs = some b ∧ (b = true → ∀ a, H a = none → ts a cls d { nx := fun σ' H' => D.nx (σ'.set i none) H', rt := D.rt, bk := fun σ' H' => D.bk (σ'.set i none) H', ct := fun σ' H' => D.ct (σ'.set i none) H' } (σ.set i (some (.ref a))) H) ∧
      (b = false → wMas K Wout D r cls d σ H)
/-- names of classes -/
inductive NamesL (X : Cx) : List Expr → List Value → Prop
  | nil : NamesL X [] []
  | cons {x : Str} {c : Value} {p : Pos} {es : List Expr} {cs : List Value} (h : Names X x c) (r : NamesL X es cs) : NamesL X (.Name x p :: es) (c :: cs)
inductive ClsE (X : Cx) : Expr → List Value → Prop
  | one {x : Str} {c : Value} {p : Pos} (h : Names X x c) : ClsE X (.Name x p) [c]
  | tup {es : List Expr} {cs : List Value} {k : Nat} {p : Pos} (h : NamesL X es cs) : ClsE X (.Tuple es k p) cs
inductive HdsA (X : Cx) : List ExceptHandler → List (List Value × Nat × (Addr → Value → Option Addr → TS)) → Prop
  | nil : HdsA X [] []
  | cons {te : Expr} {cs : List Value} {n : Str} {i : Nat} {ts : Addr → Value → Option Addr → TS} {b₀ : Stmt} {suite : List Stmt} {pos' : Pos} {hds : List ExceptHandler} {l : List (List Value × Nat × (Addr → Value → Option Addr → TS))} (hc : ClsE X te cs)
      (hi : X.N[i]? = some n) (hln : X.env.kindOf n = some .local)
      (hsu : ∀ (a : Addr) (oe : Obj) (cls : Value) (d : Option Addr) (pn : List (Addr × Obj)), Zc cls d oe → (∃ vs, oe.data = .fields vs) → PSs (X.suite a ((a, oe) :: pn)) (b₀ :: suite) (ts a cls d)) (r : HdsA X hds l) :
      HdsA X (.ExceptHandler (some te) (some n) (b₀ :: suite) pos' :: hds) ((cs, i, ts) :: l)
theorem flying_kept {B h h' : Heap} {l : List Env} {e : Addr} {Z : Obj → Prop} (f : HandSPX.FlyingZ B l e Z h) (k : ∀ b o, h.get? b = some o → h'.get? b = some o) : HandSPX.FlyingZ B l e Z h' := by
  obtain ⟨f1, f2, f3, oe, vs, T, oT, ts, a1, a2, a3, a4, a5, a6, a7, a8, a9⟩ := f
  exact ⟨fun b o q => k b o (f1 b o q), f2, f3.of_keeps fun b o q _ => ⟨o, k b o q, rfl⟩, oe, vs, T, oT, ts, k _ _ a1, a2, a3, a4, a5, a6, k _ _ a7, a8, a9⟩
section
variable {X : Cx} {body : List Stmt} {h₀ : ExceptHandler} {hds : List ExceptHandler} {l : List (List Value × Nat × (Addr → Value → Option Addr → TS))} {pos : Pos} {tb : WX → TS} {Wout : WX}
theorem eval_names {Y : Cx} {pins : List (Addr × Obj)} {σ : L2.St} {H : Hp} {s : Shared} {E : Value → Shared → Prop} (I : Inv Y pins σ H s) (pos : Pos) : ∀ {es : List Expr} {cs : List Value}, NamesL Y es cs → ∀ {Q : List Value → Shared → Prop}, Q cs s → wpAny (model Y.prog Y.w) Y.A (spliced (backTo pos (starEach es Y.env))) Q E s
  | _, _, .nil, Q, q => Calls.spliced_nil q
  | _, _, @NamesL.cons _ x c p es cs h r, Q, q => by
    show wpAny _ _ (spliced ((false, eval (.Name x p) Y.env) :: backTo pos (starEach es Y.env))) _ _ s
    refine Calls.spliced_cons ?_
    have go : wpAny (model Y.prog Y.w) Y.A (spliced (backTo pos (starEach es Y.env))) (fun vs s₂ => Q (c :: vs) s₂) E s := eval_names I pos r q
    obtain ⟨hg, hdbg, hm | ⟨hm, hv, hnn⟩⟩ := h
    · exact ld_glob I hg hm go hdbg
    · exact ld_blt I hg hm hv go hnn hdbg
theorem NamesL.suite {a : Addr} {pn : List (Addr × Obj)} : ∀ {es : List Expr} {cs : List Value}, NamesL X es cs → NamesL (X.suite a pn) es cs
  | _, _, .nil => .nil
  | _, _, .cons h r => .cons h (NamesL.suite r)
theorem NamesL.length : ∀ {es : List Expr} {cs : List Value}, NamesL X es cs → cs.length = es.length
  | _, _, .nil => rfl
  | _, _, .cons _ r => congrArg Nat.succ (NamesL.length r)
theorem ps_try_mas (hs : X.stack = X.env :: X.outer) (hf : X.env.frame = some X.env.locals) (hN : X.N.Nodup) (tk : Takes X Wout) (hsz : ∀ x ∈ l, x.1.length ≤ 1000)
    (hb : ∀ (W : WX) (pn : List (Addr × Obj)) (xe : Value → Shared → Prop), Takes (X.tr pn xe) W → PassesOwn (model X.prog X.w) X.A X.env xe → PSs (X.tr pn xe) body (tb W))
    (hh : HdsA X (h₀ :: hds) l) : PS X (.Try body (h₀ :: hds) [] [] pos) (fun D σ H => tb (wMas X.K Wout D l) D σ H) := by
  refine ⟨fun pins s σ H D I h => ?_⟩
  have ok := I.ok
  have hfr : X.A.frames = some (X.env :: X.outer) := by rw [ok.frames, hs]
  refine wpAny_Try_except ?_
  refine wpAny_mono ((hb (wMas X.K Wout D l) (X.pn ++ pins) (fun e s₁ => wpAny (model X.prog X.w) X.A (noteFrame e X.env) (fun _ s₂ => wpAny (model X.prog X.w) X.A (setFlight e none) (fun _ s₃ =>
    wpAny (model X.prog X.w) X.A (handleBy e X.env (h₀ :: hds)) (SP X pins D) X.xe s₃) X.xe s₂) X.xe s₁) (fun u s' xx => ?_) PassesOwn.looking).run [] s σ H D (I.toTry _) h) (fun f s1 hsp => ?_) (fun e s1 he => he)
  · -- the catch
    obtain ⟨a, B, sI, pins', σ', H', cls, d, rfl, J', nb, up, sky, na, os, ag, w⟩ := xx
    have J : Inv X pins σ' H' sI := J'.ofTry ok
    have sky' : Sky B (X.env :: X.outer) a (Zc cls d) X.env.locals s'.heap := by rw [← hs]; exact sky
    show wpAny (model X.prog X.w) X.A (noteFrame (.ref a) X.env) _ _ _
    refine Sky.land Zc.steady hfr hf sky' fun h3 fl3 up3 => ?_
    have notFr : ∀ {h : Heap} {o : Obj} {vs : Array Value}, h.FunFrames B (X.env :: X.outer) → h.get? a = some o → o.data = .fields vs → a ∉ frs (X.env :: X.outer) := fun {h o vs} ff e dd hm => by
      obtain ⟨_, o', e', hnf⟩ := ff.mem hm
      rw [e] at e'; cases e'
      exact hnf _ dd
    have nfr : a ∉ frs (X.env :: X.outer) := by
      obtain ⟨oe3, vs3, he3, hz3, hd3⟩ := fl3.there
      exact notFr fl3.2.2.1 he3 hd3
    have nL : a ≠ X.env.locals := fun z => nfr (List.mem_filterMap.mpr ⟨X.env, List.mem_cons_self, by rw [hf, z]⟩)
    have nF : a ∉ X.fs := fun hm => by
      obtain ⟨e, he, q⟩ := List.mem_filterMap.mp hm
      exact nfr (List.mem_filterMap.mpr ⟨e, List.mem_cons_of_mem _ he, q⟩)
    have go : ∀ {hds' : List ExceptHandler} {l' : List (List Value × Nat × (Addr → Value → Option Addr → TS))}, HdsA X hds' l' → (∀ x ∈ l', x.1.length ≤ 1000) → wMas X.K Wout D l' cls d σ' H' → ∀ h3, HandSPX.FlyingZ B (X.env :: X.outer) a (Zc cls d) h3 → sI.heap.UpToSlots h3 →
        wpAny (model X.prog X.w) X.A (handleBy (.ref a) X.env hds') (SP X pins D) X.xe { s' with heap := h3 } := by
      intro hds' l' hk
      induction hk with
      | nil =>
        intro _ w h3 fl3 up3
        refine wpAny_handleBy_nil ?_
        obtain ⟨k1, k2, k3, oe, vs, T, oT, ts', he, hz, hd, h1, hr⟩ := id fl3
        unfold PySem.passOn
        refine wpAny_bind (wpAny_field he hd h1 ?_)
        rw [if_neg (show ¬ ((Value.ref T == Value.none) = true) from by simp)]
        have fin : wpAny (model X.prog X.w) X.A (setFlight (.ref a) X.env.frame) (fun _ s4 => wpAny (model X.prog X.w) X.A (throw (.ref a) : Sem Flow) (SP X pins D) X.xe s4) X.xe { s' with heap := h3 } := by
          rw [hf]
          refine HandSPX.setFlight_upZ fl3 fun h4 hh4 up4 => wpAny_throw (tk _ _ ?_)
          exact ⟨a, B, sI, pins, σ', H', cls, d, rfl, J, nb, up3.trans up4, .inr (.inr (by rw [hs]; exact hh4)), na, os, ag, w⟩
        first
          | exact wpAny_bind (wpAny_pure (wpAny_bind fin))
          | exact wpAny_bind fin
      | @cons te cs n i ts b₀ suite pos' hds2 l2 hc hi hln hsu r ih =>
        intro hz0 w h3 fl3 up3
        obtain ⟨b, hb1, hyes, hno⟩ := w
        have J3 : Inv X pins σ' H' { s' with heap := h3 } := J.landed nb fl3.1 up3 os ag
        obtain ⟨oe3, vs3, he3, hz3, hd3⟩ := fl3.there
        have S3 := J3.suite he3 hd3 na nL nF
        refine wpAny_handleBy_cons (codeAny_handlers_test ?_) (by intro q; cases q)
        -- the classes, then the match, in a heap that is kept
        have test : ∀ {R : Bool → Shared → Prop} {E : Value → Shared → Prop}, (∀ h4, (∀ b o, h3.get? b = some o → h4.get? b = some o) → R b { s' with heap := h4 }) →
            wpAny (model X.prog X.w) (X.A.mark (some (.ref a))) (eval te X.env) (fun c s₁ => wpAny (model X.prog X.w) (X.A.mark (some (.ref a))) (excMatches (.ref a) c) R E s₁) E { s' with heap := h3 } := fun {R E} q => by
          cases hc with
          | one hn =>
            rename_i x c np
            have LT : PySem.W.Looks (model X.prog X.w) h3 (typeOf (.ref a)) cls := fun A Q E s k q => wpAny_typeOf_ref (k _ _ he3) (by rw [hz3.1]; exact q)
            obtain ⟨b1, d1, h1, h2, eb⟩ := PySem.W.exmAny_cons hb1
            have w2 : some false = some d1 := h2
            cases w2
            rw [Bool.or_false] at eb
            subst eb
            have LM := PySem.W.exm_one (M := model X.prog X.w) (J3.kIn) LT h1
            obtain ⟨hg, hdbg, hm | ⟨hm, hv, hnn⟩⟩ := hn
            · exact ld_glob (X := X.suite a ((a, oe3) :: (X.pn ++ pins))) S3 hg hm (LM.here (q h3 fun _ _ z => z)) hdbg
            · exact ld_blt (X := X.suite a ((a, oe3) :: (X.pn ++ pins))) S3 hg hm hv (LM.here (q h3 fun _ _ z => z)) hnn hdbg
          | tup hn =>
            rename_i es kk np
            refine wpAny_Tuple_spliced (eval_names (Y := X.suite a ((a, oe3) :: (X.pn ++ pins))) S3 _ hn.suite ⟨?_, ?_⟩)
            · exact Nat.le_trans (hz0 _ List.mem_cons_self) (by decide)
            · have kp : ∀ b o, h3.get? b = some o → (h3.push { cls := .type "tuple", data := .seq cs.toArray }).get? b = some o := fun b o e => Heap.get?_push_of_some _ e
              have LT : PySem.W.Looks (model X.prog X.w) (h3.push { cls := .type "tuple", data := .seq cs.toArray }) (typeOf (.ref a)) cls := fun A Q E s k q => wpAny_typeOf_ref (k _ _ (kp _ _ he3)) (by rw [hz3.1]; exact q)
              have LM := PySem.W.exm_tupN (M := model X.prog X.w) (J3.kIn.keeps kp) LT (Heap.get?_push_size _ rfl) hb1
              exact LM.here (q _ kp)
        refine test fun h4 kp => ?_
        have fl4 := flying_kept fl3 kp
        have up4 : sI.heap.UpToSlots h4 := up3.trans (.of_keeps kp)
        cases b with
        | true =>
          refine codeAny_handlers_suite_as ?_
          refine HandSPX.lands_againZ fl4 fun h5 fl5 up5 => ?_
          have J5 : Inv X pins σ' H' { s' with heap := h5 } := J.landed nb fl5.1 (up4.trans up5) os ag
          obtain ⟨oe5, vs5, he5, hz5, hd5⟩ := fl5.there
          have S5 := J5.suite he5 hd5 na nL nF
          refine store_ok (X := X.suite a ((a, oe5) :: (X.pn ++ pins))) (v := .ref a) S5 hN hi (.inl hln) rfl (fun s6 S6 => ?_) (.inr hln)
          refine wpAny_mono ((hsu a oe5 cls d (X.pn ++ pins) hz5 ⟨_, hd5⟩).run [] s6 _ H' _ S6 (hyes rfl a na)) (fun f s6 hsp => ?_) (fun _ _ z => False.elim z)
          have end_ : ∀ {σ6 : L2.St} {H6 : Hp} {Q : Shared → Prop}, Inv (X.suite a ((a, oe5) :: (X.pn ++ pins))) [] σ6 H6 s6 → (∀ s7, Inv X pins (σ6.set i none) H6 s7 → Q s7) →
              wpAny (model X.prog X.w) X.A (do bindName X.env n .none; unbindBehindTheSuite X.env n pos') (fun _ s7 => Q s7) X.xe s6 := fun {σ6 H6 Q} S6 hq => gone_ok (S6.unsuite ok) hN hi hln hq
          cases f with
          | next =>
            obtain ⟨σ6, H6, S6, q6⟩ := hsp
            exact end_ S6 fun s7 J7 => ⟨_, _, J7, q6⟩
          | brk =>
            obtain ⟨σ6, H6, S6, q6⟩ := hsp
            exact end_ S6 fun s7 J7 => ⟨_, _, J7, q6⟩
          | cont =>
            obtain ⟨σ6, H6, S6, q6⟩ := hsp
            exact end_ S6 fun s7 J7 => ⟨_, _, J7, q6⟩
          | ret u =>
            obtain ⟨v6, σ6, H6, S6, r6, q6⟩ := hsp
            exact end_ S6 fun s7 J7 => ⟨_, _, _, J7, r6, q6⟩
        | false =>
          show wpAny _ X.A (handleBy (.ref a) X.env hds2) _ _ _
          exact ih (fun x hx => hz0 x (List.mem_cons_of_mem _ hx)) (hno rfl) h4 fl4 up4
    exact go hh hsz w h3 fl3 (up.trans up3)
  · cases f with
    | next =>
      obtain ⟨σ', H', J', q⟩ := hsp
      exact wpAny_execs_nil ⟨σ', H', J'.ofTry ok, q⟩
    | brk =>
      obtain ⟨σ', H', J', q⟩ := hsp
      exact ⟨σ', H', J'.ofTry ok, q⟩
    | cont =>
      obtain ⟨σ', H', J', q⟩ := hsp
      exact ⟨σ', H', J'.ofTry ok, q⟩
    | ret u =>
      obtain ⟨v, σ', H', J', r, q⟩ := hsp
      exact ⟨v, σ', H', J'.ofTry ok, r, q⟩
end
end Bw

namespace Bw
open PySem PySem.Spec PyProof.Rows L2
/-! ### raise of own classes -/
section
variable {X : Cx}
/-- X(), X an own exception class without own __init__ -/
theorem pmk_own0 {C : Addr} {bmB : List Value} {B newId initId : String} {x : Str} {p pos : Pos} (F : ExcBaseFacts B newId initId bmB) (q : PySem.W.excIn X.K C bmB newId = true) (gC : X.mg x = some (.ref C))
    (kC : PySem.W.keepIn X.K (.ref C) = true) (r : Raises X (.ref C)) (hg : Gl X x) (hdb : (x == ("__debug__" : Str)) = false := by decide) : PMk X (.Call (.Name x p) [] [] pos) (fun _ H Q => Q (.ref C) none H) := by
  intro pins s σ H Q I h
  refine wpAny_Call_Name_kw (ld_glob I hg gC ?_ hdb)
  refine PySem.W.callWith_K0 I.kIn kC ?_
  show wpAny _ _ (call (.ref C) []) _ _ _
  obtain ⟨bm, N, nm, qn, bs, hdct, sn, sub, ab, col, dd, k0, k1, k2, k3, k5, mN, hC, hN, hni, T⟩ := exc_obj I.kIn q
  refine wpAny_call_exc_subT F T hC hN hni (fun h' e hm => ?_) (by show 0 ≤ sizeLine; exact Nat.zero_le _)
  exact mk_of I hm r h (I.hok.gone hm.new)
/-- D.__init__(self, ..), D an own class above which stands ValueError -/
theorem pe_wrinit {pl : Sem Bool} {D : Addr} {x : Str} {e : Expr} {es : List Expr} {ta : TA} {p1 p2 pos : Pos} (hg : Gl X x) (hm : X.mg x = some (.ref D)) (hga : PySem.W.specialIn X.K (.ref D) "__getattribute__" = some (some (.builtin "type.__getattribute__")))
    (hrd : PySem.W.readsIn X.K D (.type "type") = true) (vV : PySem.W.findCls X.K (.ref D) (.type "type") "__init__" = some (.val (.builtin "ValueError.__init__"))) (ha : PA X (e :: es) ta)
    (hdb : (x == ("__debug__" : Str)) = false := by decide)
    (hc : eval (.Call (.Attribute (.Name x p1) "__init__" p2) (e :: es) [] pos) X.env = (do
      let ov ← eval (.Name x p1) X.env
      standAt p2.atName
      let (f, first) ← holding [ov] (getMethod ov "__init__" pl)
      callWith pos f first (backTo pos (starEach (e :: es) X.env)) (backToKw pos (keywordEach [] X.env))) := by rfl)
    (he : starEach (e :: es) X.env = (false, eval e X.env) :: starEach es X.env := by rfl) (hpl : (backTo pos (starEach es X.env)).any (·.1) = false := by rfl) :
    PE X (.Call (.Attribute (.Name x p1) "__init__" p2) (e :: es) [] pos) (tVeI X.K ta) := by
  refine ⟨fun pins s σ H Q I h => ?_⟩
  refine PySem.W.methodCall_KW (ld_glob I hg hm ?_ hdb) hc
  refine PySem.W.method_cls I.kIn hga (PySem.W.cls_value I.kIn hrd vV rfl ?_)
  show wpAny _ _ (callWith pos (Value.builtin "ValueError.__init__") [] (backTo pos (starEach (e :: es) X.env)) []) _ _ _
  refine PyProof.Rows.callWith_method1 (thn (ha.run pos pins _ σ H _ (I.tok _) h) fun us s1 ⟨vs, H1, I1, r1, a, C, ws, ev, hl, T, ea, q⟩ => ?_) he hpl
  subst ev
  cases r1 with
  | @cons _ u0 _ ur ra rw' =>
    obtain rfl : u0 = Value.ref a := ra
    have hlen : ur.length ≤ sizeLine := by
      rw [← Paired.length rw', sizeLine_eq]
      omega
    exact oinit_ok T I1 ea hlen fun s' J => ⟨.non, H1, J, rfl, q⟩
/-- C(), C's own __init__ -/
theorem pmk_oex0 {CX : CXT} {x : Str} {C fI : Addr} {k : Nat} {fd : FuncData} {ps : List Str} {sp : Sp} {ds : List Value} {dvs : List V} {p pos : Pos} (T : OexC X.K C) (iC : PySem.W.findIn X.K (.ref C) "__init__" = some (some (.ref fI))) (tI : PySem.W.typeIn X.K (.ref fI) = some (.type "function"))
    (F1 : FnOk X.prog X.w X.K X.mg X.base CX k fI fd ps sp) (hr : Room (k + 1) X.A) (hb : Binds X.K fd ps ds) (hd : Vals dvs ds) (hx : Passes CX X (fun _ _ _ => False)) (hg : Gl X x) (hm : X.mg x = some (.ref C))
    (hdb : (x == ("__debug__" : Str)) = false := by decide) :
    PMk X (.Call (.Name x p) [] [] pos) (tMkO C sp dvs tNil) := by
  intro pins s σ H Q I h
  obtain ⟨nm, q, N, bs, bm, sn, sub, ab, col, dd, k0, k1, k2, k3, k5, hC, hbm⟩ := T.cls
  refine wpAny_Call_Name_kw (ld_glob I hg hm ?_ hdb)
  obtain ⟨hz, q1⟩ := h
  refine PySem.W.callWith_K0 I.kIn T.kC ?_
  show wpAny _ _ (call (.ref C) []) _ _ _
  obtain ⟨hp, g, dr, tk, os⟩ := s
  have hsz : hp.objs.size ≤ hp.objs.size + 1 := Nat.le_succ _
  have hn : H (hp.objs.size + 1) = none := I.hok.fresh hsz
  have hq := q1 (hp.objs.size + 1) hn
  have kk : ∀ b o, hp.get? b = some o → ((hp.push (PySem.W.kdv_tup [])).push (PySem.HandSPX.excO C hp.objs.size)).get? b = some o := fun b o e => Heap.get?_push_of_some _ (Heap.get?_push_of_some _ e)
  have hget : ((hp.push (PySem.W.kdv_tup [])).push (PySem.HandSPX.excO C hp.objs.size)).get? (hp.objs.size + 1) = some (PySem.HandSPX.excO C hp.objs.size) := by heap_get
  have I2 : Inv X pins σ (upd H (hp.objs.size + 1) (exo (hp.objs.size + 1) C none)) ⟨(hp.push (PySem.W.kdv_tup [])).push (PySem.HandSPX.excO C hp.objs.size), g, dr, tk, os⟩ :=
    I.laid (t' := tk) (a := hp.objs.size + 1) (o := exo (hp.objs.size + 1) C none) (h' := (hp.push (PySem.W.kdv_tup [])).push (PySem.HandSPX.excO C hp.objs.size)) kk hsz (exo_ok hget)
  have r2 : Vals (V.ref (hp.objs.size + 1) :: ([] ++ dvs)) (Value.ref (hp.objs.size + 1) :: ([] ++ ds)) := .cons rfl (Vals.append .nil hd)
  have hl : (Value.ref (hp.objs.size + 1) :: [] ++ ds).length = ps.length := by
    have e := r2.length
    rw [F1.len _ _ _ _ hq] at e
    exact e.symm
  refine wpAny_call (PySem.HandSPX.call_own F.excBase_ValueError (fun Y => PySem.HandSPX.refsVE_contains Y bm hbm) (I.kIn _ _ hC) (PySem.W.looks_findIn I.kIn iC) (fun self => PySem.W.bind_fn I.kIn self tI) (Nat.zero_le _)
    (codeAny_mono (F1.run _ X.stack _ _ ⟨Value.ref (hp.objs.size + 1) :: [], []⟩ (Value.ref (hp.objs.size + 1) :: ([] ++ ds)) _ _ (fun _ _ _ => False) (hr.make C [] []) (I2.env0.make C [] []) (show BindsTo _ _ _ (ps.zip (Value.ref (hp.objs.size + 1) :: ([] ++ ds))) from hb _ (Value.ref (hp.objs.size + 1) :: []) I2.kIn hl) r2 hq) fun r s' hq' => ?_))
  cases r with
  | error er => exact hx pins σ _ _ er s' I2 hq'
  | ok fl =>
    cases fl with
    | ret u =>
      obtain ⟨v, H2, os2, bare2, un2, hok2, rv, ev, d, fs, ea, ed, hd1, q2⟩ := hq'
      subst ev
      obtain ⟨h2, g2, d2, t2, os'⟩ := s'
      exact ⟨rv, mk_end (raises_own T.exC T.tyC) I hsz kk un2 hok2 os2 bare2 ea ed hd1 q2⟩
    | next => exact False.elim hq'
    | brk => exact False.elim hq'
    | cont => exact False.elim hq'
end
/-! ### own exceptions with one field -/
/-- what such an __init__(self, v) does -/
def spXi (K : PySem.W.Frag) (f : Str) : Sp := fun vs H Q _ => ∃ (a C : Addr) (v : V), vs = [.ref a, v] ∧ OexC K C ∧ PySem.W.findIn K (.ref C) f = some none ∧ H a = some (exo a C none) ∧ ∀ dx, H dx = none → dx ≠ a → Q .non (upd (upd H dx (exd dx [(f, v)])) a (exo a C (some dx)))
/-- an own exception class x, its __init__ puts one field f; dvs: what is told by default -/
structure Xcl (P : Program) (w : World) (K : PySem.W.Frag) (mg : Str → Option Value) (base : Heap) (x : Str) (C : Addr) (k : Nat) (f : Str) (dvs : List V) : Prop where
  T : OexC K C
  no : PySem.W.findIn K (.ref C) f = some none
  hm : mg x = some (.ref C)
  ex : ∃ (fI : Addr) (fd : FuncData) (ds : List Value) (ps : List Str), PySem.W.findIn K (.ref C) "__init__" = some (some (.ref fI)) ∧ PySem.W.typeIn K (.ref fI) = some (.type "function") ∧ FnOk P w K mg base CX0 k fI fd ps (spXi K f) ∧ Binds K fd ps ds ∧ Vals dvs ds
def tXmk (C : Addr) (f : Str) (dvs : List V) (ta : TA) : L2.St → Hp → XK → Prop := fun σ H Q => ta σ H fun vs H1 => ∃ v, vs ++ dvs = [v] ∧ ∀ d H2, H1 d = none → Same H1 H2 → H2 d = some (.xd [(f, v)]) → Q (.ref C) (some d) H2
theorem xi_end {K : PySem.W.Frag} {H1 : Hp} {C : Addr} {f : Str} {v : V} {Q : XK} (T : OexC K C) (no : PySem.W.findIn K (.ref C) f = some none) (h : ∀ d H2, H1 d = none → Same H1 H2 → H2 d = some (.xd [(f, v)]) → Q (.ref C) (some d) H2) (a : Addr) (na : H1 a = none) :
    spXi K f [.ref a, v] (upd H1 a (exo a C none)) (fun v H2 => v = .non ∧ ∃ (d : Addr) (fs : List (Str × V)), H2 a = some (exo a C (some d)) ∧ H2 d = some (exd d fs) ∧ H1 d = none ∧ Q (.ref C) (some d) (upd (del H2 a) d (.xd fs))) (fun _ _ _ => False) := by
  refine ⟨a, C, v, rfl, T, no, upd_same, fun dx n ne => ⟨rfl, dx, [(f, v)], upd_same, by rw [upd_ne ne, upd_same], by rw [upd_ne ne] at n; exact n, ?_⟩⟩
  rw [upd_ne ne] at n
  refine h dx _ n (fun c o e => ?_) upd_same
  have c1 := ne_of_none e n
  have c2 := ne_of_none e na
  rw [upd_ne c1, del_ne c2, upd_ne c2, upd_ne c1, upd_ne c2]
  exact e
section
variable {X : Cx}
theorem pmk_x {x f : Str} {C : Addr} {k : Nat} {dvs : List V} {e : Expr} {es : List Expr} {ta : TA} {p pos : Pos} (Z : Xcl X.prog X.w X.K X.mg X.base x C k f dvs) (hr : Room (k + 1) X.A) (hg : Gl X x) (ha : PA X (e :: es) ta) (mono : ∀ σ H (Q Q' : List V → Hp → Prop), (∀ vs H, Q vs H → Q' vs H) → ta σ H Q → ta σ H Q')
    (hdb : (x == ("__debug__" : Str)) = false := by decide) (he : starEach (e :: es) X.env = (false, eval e X.env) :: starEach es X.env := by rfl) (hpl : (backTo pos (starEach es X.env)).any (·.1) = false := by rfl) :
    PMk X (.Call (.Name x p) (e :: es) [] pos) (tXmk C f dvs ta) := by
  obtain ⟨fI, fd, ds, ps, iC, tI, F, hb, hd⟩ := Z.ex
  have M := pmk_oex (p := p) (pos := pos) Z.T iC tI F hr hb hd pass0 hg Z.hm ha hdb he hpl
  intro pins s σ H Q I h
  refine M pins s σ H Q I (mono _ _ _ _ (fun vs H1 ⟨v, ev, q⟩ => ⟨?_, fun a na => ?_⟩) h)
  · have := congrArg List.length ev
    simp only [List.length_append, List.length_cons, List.length_nil] at this
    omega
  · rw [ev]
    exact xi_end Z.T Z.no q a na
theorem pmk_x0 {x f : Str} {C : Addr} {k : Nat} {dvs : List V} {p pos : Pos} (Z : Xcl X.prog X.w X.K X.mg X.base x C k f dvs) (hr : Room (k + 1) X.A) (hg : Gl X x) (hdb : (x == ("__debug__" : Str)) = false := by decide) :
    PMk X (.Call (.Name x p) [] [] pos) (tXmk C f dvs tNil) := by
  obtain ⟨fI, fd, ds, ps, iC, tI, F, hb, hd⟩ := Z.ex
  have M := pmk_oex0 (p := p) (pos := pos) Z.T iC tI F hr hb hd pass0 hg Z.hm hdb
  intro pins s σ H Q I h
  obtain ⟨v, ev, q⟩ := h
  refine M pins s σ H Q I ⟨Nat.zero_le _, fun a na => ?_⟩
  rw [ev]
  exact xi_end Z.T Z.no q a na
/-- such an __init__ -/
theorem ok_xinit {P : Program} {w : World} {K : PySem.W.Frag} {mg : Str → Option Value} {base : Heap} {fI D : Addr} {fd : FuncData} {k : Nat} {qual x f par m : Str} {pa : Arguments} {sc : Scope} {dfl : List V} {kws : List (Str × V)} {j : Nat} {p1 p2 p3 p4 p5 p6 p7 p8 p9 p10 : Pos}
    (F : FunD K "__init__" qual pa [.Expr (.Call (.Attribute (.Name x p1) "__init__" p2) [.Name "self" p3, .Constant (.str m) j p4] [] p5) p6, .Assign [.Attribute (.Name "self" p7) f p8] (.Name par p9) p10] sc dfl kws fI fd) (S : FnScope ["self", par] ["self", par] sc)
    (hm : mg x = some (.ref D)) (hga : PySem.W.specialIn K (.ref D) "__getattribute__" = some (some (.builtin "type.__getattribute__"))) (hrd : PySem.W.readsIn K D (.type "type") = true) (vV : PySem.W.findCls K (.ref D) (.type "type") "__init__" = some (.val (.builtin "ValueError.__init__")))
    (hgl : sc.names.lookup x = some .globalImplicit) (v0 : Vis sc "self") (v1 : Vis sc par)
    (hc : ∀ (L g : Addr) (cd : Value), ∃ pl : Sem Bool, eval (.Call (.Attribute (.Name x p1) "__init__" p2) [.Name "self" p3, .Constant (.str m) j p4] [] p5) (envOfC qual sc L g cd) = (do
      let ov ← eval (.Name x p1) (envOfC qual sc L g cd)
      standAt p2.atName
      let (f, first) ← holding [ov] (getMethod ov "__init__" pl)
      callWith p5 f first (backTo p5 (starEach [.Name "self" p3, .Constant (.str m) j p4] (envOfC qual sc L g cd))) (backToKw p5 (keywordEach [] (envOfC qual sc L g cd)))))
    (hs : ∀ (L g : Addr) (cd : Value), swapsWith (.Name par p9) (some (.Attribute (.Name "self" p7) f p8)) p10.line (envOfC qual sc L g cd) = pure false)
    (hdb : (x == ("__debug__" : Str)) = false) (hd1 : (par == ("__debug__" : Str)) = false) (hcd1 : (par == ("__classdict__" : Str)) = false) : FnOk P w K mg base CX0 (k + 1) fI fd ["self", par] (spXi K f) := by
  refine F.ok S (fun vs H Q E ⟨a, C, v, e, _⟩ => by rw [e]; rfl) (fun cdv A outer s H vs Q E hr h => ?_)
  obtain ⟨pl, hc⟩ := hc s.heap.objs.size fI cdv
  refine ⟨_, pss_cons (ps_expr (pe_wrinit (D := D) (pl := pl) hgl hm hga hrd vV (pa_cons (pe_var (i := 0) rfl v0 (by decide) (by decide)) (pa_cons pe_str pa_nil)) hdb hc)) (pss_one (ps_ost (pe_var (i := 0) rfl v0 (by decide) (by decide)) (pe_var (i := 1) rfl v1 hd1 hcd1) (hs _ _ _))), ?_⟩
  obtain ⟨a, C, v, rfl, T, no, ha, q⟩ := h
  exact ⟨.ref a, rfl, a, C, [.str m], rfl, (by simp), T, ha, v, rfl, .ref a, rfl, a, C, rfl, T, no, .inl ⟨ha, q⟩⟩
end
end Bw

namespace Bw
open PySem PySem.Spec PyProof.Rows L2
/-! ### defs that may raise, as their callers want them -/
structure FnX (P : Program) (w : World) (K : PySem.W.Frag) (mg : Str → Option Value) (base : Heap) (x : Str) (k : Nat) (ps : List Str) (sp : Sp) : Prop where
  ex : ∃ (f : Addr) (fd : FuncData), FnOk P w K mg base (L2.CX P w) k f fd ps sp ∧ mg x = some (.ref f) ∧ PySem.W.keepIn K (.ref f) = true ∧ Binds K fd ps []
structure MeX (P : Program) (w : World) (K : PySem.W.Frag) (mg : Str → Option Value) (base : Heap) (C : Addr) (m : Str) (k : Nat) (ps : List Str) (sp : Sp) : Prop where
  ex : ∃ (f : Addr) (fd : FuncData), FnOk P w K mg base (L2.CX P w) k f fd ps sp ∧ Meth K C m f ∧ Binds K fd ps []
structure MkrX (P : Program) (w : World) (K : PySem.W.Frag) (mg : Str → Option Value) (base : Heap) (x : Str) (C : Addr) (k : Nat) (ps : List Str) (dvs : List V) (sp : Sp) : Prop where
  ex : ∃ (f : Addr) (fd : FuncData) (ds : List Value), Mk K C f ∧ FnOk P w K mg base (L2.CX P w) k f fd ps sp ∧ mg x = some (.ref C) ∧ Binds K fd ps ds ∧ Vals dvs ds
section
variable {X : Cx}
/-- what a callee lets out is let out -/
abbrev Lets (X : Cx) (E : XK) : Prop := Passes (L2.CX X.prog X.w) X E
theorem pe_fx {E : XK} {x : Str} {k : Nat} {ps : List Str} {sp : Sp} {e : Expr} {es : List Expr} {t : TA} {p pos : Pos} (F : FnX X.prog X.w X.K X.mg X.base x k ps sp) (hx : Lets X E) (hr : Room k X.A) (hg : Gl X x) (ha : PA X (e :: es) t)
    (hdb : (x == ("__debug__" : Str)) = false := by decide) (he : starEach (e :: es) X.env = (false, eval e X.env) :: starEach es X.env := by rfl) (hpl : (backTo pos (starEach es X.env)).any (·.1) = false := by rfl) :
    PE X (.Call (.Name x p) (e :: es) [] pos) (tCall sp [] E t) := by
  obtain ⟨f, fd, G, hm, hk, hb⟩ := F.ex
  exact pe_call G hr hg hm hk hb .nil hx ha hdb he hpl
theorem pe_mex {E : XK} {pl : Sem Bool} {C : Addr} {m : Str} {k : Nat} {ps : List Str} {sp : Sp} {o e : Expr} {es : List Expr} {t : TA} {ta : TE} {apos pos : Pos} (he : PE X o ta) (c : Cls X.K C) (M : MeX X.prog X.w X.K X.mg X.base C m k ps sp) (hx : Lets X E) (hr : Room k X.A) (ha : PA X (e :: es) t)
    (hst : starEach (e :: es) X.env = (false, eval e X.env) :: starEach es X.env := by rfl) (hpl : (backTo pos (starEach es X.env)).any (·.1) = false := by rfl)
    (ht : eval (.Call (.Attribute o m apos) (e :: es) [] pos) X.env = (do
      let ov ← eval o X.env
      standAt apos.atName
      let (f, first) ← holding [ov] (getMethod ov m pl)
      callWith pos f first (backTo pos (starEach (e :: es) X.env)) (backToKw pos (keywordEach [] X.env))) := by rfl) :
    PE X (.Call (.Attribute o m apos) (e :: es) [] pos) (tMeth C m sp [] E ta t) := by
  obtain ⟨f, fd, G, hm, hb⟩ := M.ex
  exact pe_meth he c hm G hr hb .nil hx ha hst hpl ht
theorem pe_mex0 {E : XK} {pl : Sem Bool} {C : Addr} {m : Str} {k : Nat} {ps : List Str} {sp : Sp} {o : Expr} {ta : TE} {apos pos : Pos} (he : PE X o ta) (c : Cls X.K C) (M : MeX X.prog X.w X.K X.mg X.base C m k ps sp) (hx : Lets X E) (hr : Room k X.A)
    (ht : eval (.Call (.Attribute o m apos) [] [] pos) X.env = (do
      let ov ← eval o X.env
      standAt apos.atName
      let (f, first) ← holding [ov] (getMethod ov m pl)
      callWith pos f first (backTo pos (starEach [] X.env)) (backToKw pos (keywordEach [] X.env))) := by rfl) :
    PE X (.Call (.Attribute o m apos) [] [] pos) (tMeth C m sp [] E ta tNil) := by
  obtain ⟨f, fd, G, hm, hb⟩ := M.ex
  exact pe_meth0 he c hm G hr hb .nil hx ht
theorem pe_mkx {E : XK} {x : Str} {C : Addr} {k : Nat} {ps : List Str} {dvs : List V} {sp : Sp} {e : Expr} {es : List Expr} {t : TA} {p pos : Pos} (M : MkrX X.prog X.w X.K X.mg X.base x C k ps dvs sp) (hx : Lets X E) (hr : Room (k + 1) X.A) (hg : Gl X x) (ha : PA X (e :: es) t)
    (hdb : (x == ("__debug__" : Str)) = false := by decide) (he : starEach (e :: es) X.env = (false, eval e X.env) :: starEach es X.env := by rfl) (hpl : (backTo pos (starEach es X.env)).any (·.1) = false := by rfl) :
    PE X (.Call (.Name x p) (e :: es) [] pos) (tMake C sp dvs E t) := by
  obtain ⟨f, fd, ds, M, G, hm, hb, hd⟩ := M.ex
  exact pe_make M G hr hg hm hb hd hx ha hdb he hpl
theorem pe_gcls {x : Str} {C : Addr} {p : Pos} (h : X.mg x = some (.ref C)) (hg : Gl X x) (hd : (x == ("__debug__" : Str)) = false := by decide) : PE X (.Name x p) (tC (.ref C)) := pe_glob (v := .ref C) hg h rfl hd
/-- X(), X an own exception class without own __init__ that stands above ValueError -/
structure XpV (K : PySem.W.Frag) (C : Addr) : Prop where
  q : PySem.W.excIn K C PySem.HandSPX.veTail "ValueError.__new__" = true
  kp : PySem.W.keepIn K (.ref C) = true
  h1 : PySem.W.subIn K (.ref C) (.type "BaseException") = some true
  h2 : PySem.W.typeIn K (.ref C) = some (.type "type")
theorem pmk_ownV {C : Addr} {x : Str} {p pos : Pos} (h : XpV X.K C) (gC : X.mg x = some (.ref C)) (hg : Gl X x) (hdb : (x == ("__debug__" : Str)) = false := by decide) : PMk X (.Call (.Name x p) [] [] pos) (fun _ H Q => Q (.ref C) none H) :=
  pmk_own0 F.excBase_ValueError h.q gC h.kp (raises_own h.h1 h.h2) hg hdb
theorem huH {k : Nat} {A : Around} (r : L2H.RoomH k A) : A.units + 65 < cLine := by have := r.un; omega
theorem lets0 : Lets X E0 := passL
theorem lets_of {E : XK} (tk : Takes X (fun cls d _ H => E cls d H)) : Lets X E := passes_call tk fun _ _ _ _ h => h
end
/-- a def's own wish -/
theorem takesX {P : Program} {w : World} {K : PySem.W.Frag} {mg : Str → Option Value} {base : Heap} {N : List Str} {qual : Str} {scope : Scope} {f : Addr} {cdv : Value} {A : Around} {outer : List Env} {s : Shared} {H : Hp} {E : XK} :
    Takes (cxOf (L2.CX P w) P w K mg base N qual scope f cdv A outer s H E) (fun cls d _ H => E cls d H) := takes_of rfl rfl rfl rfl
theorem takesLam {X : Cx} {A : Around} {outer : List Env} {s : Shared} {H : Hp} {E : XK} {scope : Scope} {f c' : Addr} : Takes (LamX.lamCx X A outer s H E scope f c') (fun cls d _ H => E cls d H) := takes_of rfl rfl rfl rfl
/-- what is never reached -/
theorem pss_no {X : Cx} {b : List Stmt} : PSs X b (fun _ _ _ => False) := ⟨fun _ _ _ _ _ _ h => h.elim⟩
/-! ### l.count(x) -/
section
variable {X : Cx}
def rCountD (K : PySem.W.Frag) : V → List V → Hp → VK → Prop := fun x xs H Q => ∃ (a : Addr) (y : V) (d : PyData) (ds : List PyData), x = V.ref a ∧ xs = [y] ∧ Dp K H (V.ref a) (.list ds) ∧ Dp K H y d ∧
  SeqAt.shaped (.list ds) = true ∧ SeqAt.shaped d = true ∧ Q (.int ((ds.countP fun z => PyData.eqv z d : Nat) : Int)) H
theorem mt_countD (hu : X.A.units + 65 < cLine) : MtR X "list.count" (rCountD X.K) := by
  intro pins s σ H x xs v us Q I rx rxs h
  obtain ⟨a, y, d, ds, rfl, rfl, hl, hy, sl, sd, q⟩ := h
  cases rx
  cases rxs with
  | cons ry rt =>
    rename_i uy ut
    cases rt
    obtain ⟨bs, r1⟩ := Dp.reads I d y uy hy ry
    have hroom : X.A.units + 1 + min (PyData.depthAll ds) d.depth < cLine := room_in_shaped sd hu
    have cl : PyData.canLayAll0 ds = true := SeqAt.canLay_of_shaped sl
    cases hl with
    | lst hs ha =>
      obtain ⟨its, rv, ⟨⟨cls, dd, data, sls⟩, n, ho, hc, hdn, hdt⟩, hlen⟩ := I.list hs
      simp only at hc hdt
      subst hc hdt
      obtain ⟨as, h4⟩ := Dp.readsAll I ds _ its ha rv
      have hmap : its.map (SeqAt.readOf s.heap) = ds := SeqAt.readsAll_map ds its as cl h4
      have ec : (ds.countP fun z => PyData.eqv z d) = its.toArray.toList.countP (fun u => PyData.eqv (SeqAt.readOf s.heap u) d) := by
        rw [← hmap, List.countP_map]
        rfl
      rw [ec] at q
      exact call_meets PySem.F.slot_list_count ⟨_, ho, rfl⟩ PySem.F.entry_list_count (PySem.F.args_list_count_2 _ _) (SeqAt.list_countAt a its.toArray n dd sls uy (fun u => PyData.eqv (SeqAt.readOf s.heap u) d))
        ⟨ho, SeqAt.items_eqAt (vs := its.toArray) (show ReadsAll s.heap its.toArray.toList ds as from h4) r1 cl (SeqAt.canLay_of_shaped sd) hroom, ⟨.int _, H, I.tok _, ⟨_, rfl⟩, q⟩⟩
end
/-! ### the caught exception within an except suite and the defs that are called there -/
/-- its dict, where it has one, is known -/
def XdOk (d : Option Addr) (H : Hp) : Prop := ∀ dd, d = some dd → ∃ fs, H dd = some (.xd fs)
section
variable {X : Cx}
theorem inst_pin {pins : List (Addr × Obj)} {σ : L2.St} {H : Hp} {s : Shared} {a D : Addr} {d : Option Addr} {oe : Obj} (I : Inv X pins σ H s) (hp : (a, oe) ∈ X.pn) (hz : Zc (.ref D) d oe) (hf : ∃ vs, oe.data = .fields vs) (hd : XdOk d H) : ∃ od, PySem.W.InstAt s.heap a oe D od := by
  obtain ⟨hget, _⟩ := I.pin (a, oe) (List.mem_append.mpr (.inl hp))
  obtain ⟨vs, hv⟩ := hf
  obtain ⟨z1, z2⟩ := hz
  have nc : PySem.W.notCls oe = true := by unfold PySem.W.notCls; rw [hv] <;> rfl
  cases d with
  | none => exact ⟨none, hget, z1, nc, by rw [z2]; trivial⟩
  | some dd =>
    obtain ⟨fs, e⟩ := hd dd rfl
    have hx : ObjOk X.prog X.w H s.heap dd (.xd fs) := I.hok dd _ e
    obtain ⟨mA, hns, hr⟩ := hx
    obtain ⟨od, ho, hl⟩ := lookIn_ns hns
    exact ⟨some od, hget, z1, nc, by rw [z2]; exact ho⟩
/-- isinstance(e, C) -/
def rIsP (K : PySem.W.Frag) (a : Addr) (cls : Value) (d : Option Addr) : List V → Hp → VK → Prop := fun xs H Q => ∃ (D : Addr) (c : V) (cv : Value) (b : Bool), cls = .ref D ∧ ExcC K D ∧ xs = [.ref a, c] ∧ ClsV c cv ∧ PySem.W.kitOne K (.ref D) cv = some b ∧ XdOk d H ∧ Q (.bl b) H
theorem kit_pin {a D : Addr} {oe : Obj} {od : Option Obj} (C : ExcC X.K D) : PySem.W.KitX X.K (.ref a) (.ref D) (fun h => PySem.W.InstAt h a oe D od) :=
  PySem.W.kitx_exc (by obtain ⟨cd, hc, _⟩ := PySem.W.any_some C.hd; rw [hc]; rfl) C.hg C.hk C.hs C.ha C.hn C.ht C.hm
theorem call_isP {a : Addr} {cls : Value} {d : Option Addr} {oe : Obj} (hp : (a, oe) ∈ X.pn) (hz : Zc cls d oe) (hf : ∃ vs, oe.data = .fields vs) : CallR X (.builtin "isinstance") (rIsP X.K a cls d) := by
  intro pins s σ H xs us Q I r h
  obtain ⟨D, c, cv, b, rfl, C, rfl, hcv, e, hx, q⟩ := h
  obtain ⟨od, J⟩ := inst_pin I hp hz hf hx
  obtain ⟨u1, u2, rfl, r1, r2⟩ := vals2 r
  cases (show u1 = Value.ref a from r1)
  have ec := hcv.eq r2
  subst ec
  exact PySem.W.kia_one (kit_pin C) I.kIn J e (fun z => nomatch z) fun tk => ⟨.bl b, H, I.tok tk, rfl, q⟩
/-- isinstance(e, (C1, C2, ..)) -/
def rIsPT (K : PySem.W.Frag) (a : Addr) (cls : Value) (d : Option Addr) : List V → Hp → VK → Prop := fun xs H Q => ∃ (D tp : Addr) (cs : List V) (us : List Value) (b : Bool), cls = .ref D ∧ ExcC K D ∧ xs = [.ref a, .ref tp] ∧ H tp = some (.tup cs) ∧ Paired ClsV cs us ∧ PySem.W.kitAny K (.ref D) us = some b ∧ XdOk d H ∧ Q (.bl b) H
theorem call_isPT {a : Addr} {cls : Value} {d : Option Addr} {oe : Obj} (hp : (a, oe) ∈ X.pn) (hz : Zc cls d oe) (hf : ∃ vs, oe.data = .fields vs) : CallR X (.builtin "isinstance") (rIsPT X.K a cls d) := by
  intro pins s σ H xs us Q I r h
  obtain ⟨D, tp, cs, ws, b, rfl, C, rfl, hT, k, e, hx, q⟩ := h
  obtain ⟨od, J⟩ := inst_pin I hp hz hf hx
  obtain ⟨u1, u2, rfl, r1, r2⟩ := vals2 r
  cases (show u1 = Value.ref a from r1)
  cases (show u2 = Value.ref tp from r2)
  obtain ⟨_, its, rv, o, h1, h2, n, h3⟩ := (show ObjOk X.prog X.w H s.heap tp (.tup cs) from I.hok tp _ hT)
  have e3 := ClsV.all k rv
  subst e3
  obtain ⟨oc, od', dt, sl⟩ := o
  simp only at h2 h3
  subst h2 h3
  exact PySem.W.kia_tup (kit_pin C) I.kIn J h1 e (fun z => nomatch z) fun tk => ⟨.bl b, H, I.tok tk, rfl, q⟩
/-- e.f -/
def tXfc (K : PySem.W.Frag) (a : Addr) (cls : Value) (d : Option Addr) (f : Str) (te : TE) : TE := fun σ H Q => te σ H fun x H1 => ∃ (D dd : Addr) (fs : List (Str × V)) (v : V), x = .ref a ∧ cls = .ref D ∧ ExcC K D ∧ PySem.W.findIn K (.ref D) f = some none ∧ d = some dd ∧ H1 dd = some (.xd fs) ∧ fs.lookup f = some v ∧ Q v H1
theorem pe_xfc {a : Addr} {oe : Obj} {cls : Value} {d : Option Addr} {e : Expr} {te : TE} {pos : Pos} {n : Str} (hp : (a, oe) ∈ X.pn) (hz : Zc cls d oe) (hf : ∃ vs, oe.data = .fields vs) (he : PE X e te) (hb : attributeBase e n X.env (eval e X.env) = eval e X.env := by rfl) :
    PE X (.Attribute e n pos) (tXfc X.K a cls d n te) := by
  refine ⟨fun pins s σ H Q I h => ?_⟩
  refine attr_of hb (thn (he.run pins s σ H _ I h) fun u s1 hh => ?_)
  obtain ⟨x, H1, I1, rx, D, dd, fs, v, ex, ec, C, no, ed, ea, l, q⟩ := hh
  subst ex ec ed
  cases (show u = Value.ref a from rx)
  obtain ⟨ha, _⟩ := I1.pin (a, oe) (List.mem_append_left _ hp)
  obtain ⟨vs, hd⟩ := hf
  obtain ⟨mA, hns, hr⟩ := (show ObjOk X.prog X.w H1 s1.heap dd (.xd fs) from I1.hok dd _ ea)
  obtain ⟨od, ho, hl⟩ := lookIn_ns hns
  obtain ⟨u, hu, ru⟩ := RelO.some_of (v := v) (o := mA n) (by rw [← l]; exact hr n)
  have J : PySem.W.InstAt s1.heap a oe D (some od) := ⟨ha, hz.1, by unfold PySem.W.notCls; rw [hd] <;> rfl, by rw [hz.2]; exact ho⟩
  exact HandSPX.exc_get I1.kIn J C.hg C.hk C.hs (PySem.W.findObj_own C.hd no rfl (by rw [hl, hu])) (handed_of ru) ⟨v, H1, I1.tok _, ru, q⟩
end
/-! ### a def that is called with the caught exception -/
abbrev SpP := Addr × Obj → List V → Hp → VK → Prop
structure FnP0 (P : Program) (w : World) (K : PySem.W.Frag) (mg : Str → Option Value) (base : Heap) (k : Nat) (f : Addr) (fd : FuncData) (ps : List Str) (sp : SpP) : Prop where
  len : ∀ p vs H Q, sp p vs H Q → vs.length = ps.length
  run : ∀ (A : Around) (outer : List Env) (s : Shared) (H : Hp) (args : Args) (us : List Value) (vs : List V) (Q : VK) (p : Addr × Obj), L2H.RoomH k A → L2H.PinOk outer H s p → Env0 P w K mg base A outer s H → BindsTo s fd args (ps.zip us) → Vals vs us → sp p vs H Q →
    codeAny (model P w) A (.call (.ref f) args) (CR CX0 outer P w H s Q E0) s
theorem Fun.okP {P : Program} {w : World} {K : PySem.W.Frag} {mg : Str → Option Value} {base : Heap} {x qual : Str} {st : Stmt} {f : Addr} {fd : FuncData} {N ps : List Str} {k : Nat} {sp : SpP} (F : Fun K x qual st f fd) (S : FnScope N ps (defScope st)) (len : ∀ p vs H Q, sp p vs H Q → vs.length = ps.length)
    (hbody : ∀ (cdv : Value) (A : Around) (outer : List Env) (s : Shared) (H : Hp) (vs : List V) (Q : VK) (p : Addr × Obj), L2H.RoomH k (A.deeper (envOfC qual (defScope st) s.heap.objs.size f cdv)) → sp p vs H Q →
      ∃ t, PSs (L2H.cxH CX0 P w K mg base N qual (defScope st) f cdv A outer s H E0 p).nox (defBody st) t ∧ t { nx := fun _ H' => Q .non H', rt := Q } (L2.start N vs) H) : FnP0 P w K mg base (k + 1) f fd ps sp := by
  obtain ⟨oc, od, kV, doc, pm, an, cdv, ct, osl, rfl, lk, hcd⟩ := F.ex
  refine ⟨len, fun A outer s H args us vs Q p hr hpin e0 hb r hsp => ?_⟩
  have hl := len _ _ _ _ hsp
  have KX : K.In s.heap := e0.mod.kin.keeps fun b o e => (e0.bs b o e).1
  refine codeAny_call_function hr.depth (KX _ _ lk) rfl S.co S.gen rfl (PySem.W.codeRec_of KX hcd) (hb _ _ _ _ ?_)
  have hkind : ∀ y ∈ ps.zip us, (defScope st).names.lookup y.1 = some .local ∨ ((defScope st).names.lookup y.1 = some .cell ∧ ((cellsFrom (s.heap.objs.size + 1) (defScope st).names []).lookup y.1).isSome = true) := by
    intro y hy
    obtain ⟨n, v⟩ := y
    exact (S.par n (List.of_mem_zip hy).1).imp id fun q => ⟨q, PySem.W.cellsFrom_some _ _ _ (.inl q)⟩
  refine wpAny_newFunctionEnv_cells S.kind hkind fun env he s1 x => ?_
  subst he
  refine ⟨(e0.mod.nolimit.keeps fun b o e => (e0.bs b o e).1).keeps x.toInCall.keep, codeAny_func ?_⟩
  obtain ⟨t, ht, hq⟩ := hbody cdv A outer s H vs Q p (hr.deeper _) hsp
  refine wpAny_mono (ht.nox.run [] s1 (L2.start N vs) H _ (L2H.inv_startH S hpin e0 hl r x) hq) (fun fl s' hs => ?_) fun e s' hs => hs
  have fin : ∀ {σ' : L2.St} {H' : Hp} {v : V} {u : Value}, Inv (L2H.cxH CX0 P w K mg base N qual (defScope st) f cdv A outer s H E0 p) [] σ' H' s' → RelV v u → Q v H' → CE outer P w H s Q u s' :=
    fun {σ' H' v u} J rv q => ⟨v, H', J.os, J.bare, J.base, J.hok, rv, q⟩
  match fl, hs with
  | .ret u, ⟨v, σ', H', J, rv, q⟩ => exact fin J rv q
  | .next, ⟨σ', H', J, q⟩ => exact fin (v := V.non) (u := Value.none) J rfl q
  | .brk, ⟨_, _, _, q⟩ => exact q.elim
  | .cont, ⟨_, _, _, q⟩ => exact q.elim
structure FnP (P : Program) (w : World) (K : PySem.W.Frag) (mg : Str → Option Value) (base : Heap) (x : Str) (k : Nat) (ps : List Str) (sp : SpP) : Prop where
  ex : ∃ (f : Addr) (fd : FuncData), FnP0 P w K mg base k f fd ps sp ∧ mg x = some (.ref f) ∧ PySem.W.keepIn K (.ref f) = true ∧ Binds K fd ps []
def tCallP (sp : SpP) (a : Addr) (cls : Value) (d : Option Addr) (t : TA) : TE := fun σ H Q => t σ H fun vs H1 => ∀ oe : Obj, Zc cls d oe → (∃ vs, oe.data = .fields vs) → sp (a, oe) vs H1 Q
theorem pe_fp {X : Cx} {x : Str} {k : Nat} {ps : List Str} {sp : SpP} {e : Expr} {es : List Expr} {t : TA} {q pos : Pos} {a : Addr} {oe : Obj} {cls : Value} {d : Option Addr} (F : FnP X.prog X.w X.K X.mg X.base x k ps sp) (hp : (a, oe) ∈ X.pn) (hz : Zc cls d oe) (hf : ∃ vs, oe.data = .fields vs) (hr : L2H.RoomH k X.A) (hg : Gl X x) (ha : PA X (e :: es) t)
    (hdb : (x == ("__debug__" : Str)) = false := by decide) (he : starEach (e :: es) X.env = (false, eval e X.env) :: starEach es X.env := by rfl) (hpl : (backTo pos (starEach es X.env)).any (·.1) = false := by rfl) :
    PE X (.Call (.Name x q) (e :: es) [] pos) (tCallP sp a cls d t) := by
  obtain ⟨f, fd, G, hm, hk, hb⟩ := F.ex
  refine ⟨fun pins s σ H Q I h => ?_⟩
  refine wpAny_Call_Name_kw (ld_glob I hg hm ?_ hdb)
  refine PySem.W.callWith_K (h₀ := X.base) I.ok.mod.kin hk (thn (ha.run pos pins s σ H _ I h) fun us s1 ⟨vs, H1, I1, r, q⟩ => ⟨I1.kIn, ?_⟩) he hpl
  have q := q oe hz hf
  have hl : us.length = ps.length := by rw [← r.length]; exact G.len _ _ _ _ q
  have b := hb s1 us I1.kIn (by rw [List.append_nil]; exact hl)
  rw [List.append_nil] at b
  have P1 := I1.pin (a, oe) (List.mem_append_left _ hp)
  have hpin : L2H.PinOk X.stack H1 s1 (a, oe) := ⟨P1.1, P1.2.1, fun hm => (List.mem_cons.mp (I1.stkSub a hm)).elim P1.2.2.1 P1.2.2.2.1, P1.2.2.2.2⟩
  show wpAny _ _ (call (.ref f) us) _ _ _
  refine wpAny_call (codeAny_mono (G.run X.A X.stack s1 H1 ⟨us, []⟩ us vs Q (a, oe) hr hpin I1.env0 b r q) fun r s' hq => ?_)
  match r, hq with
  | .error e, hq => exact False.elim hq
  | .ok (.ret u), hq => exact I1.after hq
  | .ok .next, hq => exact False.elim hq
  | .ok .brk, hq => exact False.elim hq
  | .ok .cont, hq => exact False.elim hq
theorem roomH_mark {k : Nat} {A : Around} {v : Option Value} (r : L2.Room k A) : L2H.RoomH k (A.mark v) := ⟨r.dp, r.un⟩
end Bw

namespace Bw
open PySem PySem.Spec PyProof.Rows L2
/-! ### the classes of the errors; what is told of one -/
structure Zs where
  (Wrong NoWord NoText NoNumber NoSize NoLengths NoQuery NoCode NoRow NoEntries NoQueryText NoPages NoName NoQueries NoShelf NoDeed Taken NoPlace NoSlot : Addr)
def Zs.sixteen (Z : Zs) : List Addr := [Z.NoCode, Z.NoDeed, Z.NoEntries, Z.NoLengths, Z.NoName, Z.NoNumber, Z.NoPages, Z.NoQueries, Z.NoQuery, Z.NoQueryText, Z.NoRow, Z.NoShelf, Z.NoSize, Z.NoText, Z.NoWord, Z.Taken]
def kindNames : List Str := ["code", "deed", "entries", "lengths", "name", "number", "pages", "queries", "query", "text of query", "row", "shelf", "size", "text", "word", "taken"]
def Zs.five (Z : Zs) : List Value := [.ref Z.NoCode, .ref Z.NoEntries, .ref Z.NoPages, .ref Z.NoQueryText, .ref Z.NoRow]
def excB (K : PySem.W.Frag) (D : Addr) : Bool :=
  decide (PySem.W.findIn K (.ref D) "__getattribute__" = some (some (.builtin "BaseException.__getattribute__"))) && (decide (PySem.W.findIn K (.ref D) "__getattr__" = some none) && (decide (PySem.W.subIn K (.ref D) (.type "BaseException") = some true) && (PySem.W.hasDictIn K D && (
  decide (PySem.W.findIn K (.ref D) "__class__" = some (some (.builtin "object.__class__"))) && (decide (PySem.W.specialIn K (.builtin "object.__class__") "__get__" = some (some (.builtin "getset_descriptor.__get__"))) && (decide (PySem.W.takesIn K (.builtin "object.__class__") = some true) && decide (PySem.W.mroIn K D (.type "object") = some true)))))))
theorem excB_ok {K : PySem.W.Frag} {D : Addr} (h : excB K D = true) : ExcC K D := by
  unfold excB at h
  simp only [Bool.and_eq_true, decide_eq_true_eq] at h
  obtain ⟨h1, h2, h3, h4, h5, h6, h7, h8⟩ := h
  exact ⟨h1, h2, h3, h4, h5, h6, h7, h8⟩
/-- one of the sixteen, and which -/
def kindB (K : PySem.W.Frag) (Z : Zs) (D : Addr) (i : Nat) : Bool :=
  excB K D && ((Z.sixteen.zipIdx.all fun x => decide (PySem.W.kitOne K (.ref D) (.ref x.1) = some (decide (x.2 = i)))) && (decide (PySem.W.kitOne K (.ref D) (.type "ValueError") = some true) && decide (PySem.W.kitAny K (.ref D) [.ref Z.NoPlace, .ref Z.NoSlot] = some false)))
structure KindOk (K : PySem.W.Frag) (Z : Zs) (D : Addr) (i : Nat) : Prop where
  ex : ExcC K D
  is : ∀ (j : Nat) (C : Addr), Z.sixteen[j]? = some C → PySem.W.kitOne K (.ref D) (.ref C) = some (decide (j = i))
  ve : PySem.W.kitOne K (.ref D) (.type "ValueError") = some true
  ix : PySem.W.kitAny K (.ref D) [.ref Z.NoPlace, .ref Z.NoSlot] = some false
theorem kindB_ok {K : PySem.W.Frag} {Z : Zs} {D : Addr} {i : Nat} (h : kindB K Z D i = true) : KindOk K Z D i := by
  unfold kindB at h
  simp only [Bool.and_eq_true, decide_eq_true_eq, List.all_eq_true] at h
  obtain ⟨h1, h2, h3, h4⟩ := h
  refine ⟨excB_ok h1, fun j C e => ?_, h3, h4⟩
  exact h2 (C, j) (by
    rw [List.mem_iff_getElem?]
    exact ⟨j, by simp [List.getElem?_zipIdx, e]⟩)
/-- by the first clause: with its place -/
def howAtB (K : PySem.W.Frag) (Z : Zs) (D : Addr) (i : Nat) : Bool := kindB K Z D i && (decide (PySem.W.findIn K (.ref D) "at" = some none) && decide (PySem.W.exmAny K (.ref D) Z.five = some true))
structure HowAt (K : PySem.W.Frag) (Z : Zs) (D : Addr) (i : Nat) : Prop where
  k : KindOk K Z D i
  no : PySem.W.findIn K (.ref D) "at" = some none
  c1 : PySem.W.exmAny K (.ref D) Z.five = some true
theorem howAtB_ok {K : PySem.W.Frag} {Z : Zs} {D : Addr} {i : Nat} (h : howAtB K Z D i = true) : HowAt K Z D i := by
  unfold howAtB at h
  simp only [Bool.and_eq_true, decide_eq_true_eq] at h
  exact ⟨kindB_ok h.1, h.2.1, h.2.2⟩
/-- by the second clause -/
def howPlB (K : PySem.W.Frag) (Z : Zs) (D : Addr) (i : Nat) : Bool := kindB K Z D i && (decide (PySem.W.exmAny K (.ref D) Z.five = some false) && decide (PySem.W.exmAny K (.ref D) [.ref Z.Wrong] = some true))
structure HowPl (K : PySem.W.Frag) (Z : Zs) (D : Addr) (i : Nat) : Prop where
  k : KindOk K Z D i
  c1 : PySem.W.exmAny K (.ref D) Z.five = some false
  c2 : PySem.W.exmAny K (.ref D) [.ref Z.Wrong] = some true
theorem howPlB_ok {K : PySem.W.Frag} {Z : Zs} {D : Addr} {i : Nat} (h : howPlB K Z D i = true) : HowPl K Z D i := by
  unfold howPlB at h
  simp only [Bool.and_eq_true, decide_eq_true_eq] at h
  exact ⟨kindB_ok h.1, h.2.1, h.2.2⟩
/-- by the third clause: no place (b), no slot (not b) -/
def howIxB (K : PySem.W.Frag) (Z : Zs) (D : Addr) (b : Bool) : Bool := excB K D && (decide (PySem.W.exmAny K (.ref D) Z.five = some false) && (decide (PySem.W.exmAny K (.ref D) [.ref Z.Wrong] = some false) && (decide (PySem.W.exmAny K (.ref D) [.ref Z.NoPlace, .ref Z.NoSlot] = some true) &&
  (decide (PySem.W.kitOne K (.ref D) (.type "IndexError") = some true) && (decide (PySem.W.kitOne K (.ref D) (.ref Z.NoPlace) = some b) && decide (PySem.W.kitOne K (.ref D) (.ref Z.NoSlot) = some (!b)))))))
structure HowIx (K : PySem.W.Frag) (Z : Zs) (D : Addr) (b : Bool) : Prop where
  ex : ExcC K D
  c1 : PySem.W.exmAny K (.ref D) Z.five = some false
  c2 : PySem.W.exmAny K (.ref D) [.ref Z.Wrong] = some false
  c3 : PySem.W.exmAny K (.ref D) [.ref Z.NoPlace, .ref Z.NoSlot] = some true
  ie : PySem.W.kitOne K (.ref D) (.type "IndexError") = some true
  np : PySem.W.kitOne K (.ref D) (.ref Z.NoPlace) = some b
  ns : PySem.W.kitOne K (.ref D) (.ref Z.NoSlot) = some (!b)
theorem howIxB_ok {K : PySem.W.Frag} {Z : Zs} {D : Addr} {b : Bool} (h : howIxB K Z D b = true) : HowIx K Z D b := by
  unfold howIxB at h
  simp only [Bool.and_eq_true, decide_eq_true_eq] at h
  obtain ⟨h1, h2, h3, h4, h5, h6, h7⟩ := h
  exact ⟨excB_ok h1, h2, h3, h4, h5, h6, h7⟩
/-! ### what the teller of the kind promises -/
def spKind (K : PySem.W.Frag) (Z : Zs) : SpP := fun p vs H Q => ∃ (D : Addr) (d : Option Addr) (i : Nat) (nm : Str), vs = [.ref p.1] ∧ Zc (.ref D) d p.2 ∧ (∃ vs, p.2.data = .fields vs) ∧ KindOk K Z D i ∧ XdOk d H ∧ kindNames[i]? = some nm ∧ ∀ H', Same H H' → Q (.str nm) H'
/-- what the asker makes of a raised one -/
def howE (K : PySem.W.Frag) (Z : Zs) (Q : VK) : XK := fun cls d H => ∃ D : Addr, cls = .ref D ∧
  ((∃ (i : Nat) (nm : Str), HowPl K Z D i ∧ kindNames[i]? = some nm ∧ XdOk d H ∧ ∀ H', Same H H' → Q (.str nm) H') ∨
   (∃ (i : Nat) (nm : Str) (dd : Addr) (v : V) (tv : String), HowAt K Z D i ∧ kindNames[i]? = some nm ∧ d = some dd ∧ H dd = some (.xd [("at", v)]) ∧ TyX K H v (.type tv) ∧ kitB tv "bool" = some false ∧ ∀ p H', H p = none → Same H H' → H' p = some (.tup [.str nm, v]) → Q (.ref p) H') ∨
   (∃ b : Bool, HowIx K Z D b ∧ XdOk d H ∧ ∀ H', Same H H' → Q (.str (if b then "no place" else "no slot")) H'))
def TTHow (K : PySem.W.Frag) (Z : Zs) : (XK → Hp → VK → Prop) → Hp → VK → Prop := fun tl H Q => tl (howE K Z Q) H (fun _ H' => Q (.str "told") H')
theorem cnt16 {i : Nat} (h : i < 16) : ((([decide (0 = i), decide (1 = i), decide (2 = i), decide (3 = i), decide (4 = i), decide (5 = i), decide (6 = i), decide (7 = i), decide (8 = i), decide (9 = i), decide (10 = i), decide (11 = i), decide (12 = i), decide (13 = i), decide (14 = i), decide (15 = i)] : List Bool).count true : Nat) : Int) = 1 := by
  have : ∀ i, i < 16 → ((([decide (0 = i), decide (1 = i), decide (2 = i), decide (3 = i), decide (4 = i), decide (5 = i), decide (6 = i), decide (7 = i), decide (8 = i), decide (9 = i), decide (10 = i), decide (11 = i), decide (12 = i), decide (13 = i), decide (14 = i), decide (15 = i)] : List Bool).count true : Nat) : Int) = 1 := by decide
  exact this i h
theorem idx16 {i : Nat} (h : i < 16) : ([decide (0 = i), decide (1 = i), decide (2 = i), decide (3 = i), decide (4 = i), decide (5 = i), decide (6 = i), decide (7 = i), decide (8 = i), decide (9 = i), decide (10 = i), decide (11 = i), decide (12 = i), decide (13 = i), decide (14 = i), decide (15 = i)] : List Bool)[i]? = some true := by
  have : ∀ i, i < 16 → ([decide (0 = i), decide (1 = i), decide (2 = i), decide (3 = i), decide (4 = i), decide (5 = i), decide (6 = i), decide (7 = i), decide (8 = i), decide (9 = i), decide (10 = i), decide (11 = i), decide (12 = i), decide (13 = i), decide (14 = i), decide (15 = i)] : List Bool)[i]? = some true := by decide
  exact this i h
theorem bef16 {i : Nat} (h : i < 16) (m : Nat) (hm : m < i) : ([decide (0 = i), decide (1 = i), decide (2 = i), decide (3 = i), decide (4 = i), decide (5 = i), decide (6 = i), decide (7 = i), decide (8 = i), decide (9 = i), decide (10 = i), decide (11 = i), decide (12 = i), decide (13 = i), decide (14 = i), decide (15 = i)] : List Bool)[m]? ≠ some true := by
  have : ∀ i, i < 16 → ∀ m, m < i → ([decide (0 = i), decide (1 = i), decide (2 = i), decide (3 = i), decide (4 = i), decide (5 = i), decide (6 = i), decide (7 = i), decide (8 = i), decide (9 = i), decide (10 = i), decide (11 = i), decide (12 = i), decide (13 = i), decide (14 = i), decide (15 = i)] : List Bool)[m]? ≠ some true := by decide
  exact this i h m hm
theorem nam16 {i : Nat} {nm : Str} (h : kindNames[i]? = some nm) : atI (kindNames.map V.str) (i : Int) = some (.str nm) := atI_nat (by rw [List.getElem?_map, h]; rfl)
theorem takes_len {X : Cx} {W : WX} (tk : Takes X W) : Takes X (fun cls d σ H => σ.length = X.N.length → W cls d σ H) := fun u s' x => by
  obtain ⟨a, B, sI, pins, σ, H, cls, d, e, I, nb, up, sky, na, os, ag, w⟩ := x
  exact tk u s' ⟨a, B, sI, pins, σ, H, cls, d, e, I, nb, up, sky, na, os, ag, w I.len⟩
theorem two_of {σ : L2.St} (h : σ.length = 2) : ∃ x y, σ = [x, y] := by
  match σ, h with
  | [x, y], _ => exact ⟨x, y, rfl⟩
/-- a suite, by any reading of it -/
def tAny (X : Cx) (b : List Stmt) (a : Addr) (cls : Value) (d : Option Addr) : TS := fun D σ H => ∀ (oe : Obj) (pn : List (Addr × Obj)), Zc cls d oe → (∃ vs, oe.data = .fields vs) → ∃ t : TS, PSs (X.suite a ((a, oe) :: pn)) b t ∧ t D σ H
theorem pss_any {X : Cx} {b : List Stmt} (a : Addr) (oe : Obj) (cls : Value) (d : Option Addr) (pn : List (Addr × Obj)) (hz : Zc cls d oe) (hf : ∃ vs, oe.data = .fields vs) : PSs (X.suite a ((a, oe) :: pn)) b (tAny X b a cls d) :=
  ⟨fun pins s σ H D I h => by
    obtain ⟨t, ht, hq⟩ := h oe pn hz hf
    exact ht.run pins s σ H D I hq⟩
theorem same_free {H H' : Hp} {p : Addr} (e : Same H H') (n : H' p = none) : H p = none := by
  cases h : H p with
  | none => rfl
  | some o => rw [e p o h] at n; cases n
theorem iteT' {A B : Prop} {b : Bool} (hb : b = true) (h : A) : if b = true then A else B := by rw [if_pos hb]; exact h
theorem iteF' {A B : Prop} {b : Bool} (hb : b = false) (h : B) : if b = true then A else B := by rw [if_neg (by rw [hb]; exact Bool.false_ne_true)]; exact h
/-! ### steps -/
section
variable {K : PySem.W.Frag} {H H' : Hp} {Q : VK} {σ : L2.St} {a : Addr} {cls : Value} {d : Option Addr}
theorem XdOk.same (h : XdOk d H) (e : Same H H') : XdOk d H' := fun dd q => by
  obtain ⟨fs, w⟩ := h dd q
  exact ⟨fs, e dd _ w⟩
theorem xdOk_at {dd : Addr} {fs : List (Str × V)} (h : H dd = some (.xd fs)) : XdOk (some dd) H := fun d' q => by
  cases q
  exact ⟨fs, h⟩
theorem xdOk_none : XdOk none H := fun d' q => by cases q
theorem w_isP {D C : Addr} {b : Bool} (hE : ExcC K D) (hk : PySem.W.kitOne K (.ref D) (.ref C) = some b) (hx : XdOk d H) (q : Q (.bl b) H) : rIsP K a (.ref D) d [.ref a, .ref C] H Q := ⟨D, .ref C, .ref C, b, rfl, hE, rfl, .own C, hk, hx, q⟩
theorem w_isPt {D : Addr} {n : String} {b : Bool} (hE : ExcC K D) (hk : PySem.W.kitOne K (.ref D) (.type n) = some b) (hx : XdOk d H) (q : Q (.bl b) H) : rIsP K a (.ref D) d [.ref a, .ty n] H Q := ⟨D, .ty n, .type n, b, rfl, hE, rfl, .ty n, hk, hx, q⟩
theorem w_isPT {D tp C1 C2 : Addr} {b : Bool} (hE : ExcC K D) (hT : H tp = some (.tup [.ref C1, .ref C2])) (hk : PySem.W.kitAny K (.ref D) [.ref C1, .ref C2] = some b) (hx : XdOk d H) (q : Q (.bl b) H) : rIsPT K a (.ref D) d [.ref a, .ref tp] H Q :=
  ⟨D, tp, _, _, b, rfl, hE, rfl, hT, .cons (.own C1) (.cons (.own C2) .nil), hk, hx, q⟩
theorem w_bmL {T : String} {r : V → List V → Hp → VK → Prop} {to : TE} {t : TA} (h : to σ H fun x H1 => tyV K T x H1 ∧ t σ H1 fun xs H2 => r x xs H2 Q) : tBM K T r to t σ H Q := h
theorem w_bm0 {T : String} {r : V → List V → Hp → VK → Prop} {to : TE} (h : to σ H fun x H1 => tyV K T x H1 ∧ r x [] H1 Q) : tBM0 K T r to σ H Q := h
theorem w_tyL {R : Prop} {xs : List V} (h : SqL K H a xs) (q : R) : tyV K "list" (.ref a) H ∧ R := ⟨.inl ⟨rfl, xs, h⟩, q⟩
theorem dpAll_bl : ∀ bs : List Bool, DpAll K H (bs.map V.bl) (bs.map PyData.bool)
  | [] => .nil
  | b :: r => .cons (.bl b) (dpAll_bl r)
theorem depth_bl : ∀ bs : List Bool, PyData.depthAll (bs.map PyData.bool) = 0
  | [] => rfl
  | b :: r => by simp [PyData.depthAll, PyData.depth, depth_bl r]
theorem lay_bl : ∀ bs : List Bool, PyData.canLayAll0 (bs.map PyData.bool) = true
  | [] => by simp [PyData.canLayAll0]
  | b :: r => by simp [PyData.canLayAll0, PyData.canLay0, lay_bl r]
theorem shaped_bl (bs : List Bool) : SeqAt.shaped (.list (bs.map PyData.bool)) = true := by
  simp [SeqAt.shaped, PyData.canLay0, lay_bl, PyData.depth, depth_bl]
theorem count_bl : ∀ bs : List Bool, (bs.map PyData.bool).countP (fun z => PyData.eqv z (.bool true)) = bs.count true
  | [] => rfl
  | b :: r => by
    rw [List.map_cons, List.countP_cons, List.count_cons, count_bl r]
    cases b <;> simp [PyData.eqv]
theorem w_countT {xs : List V} {n : Int} (bs : List Bool) (e : xs = bs.map V.bl) (h : SqL K H a xs) (hn : ((bs.count true : Nat) : Int) = n) (q : Q (.int n) H) : rCountD K (.ref a) [.bl true] H Q := by
  subst e
  refine ⟨a, .bl true, .bool true, bs.map PyData.bool, rfl, rfl, .lst h (dpAll_bl bs), .bl true, shaped_bl bs, by simp [SeqAt.shaped, PyData.canLay0, PyData.depth], ?_⟩
  rw [count_bl, hn]
  exact q
theorem w_indexT {xs : List V} {j : Nat} (bs : List Bool) (e : xs = bs.map V.bl) (h : SqL K H a xs) (hj : bs[j]? = some true) (hm : ∀ m, m < j → bs[m]? ≠ some true) (q : Q (.int j) H) : rIndexD K (.ref a) [.bl true] H Q := by
  subst e
  refine ⟨a, .bl true, .bool true, bs.map PyData.bool, j, .bool true, rfl, rfl, .lst h (dpAll_bl bs), .bl true, shaped_bl bs, by simp [SeqAt.shaped, PyData.canLay0, PyData.depth], by simp [hj], by simp [PyData.eqv], fun m z hlt hz => ?_, q⟩
  rw [List.getElem?_map] at hz
  cases eb : bs[m]? with
  | none => rw [eb] at hz; cases hz
  | some b =>
    rw [eb] at hz
    cases hz
    have := hm m hlt
    rw [eb] at this
    cases b <;> simp_all [PyData.eqv]
theorem w_cat {p1 p2 : Addr} {xs zs : List V} (h1 : H p1 = some (.lst xs)) (h2 : H p2 = some (.lst zs)) (hl : xs.length + zs.length ≤ sizeLine) (k : ∀ p H2, H p = none → Same H H2 → H2 p = some (.lst (xs ++ zs)) → Q (.ref p) H2) : rCat (.ref p1) (.ref p2) H Q :=
  ⟨p1, p2, xs, zs, rfl, rfl, h1, h2, hl, fun p n => k p _ n (same_new n) upd_same⟩
theorem w_callP {sp : SpP} {t : TA} (h : t σ H fun vs H1 => ∀ oe : Obj, Zc cls d oe → (∃ vs, oe.data = .fields vs) → sp (a, oe) vs H1 Q) : tCallP sp a cls d t σ H Q := h
theorem w_xfE {f : Str} {te : TE} (h : te σ H fun x H1 => ∃ (D dd : Addr) (fs : List (Str × V)) (v : V), x = .ref a ∧ cls = .ref D ∧ ExcC K D ∧ PySem.W.findIn K (.ref D) f = some none ∧ d = some dd ∧ H1 dd = some (.xd fs) ∧ fs.lookup f = some v ∧ Q v H1) : tXfc K a cls d f te σ H Q := h
theorem w_xf {D dd : Addr} {f : Str} {fs : List (Str × V)} {v : V} {R : V → Prop} (hE : ExcC K D) (no : PySem.W.findIn K (.ref D) f = some none) (hd : H dd = some (.xd fs)) (hl : fs.lookup f = some v) (q : R v) :
    ∃ (D' dd' : Addr) (fs : List (Str × V)) (v : V), V.ref a = .ref a ∧ Value.ref D = .ref D' ∧ ExcC K D' ∧ PySem.W.findIn K (.ref D') f = some none ∧ some dd = some dd' ∧ H dd' = some (.xd fs) ∧ fs.lookup f = some v ∧ R v := ⟨D, dd, fs, v, rfl, rfl, hE, no, rfl, hd, hl, q⟩
end
end Bw

namespace Bw
open PySem PySem.Spec PyProof.Rows L2
/-! ### loops and comprehensions over a known number of things -/
structure Fini (J : It) (n : Nat) (ok : Hp → Prop) (it : Nat → V → Hp → Hp → Prop) : Prop where
  go : ∀ i H, i < n → ok H → J.go i H
  yl : ∀ i H x H', i < n → ok H → J.yld i H x H' → it i x H H'
  st : ∀ H, ok H → J.stop n H
section
variable {K : PySem.W.Frag}
theorem fin_rng {lo : Int} {n : Nat} : Fini (Itr lo n) n (fun _ => True) (fun i x H H' => H' = H ∧ x = .int (lo + i)) := ⟨fun _ _ h _ => h, fun _ _ _ _ _ _ h => h, fun _ _ => Nat.le_refl _⟩
theorem fin_list {a : Addr} {xs : List V} : Fini (Itl K a) xs.length (fun H => SqL K H a xs) (fun i x H H' => H' = H ∧ xs[i]? = some x) :=
  ⟨fun i H h o => ⟨xs, xs[i], o, by simp [h]⟩, fun i H x H' h o y => ⟨y.1, y.2 xs o⟩, fun H o => ⟨xs, o, Nat.le_refl _⟩⟩
theorem fin_tup {a : Addr} {xs : List V} : Fini (Itt K a) xs.length (fun H => SqT K H a xs) (fun i x H H' => H' = H ∧ xs[i]? = some x) :=
  ⟨fun i H h o => ⟨xs, xs[i], o, by simp [h]⟩, fun i H x H' h o y => ⟨y.1, y.2 xs o⟩, fun H o => ⟨xs, o, Nat.le_refl _⟩⟩
theorem fin_str {x : Str} : Fini (Its x) x.cps.size (fun _ => True) (fun i v H H' => H' = H ∧ ∃ c, x.cps[i]? = some c ∧ v = .str ⟨#[c]⟩) := ⟨fun _ _ h _ => h, fun _ _ _ _ _ _ h => h, fun _ _ => Nat.le_refl _⟩
theorem fin_enum {a : Addr} {xs : List V} : Fini (Ite K a) xs.length (fun H => SqL K H a xs) (fun i v H H' => ∃ T x, v = .ref T ∧ H T = none ∧ Same H H' ∧ H' T = some (.tup [.int (i : Nat), x]) ∧ xs[i]? = some x) :=
  ⟨fun i H h o => ⟨xs, xs[i], o, by simp [h]⟩, fun i H v H' h o y => by
    obtain ⟨T, x, e, n, e', q⟩ := y
    subst e'
    exact ⟨T, x, e, n, same_new n, upd_same, q xs o⟩, fun H o => ⟨xs, o, Nat.le_refl _⟩⟩
/-- a for loop -/
theorem for_fin {J : It} {n : Nat} {ok : Hp → Prop} {it : Nat → V → Hp → Hp → Prop} {g : TG} {tb : TS} {D : Ends} {σ : L2.St} {H : Hp} (F : Fini J n ok it) (Pv : Nat → L2.St → Hp → Prop) (h0 : Pv 0 σ H) (hl : ∀ i σ H, i ≤ n → Pv i σ H → ok H)
    (hs : ∀ i x σ H H1, i < n → Pv i σ H → it i x H H1 → g x σ H1 fun σ2 H2 => tb { D with nx := Pv (i + 1), ct := Pv (i + 1), bk := D.nx } σ2 H2) (hd : ∀ σ H, Pv n σ H → D.nx σ H) :
    ∃ W : Nat → Nat → L2.St → Hp → Prop, (∃ m, W 0 m σ H) ∧ ∀ i m σ H, W i m σ H →
      (J.stop i H ∧ D.nx σ H) ∨ (J.go i H ∧ ∃ N : L2.St → Hp → Prop, (∀ σ' H', N σ' H' → ∃ m', m' < m ∧ W (i + 1) m' σ' H') ∧ ∀ x H', J.yld i H x H' → g x σ H' fun σ2 H2 => tb { D with nx := N, ct := N, bk := D.nx } σ2 H2) := by
  refine ⟨fun i m σ H => m = n - i ∧ i ≤ n ∧ Pv i σ H, ⟨n, by simp, Nat.zero_le _, h0⟩, ?_⟩
  rintro i m σ H ⟨rfl, hi, p⟩
  have o := hl i σ H hi p
  rcases Nat.lt_or_ge i n with hlt | hge
  · exact .inr ⟨F.go i H hlt o, Pv (i + 1), fun σ' H' p' => ⟨n - (i + 1), by omega, rfl, hlt, p'⟩, fun x H' y => hs i x σ H H' hlt p (F.yl i H x H' hlt o y)⟩
  · obtain rfl : i = n := Nat.le_antisymm hi hge
    exact .inl ⟨F.st H o, hd σ H p⟩
/-- the next turn of a comprehension -/
def NxI (D : Addr) (i : Nat) (Iv : Nat → List V → Hp → Prop) : Hp → Prop := fun H' => ∃ acc', acc'.length ≤ i + 1 ∧ H' D = some (.lst acc') ∧ Iv (i + 1) acc' H'
theorem take_succ {α : Type} {xs : Array α} {i : Nat} {c : α} (h : xs[i]? = some c) : xs.toList.take (i + 1) = xs.toList.take i ++ [c] := by
  rw [List.take_add_one]
  congr 1
  rw [Array.getElem?_toList, h]
  rfl
theorem take_succL {α : Type} {xs : List α} {i : Nat} {c : α} (h : xs[i]? = some c) : xs.take (i + 1) = xs.take i ++ [c] := by
  rw [List.take_add_one, h]
  rfl
theorem take_size {α : Type} {xs : Array α} : xs.toList.take xs.size = xs.toList := by
  rw [← Array.length_toList, List.take_length]
theorem w_acc {D : Addr} {i n : Nat} {Iv : Nat → List V → Hp → Prop} {acc : List V} {y : V} {H4 : Hp} (hD : H4 D = some (.lst acc)) (ha : acc.length ≤ i) (hi : i < n) (hn : n ≤ sizeLine) (k : ∀ H5, KB D H4 H5 → H5 D = some (.lst (acc ++ [y])) → Iv (i + 1) (acc ++ [y]) H5) :
    ∃ acc, H4 D = some (.lst acc) ∧ acc.length < sizeLine ∧ NxI D i Iv (upd H4 D (.lst (acc ++ [y]))) :=
  ⟨acc, hD, by omega, acc ++ [y], by rw [List.length_append]; simp; omega, upd_same, k _ kb_upd upd_same⟩
theorem w_skip {D : Addr} {i : Nat} {Iv : Nat → List V → Hp → Prop} {acc : List V} {H3 : Hp} (hD : H3 D = some (.lst acc)) (ha : acc.length ≤ i) (k : Iv (i + 1) acc H3) : NxI D i Iv H3 := ⟨acc, by omega, hD, k⟩
/-- a comprehension: Iv by the turn, what is gathered and the heap -/
theorem lc_fin {J : It} {n : Nat} {ok : Hp → Prop} {it : Nat → V → Hp → Hp → Prop} {g : TG} {tt : TT} {te : TE} {vs : List Nat} {σ : L2.St} {H1 : Hp} {Qd : Addr → Hp → Prop} (F : Fini J n ok it) (Iv : Nat → List V → Hp → Prop)
    (h0 : ∀ D H2, H1 D = none → Same H1 H2 → H2 D = some (.lst []) → Iv 0 [] H2) (hl : ∀ i acc H, i ≤ n → Iv i acc H → ok H)
    (hs : ∀ D i x acc H H', H1 D = none → i < n → acc.length ≤ i → Iv i acc H → H D = some (.lst acc) → it i x H H' → g x (wipe σ vs) H' fun σ2 H2 => wipe σ2 vs = wipe σ vs ∧ tt σ2 H2 fun b H3 =>
      if b = true then te σ2 H3 fun y H4 => ∃ acc, H4 D = some (.lst acc) ∧ acc.length < sizeLine ∧ NxI D i Iv (upd H4 D (.lst (acc ++ [y]))) else NxI D i Iv H3)
    (hd : ∀ D acc H, H1 D = none → Iv n acc H → acc.length ≤ n → H D = some (.lst acc) → Qd D H) :
    ∀ D, H1 D = none → ∃ W : Nat → Nat → Hp → Prop, (∃ m, W 0 m (upd H1 D (.lst []))) ∧ ∀ i m H, W i m H →
      (J.stop i H ∧ Qd D H) ∨ (J.go i H ∧ ∃ Nx : Hp → Prop, (∀ H', Nx H' → ∃ m', m' < m ∧ W (i + 1) m' H') ∧ ∀ x H', J.yld i H x H' → g x (wipe σ vs) H' fun σ2 H2 => wipe σ2 vs = wipe σ vs ∧ tt σ2 H2 fun b H3 =>
        if b = true then te σ2 H3 fun y H4 => ∃ acc, H4 D = some (.lst acc) ∧ acc.length < sizeLine ∧ Nx (upd H4 D (.lst (acc ++ [y]))) else Nx H3) := by
  intro D nD
  refine ⟨fun i m H => m = n - i ∧ i ≤ n ∧ ∃ acc, acc.length ≤ i ∧ H D = some (.lst acc) ∧ Iv i acc H, ⟨n, by simp, Nat.zero_le _, [], Nat.le_refl _, upd_same, h0 D _ nD (same_new nD) upd_same⟩, ?_⟩
  rintro i m H ⟨rfl, hi, acc, hacc, hD, p⟩
  have o := hl i acc H hi p
  rcases Nat.lt_or_ge i n with hlt | hge
  · exact .inr ⟨F.go i H hlt o, NxI D i Iv, fun H' p' => ⟨n - (i + 1), by omega, rfl, hlt, p'⟩, fun x H' y => hs D i x acc H H' nD hlt hacc p hD (F.yl i H x H' hlt o y)⟩
  · obtain rfl : i = n := Nat.le_antisymm hi hge
    exact .inl ⟨F.st H o, hd D acc H nD p hacc hD⟩
theorem w_lcE {wi : TI} {g : TG} {tt : TT} {te : TE} {vs : List Nat} {σ : L2.St} {H : Hp} {Q : VK} (h : wi σ H fun J H1 => ∀ D, H1 D = none → ∃ W : Nat → Nat → Hp → Prop, (∃ m, W 0 m (upd H1 D (.lst []))) ∧ ∀ i m H, W i m H →
  (J.stop i H ∧ Q (.ref D) H) ∨ (J.go i H ∧ ∃ Nx : Hp → Prop, (∀ H', Nx H' → ∃ m', m' < m ∧ W (i + 1) m' H') ∧ ∀ x H', J.yld i H x H' → g x (wipe σ vs) H' fun σ2 H2 => wipe σ2 vs = wipe σ vs ∧ tt σ2 H2 fun b H3 =>
    if b = true then te σ2 H3 fun y H4 => ∃ acc, H4 D = some (.lst acc) ∧ acc.length < sizeLine ∧ Nx (upd H4 D (.lst (acc ++ [y]))) else Nx H3)) : tLc wi g tt te vs σ H Q := h
theorem w_iStr {te : TE} {σ : L2.St} {H : Hp} {R : It → Hp → Prop} (h : te σ H fun v H1 => ∃ x, v = .str x ∧ R (Its x) H1) : iStr te σ H R := h
theorem w_strE {x : Str} {R : Str → Prop} (q : R x) : ∃ y, V.str x = .str y ∧ R y := ⟨x, rfl, q⟩
theorem w_iEnum {ta : TA} {σ : L2.St} {H : Hp} {R : It → Hp → Prop} (h : ta σ H fun vs H1 => ∃ a xs, vs = [.ref a] ∧ SqL K H1 a xs ∧ R (Ite K a) H1) : iEnum K ta σ H R := h
theorem w_enum {a : Addr} {xs : List V} {H : Hp} {R : Addr → Prop} (h : SqL K H a xs) (q : R a) : ∃ (a' : Addr) (xs : List V), [V.ref a] = [.ref a'] ∧ SqL K H a' xs ∧ R a' := ⟨a, xs, rfl, h, q⟩
theorem w_yes {σ : L2.St} {H : Hp} {QB : Bool → Hp → Prop} (q : QB true H) : tYes σ H QB := q
theorem w_inS {c : Nat} {z : Str} {H : Hp} {Q : VK} (q : Q (.bl (decide (c ∈ z.cps.toList))) H) : rInS (.str ⟨#[c]⟩) (.str z) H Q := ⟨c, z, rfl, rfl, q⟩
theorem w_all {bs : List Bool} {a : Addr} {xs : List V} {H : Hp} {Q : VK} (e : xs = bs.map V.bl) (h : SqL K H a xs) (q : Q (.bl (bs.all id)) H) : rAll K [.ref a] H Q := ⟨a, bs, rfl, e ▸ h, q⟩
theorem w_m1 {r : V → List V → Hp → VK → Prop} {to te : TE} {σ : L2.St} {H : Hp} {Q : VK} (h : to σ H fun x H1 => (∃ a, x = .str a) ∧ te σ H1 fun y H2 => r x [y] H2 Q) : tM1 r to te σ H Q := h
theorem w_m0 {r : V → List V → Hp → VK → Prop} {to : TE} {σ : L2.St} {H : Hp} {Q : VK} (h : to σ H fun x H1 => (∃ a, x = .str a) ∧ r x [] H1 Q) : tM0 r to σ H Q := h
theorem w_append {l : Addr} {xs : List V} {y : V} {H : Hp} {Q : VK} (h : H l = some (.lst xs)) (hl : xs.length < sizeLine) (k : ∀ H2, KB l H H2 → H2 l = some (.lst (xs ++ [y])) → Q .non H2) : rAppend (.ref l) [y] H Q := ⟨l, xs, y, rfl, rfl, h, hl, k _ kb_upd upd_same⟩
theorem txt_join (y : Str) (ps : List Str) : Txt.join y ps = Str.join y ps := beq_iff_eq.mp (PyProof.Rows.join_plain_closes y ps)
theorem w_sl {r : V → Option Int → Option Int → Hp → VK → Prop} {te : TE} {tl th : TO} {σ : L2.St} {H : Hp} {Q : VK} (h : te σ H fun x H1 => tl σ H1 fun l H2 => th σ H2 fun u H3 => r x l u H3 Q) : L2.tSl r te tl th σ H Q := h
theorem w_noPart {σ : L2.St} {H : Hp} {Q : Option Int → Hp → Prop} (q : Q none H) : tNoPart σ H Q := q
theorem w_part {te : TE} {σ : L2.St} {H : Hp} {Q : Option Int → Hp → Prop} (h : te σ H fun v H1 => ∃ i, v = .int i ∧ Q (some i) H1) : tPart te σ H Q := h
theorem w_intE {i : Int} {R : Int → Prop} (q : R i) : ∃ j, V.int i = .int j ∧ R j := ⟨i, rfl, q⟩
theorem w_slS {z : Str} {lo hi : Option Int} {H : Hp} {Q : VK} (hl : z.length ≤ sizeLine) (q : Q (.str (cutS z lo hi)) H) : rSlS (.str z) lo hi H Q := ⟨z, rfl, hl, q⟩
theorem w_slL {a : Addr} {xs : List V} {lo hi : Option Int} {H : Hp} {Q : VK} (h : SqL K H a xs) (k : ∀ p H2, H p = none → Same H H2 → H2 p = some (.lst (cutV xs lo hi)) → Q (.ref p) H2) : rSlL K (.ref a) lo hi H Q := ⟨a, xs, rfl, h, fun p n => k p _ n (same_new n) upd_same⟩
theorem w_addS {x y : Str} {H : Hp} {Q : VK} (hl : x.length + y.length ≤ sizeLine) (q : Q (.str (x ++ y)) H) : rAddS (.str x) (.str y) H Q := ⟨x, y, rfl, rfl, hl, q⟩
theorem w_isS {x : Str} {R : Prop} (q : R) : (∃ a, V.str x = .str a) ∧ R := ⟨⟨x, rfl⟩, q⟩
theorem w_split {x y : Str} {H : Hp} {Q : VK} (hy : (y.length == 0) = false) (hl : x.length + 2 ≤ sizeLine) (k : ∀ p H2, H p = none → Same H H2 → H2 p = some (.lst ((Txt.split x y).map V.str)) → Q (.ref p) H2) :
    ∃ a b, V.str x = .str a ∧ [V.str y] = [.str b] ∧ (b.length == 0) = false ∧ a.length + 2 ≤ sizeLine ∧ rNewStrs (Txt.split a b) H Q := ⟨x, y, rfl, rfl, hy, hl, fun p n => k p _ n (same_new n) upd_same⟩
theorem w_join {x : Str} {p : Addr} {ys : List Str} {zs : List V} {H : Hp} {Q : VK} (e : zs = ys.map V.str) (h : SqL K H p zs) (hl : (ys.map (·.length)).sum + ys.length * x.length ≤ 16777216) (q : Q (.str (Txt.join x ys)) H) :
    ∃ a p', ∃ ys : List Str, V.str x = .str a ∧ [V.ref p] = [.ref p'] ∧ (SqL K H p' (ys.map V.str) ∨ SqT K H p' (ys.map V.str)) ∧ (ys.map (·.length)).sum + ys.length * a.length ≤ 16777216 ∧ Q (.str (Txt.join a ys)) H := ⟨x, p, ys, rfl, rfl, .inl (e ▸ h), hl, q⟩
/-! ### pieces of a text -/
theorem le_sum {x : Nat} : ∀ {l : List Nat}, x ∈ l → x ≤ l.sum
  | y :: r, h => by
    rcases List.mem_cons.mp h with rfl | h
    · simp
    · have := le_sum h
      simp
      omega
end
end Bw

namespace Bw
open PySem PySem.Spec PyProof.Rows L2 LamX
/-- a def whose code object is known -/
structure FunC (K : PySem.W.Frag) (x qual : Str) (st : Stmt) (f : Addr) (fd : FuncData) (c : Addr) : Prop where
  ex : ∃ (oc : Value) (od : Option Addr) (kV doc pm : Value) (an : Option Addr) (ct : Value) (osl : Array (Option Value)),
    fd = PySem.W.fnOf x qual (defArgs st) (defBody st) (defScope st) .none kV doc pm an (.ref c) ct ∧ K.lookup f = some ⟨oc, od, .func fd, osl⟩ ∧ PySem.W.codeIn K (.ref c) qual = true
  kp : PySem.W.keepIn K (.ref f) = true
section
variable {P : Program} {w : World} {K : PySem.W.Frag} {mg : Str → Option Value} {base : Heap}
theorem FunC.ok {x qual : Str} {st : Stmt} {f c : Addr} {fd : FuncData} {N ps : List Str} {k : Nat} {sp : Sp} (F : FunC K x qual st f fd c) (S : FnScope N ps (defScope st)) (len : ∀ vs H Q E, sp vs H Q E → vs.length = ps.length)
    (hbody : ∀ (A : Around) (outer : List Env) (s : Shared) (H : Hp) (vs : List V) (Q : VK) (E : XK), Room k (A.deeper (envOfC qual (defScope st) s.heap.objs.size f (.ref c))) → sp vs H Q E →
      ∃ t, PSs (cxOf CX0 P w K mg base N qual (defScope st) f (.ref c) A outer s H E).nox (defBody st) t ∧ t { nx := fun _ H' => Q .non H', rt := Q } (L2.start N vs) H) : FnOk P w K mg base CX0 (k + 1) f fd ps sp := by
  obtain ⟨oc, od, kV, doc, pm, an, ct, osl, rfl, lk, hcd⟩ := F.ex
  refine fn_of lk hcd S len fun A outer s H vs Q E hr hsp => ?_
  obtain ⟨t, h, q⟩ := hbody A outer s H vs Q E hr hsp
  exact ⟨t, h.nox, q⟩
theorem FunC.fun_ {x qual : Str} {st : Stmt} {f c : Addr} {fd : FuncData} (F : FunC K x qual st f fd c) : Fun K x qual st f fd := by
  obtain ⟨oc, od, kV, doc, pm, an, ct, osl, e, lk, hcd⟩ := F.ex
  exact ⟨⟨oc, od, kV, doc, pm, an, .ref c, ct, osl, e, lk, hcd⟩, F.kp⟩
theorem funC_mk {x qual : Str} {st : Stmt} {f c : Addr} {oc : Value} {od an : Option Addr} {osl : Array (Option Value)} {kV doc pm ct : Value} (l : K.lookup f = some ⟨oc, od, .func (PySem.W.fnOf x qual (defArgs st) (defBody st) (defScope st) .none kV doc pm an (.ref c) ct), osl⟩)
    (hc : PySem.W.codeIn K (.ref c) qual = true) (k : PySem.W.keepIn K (.ref f) = true) : FunC K x qual st f (PySem.W.fnOf x qual (defArgs st) (defBody st) (defScope st) .none kV doc pm an (.ref c) ct) c := ⟨⟨oc, od, kV, doc, pm, an, ct, osl, rfl, l, hc⟩, k⟩
/-- the def x is handed a lambda without parameters, and calls it -/
structure Asks (P : Program) (w : World) (K : PySem.W.Frag) (mg : Str → Option Value) (base : Heap) (x a : Str) (N : List Str) (st : Stmt) (k : Nat) (TT : (XK → Hp → VK → Prop) → Hp → VK → Prop) : Prop where
  ex : ∃ (g : Addr) (fd : FuncData), Fun K x x st g fd ∧ mg x = some (.ref g) ∧ Binds K fd [a] []
  sc : FnScope N [a] (defScope st)
  n0 : N[0]? = some a
  va : Vis (defScope st) a
  gives : ∀ X : Cx, X.prog = P → X.w = w → X.K = K → X.mg = mg → X.base = base → Room k X.A → ∀ (g : Addr) (cdg : Value) (q : Str), GivesTo X N x (defScope st) g cdg (defBody st) a q TT
end
abbrev lamN (x : Str) : Str := (x ++ ".<locals>.") ++ "<lambda>"
theorem pe_asks {X : Cx} {x a : Str} {N : List Str} {st : Stmt} {k j : Nat} {TT : (XK → Hp → VK → Prop) → Hp → VK → Prop} {T : List (Addr × Str)} {c P : Addr} {params : Arguments} {body : Expr} {scope : Scope} {t : XK → TE} {p lpos pos : Pos}
    (A : Asks X.prog X.w X.K X.mg X.base x a N st k TT) (hg : Gl X x) (TB : TabB X.base X.mg c P) (hcode : X.env.code = .ref c) {ql : Str} (hql : X.env.qual = ql) (hmT : (P, ql ++ "<lambda>") ∈ T) (hu : ∀ p ∈ T, p.1 = P → p.2 = ql ++ "<lambda>") (hr1 : Room k X.A) (hr : Room (j + 2) X.A) (L : lamSB X.env.scope scope = true) (hdef : defaultsOf params X.env = ([], []))
    (hbind : ∀ (q : Str) (cl : List (Str × Addr)) (pm cv ctv : Value), bindArgs (PySem.W.kla_fn "<lambda>" q params body scope cl pm cv ctv) ⟨[], []⟩ = pure [])
    (hbody : ∀ (A : Around) (outer : List Env) (s : Shared) (H : Hp) (E : XK) (f c' : Addr), Room j (A.deeper (lamEnv X scope s.heap.objs.size f c')) → PE (lamCx X A outer s H E scope f c') body (t E))
    (hdb : (x == ("__debug__" : Str)) = false := by decide) (hd : (a == ("__debug__" : Str)) = false := by decide) (hcd : (a == ("__classdict__" : Str)) = false := by decide) :
    PE X (.Call (.Name x p) [.Lambda params body scope lpos] [] pos) (tLam T TT t) := by
  subst hql
  obtain ⟨g, fd, F, hm, hb⟩ := A.ex
  have kp := F.kp
  obtain ⟨oc, od, kV, doc, pm, an, cdv, ct, osl, rfl, lk, hcd'⟩ := F.ex
  exact pe_lamcall hg hm kp lk hcd' hb A.sc A.n0 A.va (A.gives X rfl rfl rfl rfl rfl hr1 g cdv _) TB hcode hmT hu hr (lamS_by L) hdef hbind hbody hdb hd hcd
/-! ### steps -/
section
variable {H H' H1 : Hp} {σ : L2.St} {Q : VK} {K : PySem.W.Frag}
theorem w_lam {T : List (Addr × Str)} {TT : (XK → Hp → VK → Prop) → Hp → VK → Prop} {t : XK → TE} (hT : Tabs T H) (h : ∀ H1, ExtN H H1 → Tabs T H1 → TT (fun E H' Q' => t E σ H' Q') H1 Q) : tLam T TT t σ H Q := ⟨hT, h⟩
theorem w_how {Z : Zs} {tl : XK → Hp → VK → Prop} (h : tl (howE K Z Q) H (fun _ H' => Q (.str "told") H')) : TTHow K Z tl H Q := h
theorem extn_at {a : Addr} {o : HO} (e : ExtN H H') (h : H a = some o) (n : ∀ ps, o ≠ .tbl ps) : H' a = some o := e a o h n
theorem extn_same (e : Same H H') : ExtN H H' := fun b o h _ => e b o h
theorem extn_seq {a : Addr} {xs : List V} (e : ExtN H H') (h : SqL K H a xs) : SqL K H' a xs := by
  rcases h with (h | ⟨o, h⟩) | h
  · exact .inl (.inl (e _ _ h (fun _ z => by cases z)))
  · exact .inl (.inr ⟨o, e _ _ h (fun _ z => by cases z)⟩)
  · exact .inr h
theorem extn_tup {a : Addr} {xs : List V} (e : ExtN H H') (h : SqT K H a xs) : SqT K H' a xs := by
  rcases h with (h | ⟨o, h⟩) | h
  · exact .inl (.inl (e _ _ h (fun _ z => by cases z)))
  · exact .inl (.inr ⟨o, e _ _ h (fun _ z => by cases z)⟩)
  · exact .inr h
mutual
theorem Dp.extn (e : ExtN H H') : ∀ {v : V} {d : PyData}, Dp K H v d → Dp K H' v d
  | _, _, .non => .non
  | _, _, .bl b => .bl b
  | _, _, .int i => .int i
  | _, _, .str x => .str x
  | _, _, .lst h r => .lst (extn_seq e h) (DpAll.extn e r)
  | _, _, .tup h r => .tup (extn_tup e h) (DpAll.extn e r)
theorem DpAll.extn (e : ExtN H H') : ∀ {vs : List V} {ds : List PyData}, DpAll K H vs ds → DpAll K H' vs ds
  | _, _, .nil => .nil
  | _, _, .cons h r => .cons (Dp.extn e h) (DpAll.extn e r)
end
/-- two heaps, the tables may have grown -/
structure Grown (T : List (Addr × Str)) (H H' : Hp) : Prop where
  e : ExtN H H'
  t : Tabs T H'
theorem Grown.trans {T : List (Addr × Str)} (a : Grown T H H1) (b : Grown T H1 H') : Grown T H H' := ⟨a.e.trans b.e, b.t⟩
theorem Grown.same {T : List (Addr × Str)} (a : Grown T H H1) (b : Same H1 H') : Grown T H H' := ⟨a.e.trans (extn_same b), a.t.ext b⟩
theorem Grown.of {T : List (Addr × Str)} (t : Tabs T H) (b : Same H H') : Grown T H H' := ⟨extn_same b, t.ext b⟩
theorem tabs_kb {T : List (Addr × Str)} {p : Addr} {xs : List V} (t : Tabs T H) (hp : H p = some (.lst xs)) (e : KB p H H') : Tabs T H' := by
  intro x hx
  obtain ⟨ps, h1, h2, h3⟩ := t x hx
  have ne : ∀ {b o}, H b = some o → (o ≠ .lst xs) → b ≠ p := fun {b o} hb no z => no (Option.some.inj (hb.symm.trans (z ▸ hp)))
  refine ⟨ps, e _ _ h1 (ne h1 (fun z => by cases z)), h2, fun pos cv hc => ?_⟩
  obtain ⟨c, e1, e2⟩ := h3 pos cv hc
  exact ⟨c, e1, e _ _ e2 (ne e2 (fun z => by unfold CodeO at z; cases z))⟩
end
/-! ### things that are no texts -/
inductive Odd (H : Hp) : V → Prop
  | non : Odd H .non
  | int (i : Int) : Odd H (.int i)
  | bl (b : Bool) : Odd H (.bl b)
  | lst {a : Addr} {xs : List V} : H a = some (.lst xs) → Odd H (.ref a)
  | tup {a : Addr} {xs : List V} : H a = some (.tup xs) → Odd H (.ref a)
theorem kit_non_str : kitB "NoneType" "str" = some false := by decide +kernel
theorem kit_lst_str : kitB "list" "str" = some false := by decide +kernel
theorem kit_tup_str : kitB "tuple" "str" = some false := by decide +kernel
theorem Odd.ty {K : PySem.W.Frag} {H : Hp} {v : V} (h : Odd H v) : (∀ x, v ≠ .str x) ∧ ∃ tv, TyX K H v (.type tv) ∧ kitB tv "str" = some false := by
  cases h with
  | non => exact ⟨fun x z => (by cases z), _, tyx_non, kit_non_str⟩
  | int i => exact ⟨fun x z => (by cases z), _, tyx_int, kit_int_str⟩
  | bl b => exact ⟨fun x z => (by cases z), _, tyx_bl, kit_bool_str⟩
  | lst e => exact ⟨fun x z => (by cases z), _, tyx_lst e, kit_lst_str⟩
  | tup e => exact ⟨fun x z => (by cases z), _, tyx_tup e, kit_tup_str⟩
theorem Odd.ext {H H' : Hp} {v : V} (h : Odd H v) (e : ExtN H H') : Odd H' v := by
  cases h with
  | non => exact .non
  | int i => exact .int i
  | bl b => exact .bl b
  | lst q => exact .lst (e _ _ q (fun _ z => by cases z))
  | tup q => exact .tup (e _ _ q (fun _ z => by cases z))
/-- a text, or no text -/
def TxtV (H : Hp) (v : V) : Prop := (∃ x : Str, v = .str x ∧ x.length ≤ 100000) ∨ Odd H v
theorem TxtV.ext {H H' : Hp} {v : V} (h : TxtV H v) (e : ExtN H H') : TxtV H' v := h.imp id fun q => q.ext e
theorem TxtV.same {H H' : Hp} {v : V} (h : TxtV H v) (e : Same H H') : TxtV H' v := h.ext (extn_same e)
/-! ### lists of texts -/
section
variable {K : PySem.W.Frag} {H : Hp}
theorem dpAll_str : ∀ bs : List Str, DpAll K H (bs.map V.str) (bs.map PyData.str)
  | [] => .nil
  | b :: r => .cons (.str b) (dpAll_str r)
theorem depth_str : ∀ bs : List Str, PyData.depthAll (bs.map PyData.str) = 0
  | [] => rfl
  | b :: r => by simp [PyData.depthAll, PyData.depth, depth_str r]
theorem lay_str : ∀ {bs : List Str}, (∀ b ∈ bs, PyData.strOk b = true) → PyData.canLayAll0 (bs.map PyData.str) = true
  | [], _ => by simp [PyData.canLayAll0]
  | b :: r, h => by simp [PyData.canLayAll0, PyData.canLay0, h b List.mem_cons_self, lay_str (fun x hx => h x (List.mem_cons_of_mem _ hx))]
theorem shaped_str {bs : List Str} (h : ∀ b ∈ bs, PyData.strOk b = true) : SeqAt.shaped (.list (bs.map PyData.str)) = true := by
  simp [SeqAt.shaped, PyData.canLay0, lay_str h, PyData.depth, depth_str]
theorem eqvAll_str : ∀ bs cs : List Str, PyData.eqvAll (bs.map PyData.str) (cs.map PyData.str) = decide (bs = cs)
  | [], [] => by simp [PyData.eqvAll]
  | [], c :: s => by simp [PyData.eqvAll]
  | b :: r, [] => by simp [PyData.eqvAll]
  | b :: r, c :: s => by
    simp only [List.map_cons, PyData.eqvAll, PyData.eqv, eqvAll_str r s, List.cons.injEq]
    by_cases h1 : b = c <;> by_cases h2 : r = s <;> simp [h1, h2]
theorem eqv_strs (bs cs : List Str) : PyData.eqv (.list (bs.map PyData.str)) (.list (cs.map PyData.str)) = decide (bs = cs) := by
  simp only [PyData.eqv, eqvAll_str]
end
end Bw

/-! Starred targets: a, *b = e for a tuple or a list e. -/
namespace Bw
open PySem PySem.Spec L2
section
variable {prog : Program} {w : World} {A : Around} {E : Value → Shared → Prop} {I : Addr} {fp wr : List Addr} {G : Array GenState → Array GenState → Prop} {n : Nat} {P : Nat → Value → Prop} {St : Nat → Shared → Prop}
theorem moved_refl (hg : ∀ a, G a a) (s : Shared) : Moved wr G s s := Moved.refl hg
theorem moved_trans (ht : ∀ a b c, G a b → G b c → G a c) {s s' s'' : Shared} (x : Moved wr G s s') (y : Moved wr G s' s'') : Moved wr G s s'' :=
  ⟨fun b o hb e => y.heap b o hb (x.heap b o hb e), ht _ _ _ x.gens y.gens, y.drawn.trans x.drawn, y.os.trans x.os, Nat.le_trans x.toks y.toks⟩
theorem draw_S (W : WalksS prog w A I fp wr G n P St) : ∀ (m i : Nat) (s : Shared) (Q : List Value → Shared → Prop), St i s → i + m ≤ n →
    (∀ s' vs, Moved wr G s s' → St (i + m) s' → vs.length = m → (∀ j v, vs[j]? = some v → P (i + j) v) → Q vs s') → wpAny (model prog w) A (draw (.ref I) m) Q E s
  | 0, i, s, Q, st, _, hQ => by
    show wpAny _ _ (pure []) Q E s
    exact wpAny_pure (hQ s [] (moved_refl W.grefl s) st rfl fun j v h => by simp at h)
  | m + 1, i, s, Q, st, hle, hQ => by
    show wpAny _ _ (pyNext (.ref I) >>= _) Q E s
    refine wpAny_bind (W.item i s _ _ (by omega) st fun v s1 hP st1 mv => ?_)
    refine wpAny_bind (wpAny_holding (draw_S W m (i + 1) s1 _ st1 (by omega) fun s2 vs mv2 st2 hl hv => wpAny_pure ?_))
    refine hQ s2 (v :: vs) (moved_trans W.gtrans mv mv2) (by rw [show i + (m + 1) = i + 1 + m by omega]; exact st2) (by simp [hl]) fun j u h => ?_
    cases j with
    | zero =>
      simp at h
      subst h
      exact hP
    | succ j =>
      have := hv j u (by simpa using h)
      rw [show i + (j + 1) = i + 1 + j by omega]
      exact this
theorem shift_S (W : WalksS prog w A I fp wr G n P St) (k : Nat) (hk : k ≤ n) : WalksS prog w A I fp wr G (n - k) (fun i => P (k + i)) (fun i s => St (k + i) s) where
  sub := W.sub
  grefl := W.grefl
  gtrans := W.gtrans
  frame := fun i s h' tk st ht hb => W.frame (k + i) s h' tk st ht hb
  item := fun i s Q E hi st hQ => W.item (k + i) s Q E (by omega) st fun v s' hP st' mv => hQ v s' hP st' mv
  done := fun s Q E st hQ => W.done s Q E (by rw [show k + (n - k) = n by omega] at st; exact st) hQ
  self := fun i s Q E st hQ => W.self (k + i) s Q E st hQ
/-- the items, the starred ones as a new list at the heap's end -/
theorem star_S {v : Value} {s s0 : Shared} {T : String} {k after : Nat} {Q : List Value → Shared → Prop} (hTm : T = "list_iterator" ∨ T = "tuple_iterator")
    (W : WalksS prog w A.in1 I fp wr G n P St) (hT : ∀ i s, St i s → s.TypeIs (.ref I) T) (hn : n ≤ sizeLine) (hk : k + after ≤ n) (hI : I ∈ fp) (hfp : ∀ i s, St i s → ∀ b ∈ fp, b < s.heap.objs.size) (st0 : St 0 s0)
    (hit : ∀ (Q : Bool → Shared → Prop), Q false s → wpAny (model prog w) A (notIterableAtAll v) Q E s)
    (hiter : ∀ (Q : Value → Shared → Prop), Q (.ref I) s0 → wpAny (model prog w) A (pyIter v) Q E s)
    (hQ : ∀ (s' : Shared) (first rest : List Value), Moved wr G s0 s' → first.length = k → (∀ j u, first[j]? = some u → P j u) → rest.length = n - k → (∀ j u, rest[j]? = some u → P (k + j) u) →
      wpAny (model prog w) A (newList (rest.take (rest.length - after))) (fun l s'' => Q (first ++ [l] ++ rest.drop (rest.length - after)) s'') E s') :
    wpAny (model prog w) A (unpackItems v (k + 1 + after) (some k)) Q E s := by
  have W' : WalksS prog w A I fp wr G n P St := WalksS.of_in1 W
  unfold unpackItems
  refine wpAny_bind (hit _ ?_)
  simp only [Bool.false_eq_true, if_false]
  refine wpAny_bind (wpAny_holding (hiter _ ?_))
  refine wpAny_bind (wpAny_holding (draw_S W' k 0 s0 _ st0 (by omega) fun s1 first mv1 st1 hl1 hv1 => ?_))
  rw [if_neg (by omega)]
  rw [Nat.zero_add] at st1
  refine wpAny_bind (wpAny_holding (wpAny_collect_iter (T := T) (by rcases hTm with h | h <;> simp [h]) (shift_S W k (by omega)) (fun i s st => hT (k + i) s st) (by simpa using st1) (hfp k s1 st1) hI (fun s2 acc mv2 hacc => ?_) (by omega)))
  have hal : acc.toList.length = n - k := by rw [Array.length_toList]; exact hacc.1
  rw [show k + 1 + after - 1 - k = after by omega]
  rw [if_neg (by omega)]
  refine wpAny_bind ?_
  refine wpAny_mono (hQ s2 first acc.toList (moved_trans W.gtrans mv1 mv2) hl1 (fun j u h => by simpa using hv1 j u h) hal fun j u h => ?_) (fun l s3 q => wpAny_pure q) fun _ _ h => h
  exact hacc.2 j u (by simpa using h)
end
/-! ### over the layer -/
/-- a, .., *b, .., c = e: k ahead, after behind the star -/
def gStar (K : PySem.W.Frag) (k after : Nat) (t : TGs) : TG := fun v σ H Q => ∃ a xs, v = .ref a ∧ (SqT K H a xs ∨ SqL K H a xs) ∧ k + after ≤ xs.length ∧
  ∀ p, H p = none → t (xs.take k ++ [.ref p] ++ (xs.drop k).drop (xs.length - k - after)) σ (upd H p (.lst ((xs.drop k).take (xs.length - k - after)))) Q
section
variable {X : Cx} {pos : Pos}
theorem pgs_star {e : Expr} {es : List Expr} {t : TG} {u : TGs} {p : Pos} (h1 : PG X e t) (h2 : PGs X es u)
    (hs : (assignEach (.Starred e p :: es) X.env).map (·.2) = assign e X.env :: (assignEach es X.env).map (·.2) := by rfl) : PGs X (.Starred e p :: es) (gCons t u) := by
  refine ⟨fun pins s σ H vs us Q I r h => ?_⟩
  obtain ⟨v, vr, e1, h⟩ := h
  subst e1
  cases r with
  | cons r rr =>
    rw [hs]
    refine PyProof.Rows.assignInOrder_cons (thn (h1.run pins s σ H _ _ _ I r h) fun _ s1 ⟨σ1, H1, I1, q1⟩ => ?_)
    exact h2.run pins s1 σ1 H1 _ _ Q I1 rr q1
theorem pg_star {es : List Expr} {ky : Nat} {t : TGs} {k after : Nat} (hc : X.calm = true) (h : PGs X es t)
    (hn : (assignEach es X.env).length = k + 1 + after := by rfl) (hst : (assignEach es X.env).findIdx? (·.1) = some k := by rfl) : PG X (.Tuple es ky pos) (gStar X.K k after t) := by
  refine ⟨fun pins s σ H v u Q I r hw => ?_⟩
  obtain ⟨a, xs, e1, hq, hl, hw⟩ := hw
  subst e1
  obtain rfl : u = Value.ref a := r
  rw [PyProof.Rows.assign_Tuple]
  refine wpAny_bind (wpAny_standAt ?_)
  unfold unpack
  rw [hn, hst]
  have hh : X.A.handled = none := I.ok.hd hc
  have fin : ∀ (its : List Value) (s' : Shared) (first rest : List Value), Vals xs its → xs.length ≤ sizeLine → (∀ b o, s.heap.get? b = some o → s'.heap.get? b = some o) → s'.gens = s.gens → s'.drawn = s.drawn → s'.os = s.os → first.length = k → (∀ (j : Nat) u, first[j]? = some u → its[j]? = some u) → rest.length = its.length - k → (∀ (j : Nat) u, rest[j]? = some u → its[k + j]? = some u) →
      wpAny (model X.prog X.w) X.A (newList (rest.take (rest.length - after))) (fun l s'' => wpAny (model X.prog X.w) X.A (assignInOrder ((assignEach es X.env).map (·.2)) (first ++ [l] ++ rest.drop (rest.length - after))) (fun _ s' => ∃ σ' H', Inv X pins σ' H' s' ∧ Q σ' H') X.xe s'') X.xe s' := by
    intro its s' first rest rv z kp e1 e2 e3 l1 g1 l2 g2
    have lx := rv.length
    have hr : rest = its.drop k := by
      apply List.ext_getElem?
      intro j
      rw [List.getElem?_drop]
      cases e : rest[j]? with
      | some u => exact (g2 j u e).symm
      | none =>
        have := List.getElem?_eq_none_iff.mp e
        exact (List.getElem?_eq_none_iff.mpr (by omega)).symm
    have hf : first = its.take k := by
      apply List.ext_getElem?
      intro j
      cases e : first[j]? with
      | some u =>
        have hj := (List.getElem?_eq_some_iff.mp e).1
        rw [List.getElem?_take, if_pos (by omega)]
        exact (g1 j u e).symm
      | none =>
        have := List.getElem?_eq_none_iff.mp e
        exact (List.getElem?_eq_none_iff.mpr (by rw [List.length_take]; omega)).symm
    subst hr hf
    have I1 : Inv X pins σ H { s with heap := s'.heap, toks := s'.toks } := I.kept (t' := s'.toks) kp
    have es' : { s with heap := s'.heap, toks := s'.toks } = s' := by
      cases s'
      simp_all
    rw [es'] at I1
    have hfr : H s'.heap.objs.size = none := I1.hok.fresh (Nat.le_refl _)
    have r1 : Vals ((xs.drop k).take (xs.length - k - after)) ((its.drop k).take ((its.drop k).length - after)) := by
      rw [List.length_drop, ← lx]
      exact (rv.drop k).take _
    have z1 : ((xs.drop k).take (xs.length - k - after)).length ≤ sizeLine := by
      rw [List.length_take, List.length_drop]
      omega
    refine wpAny_newObj_type ?_ (by
      show (_ : Nat) ≤ _
      rw [List.size_toArray, ← r1.length]
      exact z1)
    have I2 : Inv X pins σ (upd H s'.heap.objs.size (.lst ((xs.drop k).take (xs.length - k - after)))) { s' with heap := s'.heap.push { cls := .type "list", dict := none, data := .seq ((its.drop k).take ((its.drop k).length - after)).toArray } } :=
      I1.laid (t' := s'.toks) (fun b u e => Heap.get?_push_of_some _ e) (Nat.le_refl _) ⟨z1, _, 0, r1, Heap.get?_push_size _ rfl⟩
    refine h.run pins _ σ _ _ _ Q I2 ?_ (hw _ hfr)
    have r2 : Vals ((xs.drop k).drop (xs.length - k - after)) ((its.drop k).drop ((its.drop k).length - after)) := by
      rw [List.length_drop, ← lx]
      exact (rv.drop k).drop _
    exact Vals.append (Vals.append (rv.take k) (.cons rfl .nil)) r2
  rcases hq with hq | hq
  · obtain ⟨its, rv, ht, hz⟩ := I.tuple hq
    have lx := rv.length
    have hlt : a ≠ s.heap.objs.size := by obtain ⟨o, ho, _⟩ := ht; exact Nat.ne_of_lt (Heap.lt_size ho)
    refine wpAny_bind (wpAny_holding (star_S (T := "tuple_iterator") (n := its.toArray.size) (P := fun i v => its.toArray[i]? = some v) (s0 := { s with heap := s.heap.push { cls := .type "tuple_iterator", data := .fields #[.ref a, .int 0 0] } })
      (.inr rfl) (Walks.toS (Walks.tuple (A := X.A.in1) hh s.heap.objs.size a hlt its.toArray)) (fun i s st => ?_) (by simp; omega) (by simp; omega) (by simp) (fun i s st b hb => ?_) ?_ (fun Q q => ?_) (fun Q q => ?_) (fun s' first rest mv l1 g1 l2 g2 => ?_)))
    · obtain ⟨o, ho, hcl, _⟩ := st.1
      exact ⟨o, ho, hcl⟩
    · simp at hb
      rcases hb with rfl | rfl
      · obtain ⟨o, ho, _⟩ := st.1
        exact Heap.lt_size ho
      · obtain ⟨o, ho, _⟩ := st.2
        exact Heap.lt_size ho
    · exact ⟨⟨_, Heap.get?_push_size _ rfl, rfl, rfl⟩, ht.push _⟩
    · unfold notIterableAtAll
      exact wpAny_bind (wpAny_specialOf ht.typeIs PyProof.Rows.slot_tuple_iter.lookup (wpAny_pure q))
    · exact wpAny_pyIter_tuple ht q
    · refine fin its s' first rest rv hz (fun b o e => mv.heap b o ?_ (Heap.get?_push_of_some _ e)) mv.gens mv.drawn mv.os l1 (fun j u e => by simpa using g1 j u e) (by simpa using l2) (fun j u e => by simpa using g2 j u e)
      simp
      exact Nat.ne_of_lt (Heap.lt_size e)
  · obtain ⟨its, rv, ht, hz⟩ := I.list hq
    have ht : s.heap.IsList a its.toArray := by
      obtain ⟨o, n, h1, h2, h3, h4⟩ := ht
      exact ⟨o, h1, h2, n, h4⟩
    have lx := rv.length
    have hlt : a ≠ s.heap.objs.size := by obtain ⟨o, ho, _⟩ := ht; exact Nat.ne_of_lt (Heap.lt_size ho)
    refine wpAny_bind (wpAny_holding (star_S (T := "list_iterator") (n := its.toArray.size) (P := fun i v => its.toArray[i]? = some v) (s0 := { s with heap := s.heap.push { cls := .type "list_iterator", data := .fields #[.ref a, .int 0 0] } })
      (.inl rfl) (Walks.toS (Walks.list (A := X.A.in1) hh s.heap.objs.size a hlt its.toArray)) (fun i s st => ?_) (by simp; omega) (by simp; omega) (by simp) (fun i s st b hb => ?_) ?_ (fun Q q => ?_) (fun Q q => ?_) (fun s' first rest mv l1 g1 l2 g2 => ?_)))
    · obtain ⟨o, ho, hcl, _⟩ := st.1
      exact ⟨o, ho, hcl⟩
    · simp at hb
      rcases hb with rfl | rfl
      · obtain ⟨o, ho, _⟩ := st.1
        exact Heap.lt_size ho
      · obtain ⟨o, ho, _⟩ := st.2
        exact Heap.lt_size ho
    · exact ⟨⟨_, Heap.get?_push_size _ rfl, rfl, rfl⟩, ht.push _⟩
    · unfold notIterableAtAll
      exact wpAny_bind (wpAny_specialOf ht.typeIs slot_list_iter.lookup (wpAny_pure q))
    · exact wpAny_pyIter_list ht q
    · refine fin its s' first rest rv hz (fun b o e => mv.heap b o ?_ (Heap.get?_push_of_some _ e)) mv.gens mv.drawn mv.os l1 (fun j u e => by simpa using g1 j u e) (by simpa using l2) (fun j u e => by simpa using g2 j u e)
      simp
      exact Nat.ne_of_lt (Heap.lt_size e)
end
end Bw

namespace Bw
open PySem PySem.Spec PyProof.Rows L2 LamX
/-! list(x), tuple(x), xs.insert -/
section
variable {X : Cx}
def rListOf (K : PySem.W.Frag) : List V → Hp → VK → Prop := fun xs H Q => ∃ p ys, xs = [.ref p] ∧ (SqL K H p ys ∨ SqT K H p ys) ∧ ∀ l, H l = none → Q (.ref l) (upd H l (.lst ys))
theorem cl_list : CallR X (.type "list") (rListOf X.K) := call_list_of
def rTupOf (K : PySem.W.Frag) : List V → Hp → VK → Prop := fun xs H Q => ∃ p ys, xs = [.ref p] ∧ ((SqL K H p ys ∧ ∀ l, H l = none → Q (.ref l) (upd H l (.tup ys))) ∨ (SqT K H p ys ∧ Q (.ref p) H))
theorem cl_tuple : CallR X (.type "tuple") (rTupOf X.K) := call_tuple_of
def rInsert : V → List V → Hp → VK → Prop := fun x vs H Q => ∃ (l : Addr) (xs : List V) (i : Int) (y : V), x = .ref l ∧ vs = [.int i, y] ∧ H l = some (.lst xs) ∧ xs.length < sizeLine ∧ 0 ≤ i ∧ i < 2 ^ 63 ∧ Q .non (upd H l (.lst (xs.take i.toNat ++ [y] ++ xs.drop i.toNat)))
theorem mt_insertN : MtR X "list.insert" rInsert := mt_insert
end
section
variable {K : PySem.W.Frag} {H : Hp} {Q : VK}
theorem w_listOf {p : Addr} {ys : List V} (h : SqL K H p ys) (k : ∀ l H2, H l = none → Same H H2 → H2 l = some (.lst ys) → Q (.ref l) H2) : rListOf K [.ref p] H Q := ⟨p, ys, rfl, .inl h, fun l n => k l _ n (same_new n) upd_same⟩
theorem w_tupOf {p : Addr} {ys : List V} (h : SqL K H p ys) (k : ∀ l H2, H l = none → Same H H2 → H2 l = some (.tup ys) → Q (.ref l) H2) : rTupOf K [.ref p] H Q := ⟨p, ys, rfl, .inl ⟨h, fun l n => k l _ n (same_new n) upd_same⟩⟩
theorem w_tupT {p : Addr} {ys : List V} (h : SqT K H p ys) (q : Q (.ref p) H) : rTupOf K [.ref p] H Q := ⟨p, ys, rfl, .inr ⟨h, q⟩⟩
theorem w_insert {l : Addr} {xs : List V} {i : Int} {y : V} (h : H l = some (.lst xs)) (hl : xs.length ≤ 60000) (h0 : 0 ≤ i) (hi : i ≤ 60000) (k : ∀ H2, KB l H H2 → H2 l = some (.lst (xs.take i.toNat ++ [y] ++ xs.drop i.toNat)) → Q .non H2) : rInsert (.ref l) [.int i, y] H Q :=
  ⟨l, xs, i, y, rfl, rfl, h, Nat.lt_of_le_of_lt hl (by decide), h0, by omega, k _ kb_upd upd_same⟩
end
/-- an if without else, what is behind it once -/
theorem w_decR {c A : Prop} {dc : Decidable c} {D : Ends} {σ : L2.St} {H : Hp} (Inv : L2.St → Hp → Prop) (h2 : ¬ c → Inv σ H) (h1 : (∀ σ H, Inv σ H → D.nx σ H) → c → A) (hi : ∀ σ H, Inv σ H → D.nx σ H) : if decide c = true then A else tNext D σ H := by
  by_cases h : c
  · rw [if_pos (decide_eq_true h)]
    exact h1 hi h
  · rw [if_neg (fun e => h (of_decide_eq_true e))]
    exact hi _ _ (h2 h)
/-! what is a list stays one -/
def Kinds (H H' : Hp) : Prop := (∀ a xs, H a = some (.lst xs) → ∃ ys, H' a = some (.lst ys)) ∧ ∀ a xs, H a = some (.tup xs) → H' a = some (.tup xs)
theorem Kinds.of {H H' : Hp} (e : Same H H') : Kinds H H' := ⟨fun a xs h => ⟨xs, e _ _ h⟩, fun a xs h => e _ _ h⟩
theorem Kinds.kb {p : Addr} {H H' : Hp} {xs ys : List V} (e : KB p H H') (h0 : H p = some (.lst xs)) (h : H' p = some (.lst ys)) : Kinds H H' := by
  refine ⟨fun a zs ha => ?_, fun a zs ha => ?_⟩
  · by_cases ea : a = p
    · exact ⟨ys, ea ▸ h⟩
    · exact ⟨zs, e _ _ ha ea⟩
  · by_cases ea : a = p
    · rw [ea, h0] at ha
      cases ha
    · exact e _ _ ha ea
theorem Kinds.trans {H H1 H' : Hp} (a : Kinds H H1) (b : Kinds H1 H') : Kinds H H' := ⟨fun p xs h => by
  obtain ⟨ys, h1⟩ := a.1 p xs h
  exact b.1 p ys h1, fun p xs h => b.2 p xs (a.2 p xs h)⟩
theorem TxtV.kinds {H H' : Hp} {v : V} (h : TxtV H v) (e : Kinds H H') : TxtV H' v := h.imp id fun q => by
  cases q with
  | non => exact .non
  | int i => exact .int i
  | bl b => exact .bl b
  | lst q => obtain ⟨ys, h1⟩ := e.1 _ _ q; exact .lst h1
  | tup q => exact .tup (e.2 _ _ q)
end Bw

namespace Bw
open PySem PySem.Spec PyProof.Rows L2 LamX
/-! ### own exceptions: the handed value -/
abbrev MonoA (ta : TA) : Prop := ∀ σ H (Q Q' : List V → Hp → Prop), (∀ vs H, Q vs H → Q' vs H) → ta σ H Q → ta σ H Q'
theorem monoV {i : Nat} : MonoA (tCons (tVar i) tNil) := fun σ H Q Q' hq h => by
  obtain ⟨v, e, q⟩ := h
  exact ⟨v, e, hq _ _ q⟩
theorem monoF {K : PySem.W.Frag} {i : Nat} {f : Str} : MonoA (tCons (tFld K (tVar i) f) tNil) := fun σ H Q Q' hq h => by
  obtain ⟨v, e, a, C, dx, fs, u, h1, h2, h3, h4, h5, q⟩ := h
  exact ⟨v, e, a, C, dx, fs, u, h1, h2, h3, h4, h5, hq _ _ q⟩
section
variable {K : PySem.W.Frag} {H : Hp} {Q : VK} {σ : L2.St} {D : Ends}
theorem w_xmk {C : Addr} {f : Str} {dvs : List V} {ta : TA} {QX : XK} (h : ta σ H fun vs H1 => ∃ v, vs ++ dvs = [v] ∧ ∀ d H2, H1 d = none → Same H1 H2 → H2 d = some (.xd [(f, v)]) → QX (.ref C) (some d) H2) : tXmk C f dvs ta σ H QX := h
theorem w_xv {v : V} {R : V → Prop} (h : R v) : ∃ v', [v] ++ [] = [v'] ∧ R v' := ⟨v, rfl, h⟩
theorem w_xv0 {v : V} {R : V → Prop} (h : R v) : ∃ v', [] ++ [v] = [v'] ∧ R v' := ⟨v, rfl, h⟩
/-! ### augmented stores -/
theorem w_aug {i : Nat} {te : TE} {ti : TIp} {x : V} (hx : σ[i]? = some (some x)) (h : te σ H fun y H1 => ti x y H1 fun z H2 => D.nx (σ.set i (some z)) H2) : tAug i te ti D σ H := ⟨x, hx, h⟩
theorem w_ipI {f : Int → Int → Int} {i j : Int} (q : Q (.int (f i j)) H) : ipI f (.int i) (.int j) H Q := ⟨i, j, rfl, rfl, q⟩
theorem w_rAdd {i j : Int} (q : Q (.int (i + j)) H) : L2.rAdd (.int i) (.int j) H Q := ⟨i, j, rfl, rfl, q⟩
theorem w_faug {ta tv : TE} {rd : V → V → Hp → VK → Prop} {f : Str} (h : ta σ H fun x H1 => ∃ a C dx fs v, x = .ref a ∧ H1 a = some (.ins C dx fs) ∧ Cls K C ∧ NoAttr K C f ∧ fs.lookup f = some v ∧
  tv σ H1 fun y H2 => rd v y H2 fun z H3 => ∃ dx' fs', H3 a = some (.ins C dx' fs') ∧ fs'.length < 1000 ∧ D.nx σ (upd H3 a (.ins C dx' (putF f z fs')))) : sFldAug K ta tv rd f D σ H := h
theorem w_faug1 {a C dx : Addr} {fs : List (Str × V)} {f : Str} {v : V} {R : Addr → Addr → V → Prop} (ho : H a = some (.ins C dx fs)) (hc : Cls K C) (hn : NoAttr K C f) (hl : fs.lookup f = some v) (q : R a C v) :
    ∃ a' C dx fs v, V.ref a = .ref a' ∧ H a' = some (.ins C dx fs) ∧ Cls K C ∧ NoAttr K C f ∧ fs.lookup f = some v ∧ R a' C v := ⟨a, C, dx, fs, v, rfl, ho, hc, hn, hl, q⟩
theorem w_faug2 {a C dx : Addr} {fs : List (Str × V)} {R : Addr → List (Str × V) → Prop} (ho : H a = some (.ins C dx fs)) (hl : fs.length < 1000) (q : R dx fs) :
    ∃ dx' fs', H a = some (.ins C dx' fs') ∧ fs'.length < 1000 ∧ R dx' fs' := ⟨dx, fs, ho, hl, q⟩
theorem w_notInS {c : Nat} {z : Str} (q : Q (.bl (!decide (c ∈ z.cps.toList))) H) : rNotInS (.str ⟨#[c]⟩) (.str z) H Q := ⟨c, z, rfl, rfl, q⟩
end
section
variable {X : Cx}
theorem ip_addS : PIp X .Add Bw.rAddS := fun pins s σ H x y v u Q I rx ry h => iop_add_str pins s σ H x y v u Q I rx ry h
theorem iop_mulU : OpR X (inplaceOp .Mult) (rI CMulU fun i j => .int (i * j)) := opI fun _ _ _ _ _ _ _ hc q => imul_int q hc
theorem ip_mulU : PIp X .Mult (rI CMulU fun i j => .int (i * j)) := fun pins s σ H x y v u Q I rx ry h => iop_mulU pins s σ H x y v u Q I rx ry h
theorem ip_modU : PIp X .Mod (rI (fun _ j => 0 < j) fun i j => .int (i % j)) := fun pins s σ H x y v u Q I rx ry h => iop_mod pins s σ H x y v u Q I rx ry h
/-! ### divmod, str.index -/
def rDivmod : List V → Hp → VK → Prop := fun xs H Q => ∃ i j, xs = [.int i, .int j] ∧ CDivP i j ∧ ∀ p, H p = none → Q (.ref p) (upd H p (.tup [.int (i / j), .int (i % j)]))
theorem cl_divmod : CallR X (.builtin "divmod") rDivmod := call_divmodW
def rSIdx : V → List V → Hp → VK → Prop := fun x xs H Q => ∃ a b i rest, x = .str a ∧ xs = [.str b] ∧ Builtin.Str.occurrences a b 0 a.length 1 = i :: rest ∧ Q (.int (i : Nat)) H
theorem mt_sidx : MtR X "str.index" rSIdx := mt_sindex
end
section
variable {H : Hp} {Q : VK}
theorem w_divmod {i j : Int} (h0 : 0 < j) (hb : j.natAbs < 2 ^ 64) (k : ∀ p H2, H p = none → Same H H2 → H2 p = some (.tup [.int (i / j), .int (i % j)]) → Q (.ref p) H2) : rDivmod [.int i, .int j] H Q :=
  ⟨i, j, rfl, ⟨h0, PyProof.noPylong_of_log2 (Nat.lt_of_lt_of_le (PySem.Flt.log2_lt_of (by decide) hb) (by decide : 64 ≤ 9000))⟩, fun p n => k p _ n (same_new n) upd_same⟩
theorem w_sidx {a b : Str} {i : Nat} {rest : List Nat} (e : Builtin.Str.occurrences a b 0 a.length 1 = i :: rest) (q : Q (.int (i : Nat)) H) : rSIdx (.str a) [.str b] H Q := ⟨a, b, i, rest, rfl, rfl, e, q⟩
end
/-! ### any thing of the plain kinds -/
inductive Thg (H : Hp) : V → Prop
  | non : Thg H .non
  | int (i : Int) : Thg H (.int i)
  | bl (b : Bool) : Thg H (.bl b)
  | str (x : Str) : Thg H (.str x)
  | lst {a : Addr} {xs : List V} : H a = some (.lst xs) → Thg H (.ref a)
  | tup {a : Addr} {xs : List V} : H a = some (.tup xs) → Thg H (.ref a)
theorem Thg.ext {H H' : Hp} {v : V} (h : Thg H v) (e : ExtN H H') : Thg H' v := by
  cases h with
  | non => exact .non
  | int i => exact .int i
  | bl b => exact .bl b
  | str x => exact .str x
  | lst q => exact .lst (e _ _ q (fun _ z => by cases z))
  | tup q => exact .tup (e _ _ q (fun _ z => by cases z))
theorem Thg.same {H H' : Hp} {v : V} (h : Thg H v) (e : Same H H') : Thg H' v := h.ext (extn_same e)
theorem Thg.kinds {H H' : Hp} {v : V} (h : Thg H v) (e : Kinds H H') : Thg H' v := by
  cases h with
  | non => exact .non
  | int i => exact .int i
  | bl b => exact .bl b
  | str x => exact .str x
  | lst q => obtain ⟨ys, h1⟩ := e.1 _ _ q; exact .lst h1
  | tup q => exact .tup (e.2 _ _ q)
/-- no list -/
inductive NoL (H : Hp) : V → Prop
  | non : NoL H .non
  | int (i : Int) : NoL H (.int i)
  | bl (b : Bool) : NoL H (.bl b)
  | str (x : Str) : NoL H (.str x)
  | tup {a : Addr} {xs : List V} : H a = some (.tup xs) → NoL H (.ref a)
theorem NoL.ty {K : PySem.W.Frag} {H : Hp} {v : V} (h : NoL H v) : ∃ tv, TyX K H v (.type tv) ∧ kitB tv "list" = some false := by
  cases h with
  | non => exact ⟨_, tyx_non, kit_NoneType_list⟩
  | int i => exact ⟨_, tyx_int, kit_int_list⟩
  | bl b => exact ⟨_, tyx_bl, kit_bool_list⟩
  | str x => exact ⟨_, tyx_str, kit_str_list⟩
  | tup e => exact ⟨_, tyx_tup e, kit_tuple_list⟩
theorem NoL.ext {H H' : Hp} {v : V} (h : NoL H v) (e : ExtN H H') : NoL H' v := by
  cases h with
  | non => exact .non
  | int i => exact .int i
  | bl b => exact .bl b
  | str x => exact .str x
  | tup q => exact .tup (e _ _ q (fun _ z => by cases z))
theorem NoL.thg {H : Hp} {v : V} (h : NoL H v) : Thg H v := by
  cases h with
  | non => exact .non
  | int i => exact .int i
  | bl b => exact .bl b
  | str x => exact .str x
  | tup q => exact .tup q
/-- refused with C, the field is v -/
def Raz (E : XK) (H : Hp) (C : Addr) (v : V) : Prop := ∀ d H', H d = none → Same H H' → H' d = some (.xd [("at", v)]) → E (.ref C) (some d) H'
theorem Raz.same {E : XK} {H H1 : Hp} {C : Addr} {v : V} (h : Raz E H C v) (s : Same H H1) : Raz E H1 C v := fun d H' n s' e => h d H' (same_free s n) (s.trans s') e
theorem kb_newD {p q : Addr} {H H' : Hp} {o : HO} (k : KB p H H') (hp : H' p = some o) (n : H' q = none) : H q = none := by
  cases e : H q with
  | none => rfl
  | some u =>
    have ne : q ≠ p := fun z => by rw [z, hp] at n; cases n
    rw [k q u e ne] at n
    cases n
theorem kb2 {p D : Addr} {H H4 H5 : Hp} (a : KB p H H4) (b : KB D H4 H5) (n : H D = none) : KB p H H5 := fun c o h nc => b c o (a c o h nc) (ne_of_none h n)
/-! ### texts by their signs -/
theorem str_ext {x y : Str} (h : x.cps.toList = y.cps.toList) : x = y := by
  obtain ⟨⟨a⟩⟩ := x
  obtain ⟨⟨b⟩⟩ := y
  congr 2
theorem cps_append (x y : Str) : (x ++ y).cps.toList = x.cps.toList ++ y.cps.toList := TL.tl_append x y
def S (l : List Nat) : Str := ⟨l.toArray⟩
theorem cps_S (l : List Nat) : (S l).cps.toList = l := rfl
theorem len_S (l : List Nat) : (S l).length = l.length := by
  show l.toArray.size = l.length
  simp
theorem len_cps (x : Str) : x.cps.toList.length = x.length := Array.length_toList
/-! ### lists of ints -/
section
variable {K : PySem.W.Frag} {H : Hp}
theorem dpAll_int : ∀ bs : List Int, DpAll K H (bs.map V.int) (bs.map PyData.int)
  | [] => .nil
  | b :: r => .cons (.int b) (dpAll_int r)
theorem depth_int : ∀ bs : List Int, PyData.depthAll (bs.map PyData.int) = 0
  | [] => rfl
  | b :: r => by simp [PyData.depthAll, PyData.depth, depth_int r]
theorem lay_int : ∀ {bs : List Int}, PyData.canLayAll0 (bs.map PyData.int) = true
  | [] => by simp [PyData.canLayAll0]
  | b :: r => by simp [PyData.canLayAll0, PyData.canLay0, lay_int (bs := r)]
theorem shaped_int {bs : List Int} : SeqAt.shaped (.list (bs.map PyData.int)) = true := by
  simp [SeqAt.shaped, PyData.canLay0, lay_int, PyData.depth, depth_int]
theorem eqvAll_int : ∀ bs cs : List Int, PyData.eqvAll (bs.map PyData.int) (cs.map PyData.int) = decide (bs = cs)
  | [], [] => by simp [PyData.eqvAll]
  | [], c :: s => by simp [PyData.eqvAll]
  | b :: r, [] => by simp [PyData.eqvAll]
  | b :: r, c :: s => by
    simp only [List.map_cons, PyData.eqvAll, PyData.eqv, eqvAll_int r s, List.cons.injEq]
    by_cases h1 : b = c <;> by_cases h2 : r = s <;> simp [h1, h2]
theorem eqv_ints (bs cs : List Int) : PyData.eqv (.list (bs.map PyData.int)) (.list (cs.map PyData.int)) = decide (bs = cs) := by
  simp only [PyData.eqv, eqvAll_int]
end
end Bw

namespace Bw
open PySem PySem.Spec PyProof.Rows L2 LamX
abbrev selfAt : List Str := ["self", "at"]
/-- an own exception with the field at, from what K holds -/
theorem xcl_of {P : Program} {w : World} {K : PySem.W.Frag} {mg : Str → Option Value} {base : Heap} {x qual : Str} {C fI T : Addr} {st : Stmt} {oc ocT kV doc pm cd ct : Value} {od odT an : Option Addr} {sl slT : Array (Option Value)} {nT : Nat}
    (T0 : OexC K C) (no : PySem.W.findIn K (.ref C) "at" = some none) (hm : mg x = some (.ref C)) (iC : PySem.W.findIn K (.ref C) "__init__" = some (some (.ref fI))) (tI : PySem.W.typeIn K (.ref fI) = some (.type "function"))
    (l : K.lookup fI = some ⟨oc, od, .func (PySem.W.fnOf "__init__" qual (defArgs st) (defBody st) (defScope st) (.ref T) kV doc pm an cd ct), sl⟩) (hc : PySem.W.codeIn K cd qual = true) (kp : PySem.W.keepIn K (.ref fI) = true)
    (lT : K.lookup T = some ⟨ocT, odT, .seq (List.toArray [.none]) nT, slT⟩)
    (F0 : ∀ fd, FunD K "__init__" qual (defArgs st) (defBody st) (defScope st) [.non] [] fI fd → FnOk P w K mg base CX0 1 fI fd selfAt (spXi K "at"))
    (b0 : ∀ (T : Addr) (kV doc pm : Value) (an : Option Addr) (cdv ct : Value) (us its : List Value), us.length = 1 → its.length = 1 →
      ∃ k, bindArgs (PySem.W.fnOf "__init__" qual (defArgs st) (defBody st) (defScope st) (.ref T) kV doc pm an cdv ct) ⟨us, []⟩ = seqItems? (.ref T) >>= k ∧ k (some its.toArray) = pure (selfAt.zip (us ++ its.drop 0)))
    (b1 : ∀ (T : Addr) (kV doc pm : Value) (an : Option Addr) (cdv ct : Value) (us its : List Value), us.length = 2 → its.length = 1 →
      ∃ k, bindArgs (PySem.W.fnOf "__init__" qual (defArgs st) (defBody st) (defScope st) (.ref T) kV doc pm an cdv ct) ⟨us, []⟩ = seqItems? (.ref T) >>= k ∧ k (some its.toArray) = pure (selfAt.zip (us ++ its.drop 1))) :
    Xcl P w K mg base x C 1 "at" [.non] ∧ Xcl P w K mg base x C 1 "at" [] := by
  have F : FunD K "__init__" qual (defArgs st) (defBody st) (defScope st) [.non] [] fI _ := ⟨⟨_, _, _, _, _, _, _, _, _, _, rfl, l, hc, .inr ⟨by simp, _, _, _, _, rfl, lT, rfl, .cons rfl .nil⟩, .inl rfl⟩, kp⟩
  obtain ⟨d0, h0, e0⟩ := F.binds1 (ps := selfAt) 1 0 (by simp) rfl b0
  obtain ⟨d1, h1, e1⟩ := F.binds1 (ps := selfAt) 2 1 (by simp) rfl b1
  exact ⟨⟨T0, no, hm, fI, _, d0, _, iC, tI, F0 _ F, e0, h0⟩, ⟨T0, no, hm, fI, _, d1, _, iC, tI, F0 _ F, e1, h1⟩⟩
theorem oex_mk {K : PySem.W.Frag} {C : Addr} {nm q : Str} {N : Addr} {bs bm : List Value} {sn : List Str} {sub : List Value} {ab : Bool} {col : Option Bool} {dd : Option Addr} {k0 k1 k2 k3 k5 : Option Value}
    (l : K.lookup C = some (excClassObj nm q C N bs bm true sn sub ab col dd k0 k1 k2 k3 k5 "ValueError.__new__")) (r : PySem.HandSPX.refsVE bm = true) (sa : PySem.W.findIn K (.ref C) "__setattr__" = some (some (.builtin "object.__setattr__")))
    (exC : PySem.W.subIn K (.ref C) (.type "BaseException") = some true) (tyC : PySem.W.typeIn K (.ref C) = some (.type "type")) (kC : PySem.W.keepIn K (.ref C) = true) : OexC K C := ⟨⟨nm, q, N, bs, bm, sn, sub, ab, col, dd, k0, k1, k2, k3, k5, l, r⟩, sa, exC, tyC, kC⟩
/-! ### data that can be compared -/
structure GoodD (d : PyData) (n : Nat) : Prop where
  lay : PyData.canLay0 d = true
  dep : PyData.depth d ≤ n
  refl : PyData.eqv d d = true
theorem GoodD.shaped {d : PyData} {n : Nat} (h : GoodD d n) (hn : n ≤ 64) : SeqAt.shaped d = true := by
  unfold SeqAt.shaped
  rw [h.lay, decide_eq_true (Nat.le_trans h.dep hn)]
  rfl
theorem GoodD.mono {d : PyData} {n m : Nat} (h : GoodD d n) (l : n ≤ m) : GoodD d m := ⟨h.lay, Nat.le_trans h.dep l, h.refl⟩
theorem good_int {i : Int} {n : Nat} : GoodD (.int i) n := ⟨by simp [PyData.canLay0], by simp [PyData.depth], by simp [PyData.eqv]⟩
theorem good_bool {b : Bool} {n : Nat} : GoodD (.bool b) n := ⟨by simp [PyData.canLay0], by simp [PyData.depth], by simp [PyData.eqv]⟩
theorem good_none {n : Nat} : GoodD .none n := ⟨by simp [PyData.canLay0], by simp [PyData.depth], by simp [PyData.eqv]⟩
theorem good_str {x : Str} {n : Nat} (h : PyData.strOk x = true) : GoodD (.str x) n := ⟨by simp [PyData.canLay0, h], by simp [PyData.depth], by simp [PyData.eqv]⟩
theorem good_all {n : Nat} : ∀ {ds : List PyData}, (∀ d ∈ ds, GoodD d n) → PyData.canLayAll0 ds = true ∧ PyData.depthAll ds ≤ n ∧ PyData.eqvAll ds ds = true
  | [], _ => by simp [PyData.canLayAll0, PyData.depthAll, PyData.eqvAll]
  | d :: r, h => by
    obtain ⟨h1, h2, h3⟩ := good_all (ds := r) (fun x hx => h x (List.mem_cons_of_mem _ hx))
    have h0 := h d List.mem_cons_self
    refine ⟨by simp [PyData.canLayAll0, h0.lay, h1], ?_, by simp [PyData.eqvAll, h0.refl, h3]⟩
    have := h0.dep
    simp only [PyData.depthAll]
    omega
theorem good_list {n : Nat} {ds : List PyData} (h : ∀ d ∈ ds, GoodD d n) : GoodD (.list ds) (n + 1) := by
  obtain ⟨h1, h2, h3⟩ := good_all h
  exact ⟨by simp [PyData.canLay0, h1], by simp only [PyData.depth]; omega, by simp [PyData.eqv, h3]⟩
theorem good_tuple {n : Nat} {ds : List PyData} (h : ∀ d ∈ ds, GoodD d n) : GoodD (.tuple ds) (n + 1) := by
  obtain ⟨h1, h2, h3⟩ := good_all h
  exact ⟨by simp [PyData.canLay0, h1], by simp only [PyData.depth]; omega, by simp [PyData.eqv, h3]⟩
section
variable {K : PySem.W.Frag} {H : Hp} {Q : VK}
/-- one thing equals the like -/
theorem w_eqG {x y : V} {d : PyData} {n : Nat} (hx : Dp K H x d) (hy : Dp K H y d) (g : GoodD d n) (hn : n ≤ 64) (q : Q (.bl true) H) : rEqD K x y H Q := w_eqD hx hy (g.shaped hn) (g.shaped hn) g.refl q
theorem w_neG {x y : V} {d : PyData} {n : Nat} (hx : Dp K H x d) (hy : Dp K H y d) (g : GoodD d n) (hn : n ≤ 64) (q : Q (.bl false) H) : rNeD K x y H Q := w_neD hx hy (g.shaped hn) (g.shaped hn) g.refl q
theorem DpAll.append : ∀ {xs ys : List V} {ds es : List PyData}, DpAll K H xs ds → DpAll K H ys es → DpAll K H (xs ++ ys) (ds ++ es)
  | _, _, _, _, .nil, h => h
  | _, _, _, _, .cons h r, h2 => .cons h (DpAll.append r h2)
def nD (n : Nat) : PyData := .int n
theorem dpAll_nat {f : Nat → V} (hf : ∀ n, f n = .int n) : ∀ ns : List Nat, DpAll K H (ns.map f) (ns.map nD)
  | [] => .nil
  | n :: r => .cons (by rw [hf n]; exact .int _) (dpAll_nat hf r)
theorem good_nats (ns : List Nat) : ∀ d ∈ ns.map nD, GoodD d 0 := fun d hd => by
  obtain ⟨n, _, rfl⟩ := List.mem_map.mp hd
  exact good_int
theorem same_dp {H' : Hp} {v : V} {d : PyData} (s : Same H H') (h : Dp K H v d) : Dp K H' v d := Dp.extn (extn_same s) h
theorem same_dpAll {H' : Hp} {vs : List V} {ds : List PyData} (s : Same H H') (h : DpAll K H vs ds) : DpAll K H' vs ds := DpAll.extn (extn_same s) h
end
end Bw

namespace Bw
open PySem PySem.Spec PyProof.Rows L2 LamX
/-! ### d.setdefault(k, v); classes made by keywords -/
section
variable {H : Hp} {Q : VK} {σ : L2.St}
theorem w_dsetd {td ty tx : TE} (h : td σ H fun x H1 => ∃ a, x = .ref a ∧ IsD H1 a ∧ ty σ H1 fun y H2 => tx σ H2 fun z H3 => ∃ (kvs : List (Key × V)) (k : Key), H3 a = some (.dK kvs) ∧ y = kV k ∧ kvs.length < sizeLine ∧
  (∀ v, valV kvs k = some v → Q v H3) ∧ (valV kvs k = none → Q z (upd H3 a (.dK (putK kvs k z))))) : tDSetd td ty tx σ H Q := h
theorem w_dset1 {a : Addr} {kvs : List (Key × V)} {R : Addr → Prop} (h : H a = some (.dK kvs)) (q : R a) : ∃ a', V.ref a = .ref a' ∧ IsD H a' ∧ R a' := ⟨a, rfl, .inl ⟨kvs, .inl h⟩, q⟩
theorem w_dnewK (k : ∀ p H2, H p = none → Same H H2 → H2 p = some (.dK []) → Q (.ref p) H2) : tDNewK σ H Q := fun p n => k p _ n (same_new n) upd_same
end
def rRepS : R2 := fun x y H Q => ∃ z n, x = .str z ∧ y = .int n ∧ MulOk z n ∧ Q (.str (Txt.mul z n)) H
theorem op_repS {X : Cx} : OpR X (binaryOp .Mult) rRepS := by
  intro pins s σ H x y v u Q I rx ry h
  obtain ⟨i, j, rfl, rfl, hz, q⟩ := h
  obtain ⟨t, rfl⟩ := rx
  obtain ⟨t', rfl⟩ := ry
  exact SB.mul hz fun t' tk => ⟨.str _, H, I.tok _, ⟨_, rfl⟩, q⟩
theorem w_repS {z : Str} {n : Int} {H : Hp} {Q : VK} (h : MulOk z n) (q : Q (.str (Txt.mul z n)) H) : rRepS (.str z) (.int n) H Q := ⟨z, n, rfl, rfl, h, q⟩
theorem ip_fdivU {X : Cx} : PIp X .FloorDiv (rI CDiv fun i j => .int (i / j)) := fun pins s σ H x y v u Q I rx ry h => iop_fdiv pins s σ H x y v u Q I rx ry h
theorem w_fdivI {i j : Int} {H : Hp} {Q : VK} (h : CDiv i j) (q : Q (.int (i / j)) H) : rI CDiv (fun i j => .int (i / j)) (.int i) (.int j) H Q := ⟨i, j, rfl, rfl, h, q⟩
structure MkrXK (P : Program) (w : World) (K : PySem.W.Frag) (mg : Str → Option Value) (base : Heap) (x : Str) (C : Addr) (k : Nat) (ps : List Str) (ks : List Str) (gV : List V → List V → List V) (sp : Sp) : Prop where
  ex : ∃ (f : Addr) (fd : FuncData) (g : List Value → List Value → List Value), Mk K C f ∧ FnOk P w K mg base (L2.CX P w) k f fd ps sp ∧ mg x = some (.ref C) ∧ KBn K fd ps 1 ks g gV
section
variable {X : Cx}
theorem pe_mkxk {E : XK} {x : Str} {C : Addr} {k : Nat} {ps ks : List Str} {gV : List V → List V → List V} {sp : Sp} {kws : List Keyword} {tk : TA} {p pos : Pos} (M : MkrXK X.prog X.w X.K X.mg X.base x C k ps ks gV sp) (hx : Lets X E) (hr : Room (k + 1) X.A) (hg : Gl X x) (hkw : PK X kws tk)
    (hall : (backToKw pos (keywordEach kws X.env)).all (·.1.isSome) = true := by rfl) (hks : (backToKw pos (keywordEach kws X.env)).filterMap (·.1) = ks := by rfl) (hdb : (x == ("__debug__" : Str)) = false := by decide)
    (hpl : ((backTo pos (starEach [] X.env)).any (·.1) || (backToKw pos (keywordEach kws X.env)).any (·.1.isNone)) = false := by rfl) :
    PE X (.Call (.Name x p) [] kws pos) (tMakeK C 0 ks.length sp gV E tNil tk) := by
  obtain ⟨f, fd, g, M, G, hm, hb⟩ := M.ex
  exact pe_makeK0 M G hr hg hm hb hx hkw hall hks hdb hpl
end
end Bw

namespace Bw
open PySem PySem.Spec PyProof.Rows L2 LamX
/-! ### rpartition, zfill, count, int(x, 16), pop; defs with defaults, called by keywords -/
section
variable {X : Cx}
def rRpart : V → List V → Hp → VK → Prop := fun x xs H Q => ∃ a b, x = .str a ∧ xs = [.str b] ∧ (b.length == 0) = false ∧ a.length ≤ sizeLine ∧
    ∀ p, H p = none → Q (.ref p) (upd H p (.tup [.str (Txt.rpartition a b).1, .str (Txt.rpartition a b).2.1, .str (Txt.rpartition a b).2.2]))
theorem mt_rpartition : MtR X "str.rpartition" rRpart := by
  intro pins s σ H x xs v us Q I rx rs h
  obtain ⟨a, b, rfl, rfl, hb, hz, h⟩ := h
  obtain ⟨t, rfl⟩ := rx
  cases rs with
  | cons r1 rs =>
    cases rs
    obtain ⟨u, rfl⟩ := r1
    refine call_meets F.slot_str_rpartition (typeIs_str _ _ _) F.entry_str_rpartition (F.args_str_rpartition_2 _ _) (meets_str_rpartition a b t u hb hz) ?_
    unfold Txt.rpartition at h
    revert h
    cases Builtin.Str.lastOccurrence a b 0 a.length with
    | none => intro h; exact laid_parts I h
    | some i => intro h; exact laid_parts I h
def rCountS : V → List V → Hp → VK → Prop := fun x xs H Q => ∃ a b, x = .str a ∧ xs = [.str b] ∧ Q (.int (Txt.count a b)) H
theorem mt_countS : MtR X "str.count" rCountS := mt_count
def rZfill : V → List V → Hp → VK → Prop := fun x xs H Q => ∃ (a : Str) (i : Int), x = .str a ∧ xs = [.int i] ∧ PadOk i = true ∧ Q (.str (Txt.zfill a i)) H
theorem mt_zfillS : MtR X "str.zfill" rZfill := mt_zfill
theorem cl_intHex : CallR X (.type "int") rIntHex := call_int_hex
end
section
variable {K : PySem.W.Frag} {H : Hp} {Q : VK}
theorem w_rpart {x y : Str} (hy : (y.length == 0) = false) (hx : x.length ≤ sizeLine) (k : ∀ p H2, H p = none → Same H H2 → H2 p = some (.tup [.str (Txt.rpartition x y).1, .str (Txt.rpartition x y).2.1, .str (Txt.rpartition x y).2.2]) → Q (.ref p) H2) : rRpart (.str x) [.str y] H Q :=
  ⟨x, y, rfl, rfl, hy, hx, fun p n => k p _ n (same_new n) upd_same⟩
theorem w_countS {x y : Str} (q : Q (.int (Txt.count x y)) H) : rCountS (.str x) [.str y] H Q := ⟨x, y, rfl, rfl, q⟩
theorem w_zfill {x : Str} {i : Int} (h : PadOk i = true) (q : Q (.str (Txt.zfill x i)) H) : rZfill (.str x) [.int i] H Q := ⟨x, i, rfl, rfl, h, q⟩
theorem w_intHex {l : List Nat} (h0 : l ≠ []) (hl : l.length ≤ 640) (hx : ∀ c ∈ l, Hx.IsHex c) (q : Q (.int ((Hx.hexNum l : Nat) : Int)) H) : rIntHex [.str (S l), .int 16] H Q := ⟨l, rfl, h0, hl, hx, q⟩
theorem w_pop {l : Addr} {xs : List V} {y : V} (h : H l = some (.lst xs)) (hy : xs[xs.length - 1]? = some y) (k : ∀ H2, KB l H H2 → H2 l = some (.lst xs.dropLast) → Q y H2) : rPop (.ref l) [] H Q := ⟨l, xs, y, rfl, rfl, h, hy, k _ kb_upd upd_same⟩
theorem w_reverse {l : Addr} {xs : List V} (h : H l = some (.lst xs)) (k : ∀ H2, KB l H H2 → H2 l = some (.lst xs.reverse) → Q .non H2) : rReverse (.ref l) [] H Q := ⟨l, xs, rfl, rfl, h, k _ kb_upd upd_same⟩
/-- str(a number) -/
theorem w_strI {i : Int} (h : i.natAbs < 2 ^ 1919) (q : Q (.str (toString i)) H) : rStrI [.int i] H Q := ⟨i, rfl, PySem.Flt.log2_lt_of (by decide) (Nat.lt_of_lt_of_le h (Nat.pow_le_pow_right (by decide) (by decide))), q⟩
end
/-! ### rpartition by one sign -/
theorem at_one {x : Str} {c : Nat} {i : Nat} : StrLaws.At x ⟨#[c]⟩ x.length i ↔ x.cps.toList[i]? = some c := by
  rw [TL.at_iff (y := ⟨#[c]⟩) (by show ([c] : List Nat) ≠ []; simp)]
  show ((x.cps.toList.drop i).take 1 == [c]) = true ↔ _
  rw [beq_iff_eq]
  rcases Nat.lt_or_ge i x.cps.toList.length with h | h
  · rw [List.drop_eq_getElem_cons h, List.getElem?_eq_getElem h]
    simp
  · rw [List.drop_eq_nil_of_le h, List.getElem?_eq_none h]
    simp
theorem rpart_app {a b : List Nat} {c : Nat} (h : c ∉ b) : Txt.rpartition (S (a ++ c :: b)) ⟨#[c]⟩ = (S a, ⟨#[c]⟩, S b) := by
  have hA : ∀ k, a.length < k → ¬ StrLaws.At (S (a ++ c :: b)) ⟨#[c]⟩ (S (a ++ c :: b)).length k := fun k hk z => by
    rw [at_one, cps_S, List.getElem?_append_right (Nat.le_of_lt hk)] at z
    obtain ⟨m, hm⟩ : ∃ m, k - a.length = m + 1 := ⟨k - a.length - 1, by omega⟩
    rw [hm, List.getElem?_cons_succ] at z
    exact h (List.mem_of_getElem? z)
  have hB : StrLaws.At (S (a ++ c :: b)) ⟨#[c]⟩ (S (a ++ c :: b)).length a.length := by
    rw [at_one, cps_S]
    simp
  unfold Txt.rpartition
  rcases StrLaws.last_spec (S (a ++ c :: b)) ⟨#[c]⟩ with ⟨_, hn⟩ | ⟨i, e, hi, hn⟩
  · exact absurd hB (hn _)
  · have hia : i = a.length := by
      rcases Nat.lt_trichotomy i a.length with h1 | h1 | h1
      · exact absurd hB (hn _ h1)
      · exact h1
      · exact absurd hi (hA _ h1)
    subst hia
    rw [e]
    have e1 : Builtin.Str.strSub (S (a ++ c :: b)) 0 a.length = S a := str_ext (by
      show TL.tl _ = _
      rw [TL.tl_strSub]
      show ((a ++ c :: b).drop 0).take _ = a
      simp)
    have e2 : Builtin.Str.strSub (S (a ++ c :: b)) (a.length + 1) (S (a ++ c :: b)).length = S b := str_ext (by
      show TL.tl _ = _
      rw [TL.tl_strSub_end]
      show (a ++ c :: b).drop _ = b
      simp)
    show (_, _, Builtin.Str.strSub (S (a ++ c :: b)) (a.length + 1) (S (a ++ c :: b)).length) = _
    rw [e1, e2]
theorem rpart_none {a : List Nat} {c : Nat} (h : c ∉ a) : Txt.rpartition (S a) ⟨#[c]⟩ = (Str.empty, Str.empty, S a) := by
  unfold Txt.rpartition
  rcases StrLaws.last_spec (S a) ⟨#[c]⟩ with ⟨e, hn⟩ | ⟨i, e, hi, hn⟩
  · rw [e]
  · rw [at_one, cps_S] at hi
    exact absurd (List.mem_of_getElem? hi) h
theorem cnt_ge (c : Nat) : ∀ l : List Nat, 0 ≤ cnt c l
  | [] => Int.le_refl 0
  | n :: r => by
    rw [cnt_cons]
    have := cnt_ge c r
    split <;> omega
theorem cnt_mem {c : Nat} : ∀ {l : List Nat}, c ∈ l → 0 < cnt c l
  | n :: r, h => by
    rw [cnt_cons]
    have := cnt_ge c r
    rcases List.mem_cons.mp h with e | h
    · rw [if_pos e.symm]
      omega
    · have := cnt_mem h
      split <;> omega
/-! ### defs with defaults -/
/-- called by places: dvs are what is told by default behind them -/
structure FnD (P : Program) (w : World) (K : PySem.W.Frag) (mg : Str → Option Value) (base : Heap) (CX : CXT) (x : Str) (k : Nat) (ps : List Str) (dvs : List V) (sp : Sp) : Prop where
  ex : ∃ (f : Addr) (fd : FuncData) (ds : List Value), FnOk P w K mg base CX k f fd ps sp ∧ mg x = some (.ref f) ∧ PySem.W.keepIn K (.ref f) = true ∧ Binds K fd ps ds ∧ Vals dvs ds
/-- n by places, the others by the names ks -/
structure FnK (P : Program) (w : World) (K : PySem.W.Frag) (mg : Str → Option Value) (base : Heap) (CX : CXT) (x : Str) (k : Nat) (ps : List Str) (n : Nat) (ks : List Str) (gV : List V → List V → List V) (sp : Sp) : Prop where
  ex : ∃ (f : Addr) (fd : FuncData) (g : List Value → List Value → List Value), FnOk P w K mg base CX k f fd ps sp ∧ mg x = some (.ref f) ∧ PySem.W.keepIn K (.ref f) = true ∧ KBn K fd ps n ks g gV
section
variable {X : Cx}
theorem pe_fnd {CX : CXT} {E : XK} {x : Str} {k : Nat} {ps : List Str} {dvs : List V} {sp : Sp} {e : Expr} {es : List Expr} {t : TA} {p pos : Pos} (F : FnD X.prog X.w X.K X.mg X.base CX x k ps dvs sp) (hx : Passes CX X E) (hr : Room k X.A) (hg : Gl X x) (ha : PA X (e :: es) t)
    (hdb : (x == ("__debug__" : Str)) = false := by decide) (he : starEach (e :: es) X.env = (false, eval e X.env) :: starEach es X.env := by rfl) (hpl : (backTo pos (starEach es X.env)).any (·.1) = false := by rfl) :
    PE X (.Call (.Name x p) (e :: es) [] pos) (tCall sp dvs E t) := by
  obtain ⟨f, fd, ds, G, hm, hk, hb, hd⟩ := F.ex
  exact pe_call G hr hg hm hk hb hd hx ha hdb he hpl
theorem pe_fnk {CX : CXT} {E : XK} {x : Str} {k n : Nat} {ps ks : List Str} {gV : List V → List V → List V} {sp : Sp} {e : Expr} {es : List Expr} {kws : List Keyword} {t tk : TA} {p pos : Pos} (F : FnK X.prog X.w X.K X.mg X.base CX x k ps n ks gV sp) (hx : Passes CX X E) (hr : Room k X.A) (hg : Gl X x) (ha : PA X (e :: es) t) (hkw : PK X kws tk)
    (hall : (backToKw pos (keywordEach kws X.env)).all (·.1.isSome) = true := by rfl) (hks : (backToKw pos (keywordEach kws X.env)).filterMap (·.1) = ks := by rfl)
    (hdb : (x == ("__debug__" : Str)) = false := by decide) (he : starEach (e :: es) X.env = (false, eval e X.env) :: starEach es X.env := by rfl)
    (hpl : ((backTo pos (starEach (e :: es) X.env)).any (·.1) || (backToKw pos (keywordEach kws X.env)).any (·.1.isNone)) = false := by rfl) :
    PE X (.Call (.Name x p) (e :: es) kws pos) (tCallN n ks.length sp gV E t tk) := by
  obtain ⟨f, fd, g, G, hm, hk, hb⟩ := F.ex
  exact pe_callN G hr hg hm hk hb hx ha hkw hall hks hdb he hpl
end
section
variable {σ : L2.St} {H : Hp} {Q : VK}
theorem w_callD {sp : Sp} {dvs : List V} {tA : TA} {E : XK} (h : tA σ H fun vs H1 => sp (vs ++ dvs) H1 Q E) : tCall sp dvs E tA σ H Q := h
theorem w_callN {n m : Nat} {sp : Sp} {gV : List V → List V → List V} {E : XK} {t tk : TA} (h : t σ H fun vs H1 => tk σ H1 fun zs H2 => vs.length = n ∧ zs.length = m ∧ sp (gV vs zs) H2 Q E) : tCallN n m sp gV E t tk σ H Q := h
theorem w_nlen {xs ys : List V} {n m : Nat} {R : Prop} (h1 : xs.length = n) (h2 : ys.length = m) (q : R) : xs.length = n ∧ ys.length = m ∧ R := ⟨h1, h2, q⟩
end
end Bw

namespace Bw
open PySem PySem.Spec PyProof.Rows L2 LamX
/-! ### texts of whole files, plainly -/
theorem strOk_of {x : Str} (h : ∀ c ∈ x.cps.toList, c < 1114112) : PyData.strOk x = true := by
  unfold PyData.strOk
  rw [Array.all_eq_true']
  intro c hc
  exact decide_eq_true (h c (Array.mem_toList_iff.mpr hc))
/-- four figures -/
def zf (n : Nat) : List Nat := List.replicate (4 - (TL.numL n).length) 48 ++ TL.numL n
theorem num_S (n : Nat) : (Str.ofString (toString ((n : Nat) : Int))) = S (TL.numL n) := str_ext (TL.tl_num n)
theorem numL_len4 {n : Nat} (h : n ≤ 9999) : (TL.numL n).length ≤ 4 := TL.numL_len (by decide) (by omega)
theorem zf_len {n : Nat} (h : n ≤ 9999) : (zf n).length = 4 := by
  have := numL_len4 h
  unfold zf
  rw [List.length_append, List.length_replicate]
  omega
theorem zf_dig {n : Nat} : ∀ c ∈ zf n, 48 ≤ c ∧ c ≤ 57 := fun c hc => by
  unfold zf at hc
  rcases List.mem_append.mp hc with h | h
  · have := (List.mem_replicate.mp h).2
    omega
  · have := TL.numL_digits n c h
    omega
theorem zfill_num {n : Nat} : Txt.zfill (S (TL.numL n)) 4 = S (zf n) := by
  unfold Txt.zfill
  rw [len_S]
  split
  · rename_i h
    unfold zf
    rw [show 4 - (TL.numL n).length = 0 by omega]
    rfl
  · rename_i h
    unfold zfilled
    have key : Builtin.Str.padded (S (TL.numL n)) ((4 : Int).toNat - (TL.numL n).length) 0 48 = S (zf n) := str_ext (by
      show (Array.replicate _ 48 ++ (TL.numL n).toArray ++ Array.replicate 0 48).toList = zf n
      unfold zf
      simp)
    have hne := TL.numL_ne n
    have hd := TL.numL_digits n
    generalize hl : TL.numL n = l at *
    cases l with
    | nil => exact absurd rfl hne
    | cons c r =>
      have hc := hd c List.mem_cons_self
      have e : (S (c :: r)).cps[0]? = some c := rfl
      rw [e]
      split
      · rename_i z
        cases z
        exact absurd hc (by decide)
      · rename_i z
        cases z
        exact absurd hc (by decide)
      · exact key
theorem mul_zero_ok {n : Int} (h : n ≤ 4) (h0 : -10 ≤ n) : MulOk "0" n := by
  have e : ("0" : Str).length = 1 := rfl
  have hn : n = -10 ∨ n = -9 ∨ n = -8 ∨ n = -7 ∨ n = -6 ∨ n = -5 ∨ n = -4 ∨ n = -3 ∨ n = -2 ∨ n = -1 ∨ n = 0 ∨ n = 1 ∨ n = 2 ∨ n = 3 ∨ n = 4 := by omega
  rcases hn with rfl | rfl | rfl | rfl | rfl | rfl | rfl | rfl | rfl | rfl | rfl | rfl | rfl | rfl | rfl <;> (unfold MulOk; decide +kernel)
theorem mul_zero {k : Nat} (h : k ≤ 4) : Txt.mul "0" (k : Int) = S (List.replicate k 48) := by
  have hk : k = 0 ∨ k = 1 ∨ k = 2 ∨ k = 3 ∨ k = 4 := by omega
  rcases hk with rfl | rfl | rfl | rfl | rfl <;> decide +kernel
/-- rows with their ends -/
def sgn (rows : List Str) : List Nat := (rows.map fun r => r.cps.toList ++ [10]).flatten
theorem join_lines (h : Str) : ∀ rows : List Str, (Str.join ("\n" : Str) (h :: rows)).cps.toList ++ [10] = h.cps.toList ++ [10] ++ sgn rows
  | [] => by
    show h.cps.toList ++ [10] = _
    simp [sgn]
  | r :: rs => by
    have e : (Str.join ("\n" : Str) (h :: r :: rs)) = h ++ ("\n" : Str) ++ Str.join ("\n" : Str) (r :: rs) := rfl
    rw [e, cps_append, cps_append, List.append_assoc, join_lines r rs]
    have e2 : ("\n" : Str).cps.toList = [10] := rfl
    rw [e2]
    simp [sgn]
theorem sgn_len {rows : List Str} {m : Nat} (h : ∀ r ∈ rows, r.length ≤ m) : (sgn rows).length ≤ rows.length * (m + 1) := by
  induction rows with
  | nil => simp [sgn]
  | cons r rs ih =>
    have h1 := ih (fun x hx => h x (List.mem_cons_of_mem _ hx))
    have h2 := h r List.mem_cons_self
    have e : sgn (r :: rs) = r.cps.toList ++ [10] ++ sgn rs := by simp [sgn]
    rw [e, List.length_append, List.length_append, len_cps, List.length_cons (a := r), Nat.add_mul]
    simp
    omega
/-- signs ended by line feeds, split -/
theorem split_lines {hd : List Nat} {rows : List Str} (h0 : 10 ∉ hd) (hr : ∀ r ∈ rows, 10 ∉ r.cps.toList) : Txt.split (S (hd ++ [10] ++ sgn rows)) "\n" = S hd :: (rows ++ [("" : Str)]) := by
  have e : S (hd ++ [10] ++ sgn rows) = Txt.join ("\n" : Str) (S hd :: (rows ++ [("" : Str)])) := by
    refine str_ext ?_
    rw [txt_join, cps_S]
    have h1 : ∀ (a : Str) (rs : List Str), (Str.join ("\n" : Str) (a :: (rs ++ [("" : Str)]))).cps.toList = a.cps.toList ++ [10] ++ sgn rs := by
      intro a rs
      induction rs generalizing a with
      | nil =>
        show (a ++ ("\n" : Str) ++ ("" : Str)).cps.toList = _
        rw [cps_append, cps_append]
        show a.cps.toList ++ [10] ++ [] = _
        simp [sgn]
      | cons r rs ih =>
        show (a ++ ("\n" : Str) ++ Str.join ("\n" : Str) (r :: (rs ++ [("" : Str)]))).cps.toList = _
        rw [cps_append, cps_append, ih r]
        show a.cps.toList ++ [10] ++ _ = _
        simp [sgn]
    rw [h1]
    rfl
  rw [e]
  refine TL.split_join (s := 10) (S := []) rfl (by decide +kernel) (by simp) (fun p hp z => ?_)
  rcases List.mem_cons.mp hp with rfl | hp
  · exact h0 z
  · rcases List.mem_append.mp hp with hp | hp
    · exact hr p hp z
    · rw [List.mem_singleton.mp hp] at z
      exact absurd z (by show ¬ 10 ∈ ([] : List Nat); simp)
theorem sum_le {c : Nat} : ∀ {l : List Nat}, (∀ x ∈ l, x ≤ c) → l.sum ≤ l.length * c
  | [], _ => by simp
  | y :: r, h => by
    have h1 := h y List.mem_cons_self
    have h2 := sum_le (l := r) (fun x hx => h x (List.mem_cons_of_mem _ hx))
    simp only [List.sum_cons, List.length_cons, Nat.add_mul, Nat.one_mul]
    omega
theorem join_empty : ∀ rows : List Str, (Str.join ("" : Str) rows).cps.toList = (rows.map fun r => r.cps.toList).flatten
  | [] => rfl
  | [r] => by show r.cps.toList = _; simp
  | r :: s :: rs => by
    show (r ++ ("" : Str) ++ Str.join ("" : Str) (s :: rs)).cps.toList = _
    rw [cps_append, cps_append, join_empty (s :: rs)]
    show r.cps.toList ++ [] ++ _ = _
    simp
theorem sum_ones : ∀ cs : List Nat, ((cs.map fun c => (⟨#[c]⟩ : Str)).map (·.length)).sum = cs.length
  | [] => rfl
  | c :: r => by
    rw [List.map_cons, List.map_cons, List.sum_cons, sum_ones r, List.length_cons]
    show 1 + _ = _
    omega
theorem join_ones (cs : List Nat) : (Txt.join "" (cs.map fun c => (⟨#[c]⟩ : Str))).cps.toList = cs := by
  rw [txt_join, join_empty, List.map_map]
  induction cs with
  | nil => rfl
  | cons c r ih =>
    rw [List.map_cons, List.flatten_cons, ih]
    rfl
end Bw

open PySem PySem.Spec L2 Bw
local macro_rules | `(tactic| wtm_at "look") => `(tactic| first | assumption | with_reducible exact upd_same | ((with_reducible refine' same_at ?ws ?wt); (case ws => assumption); (case wt => wtm_at "look")) | ((with_reducible refine' kb_at ?ws ?wt ?wn); (case ws => assumption); (case wt => wtm_at "look"); (case wn => wtm_at "ne")))
local macro_rules | `(tactic| wtm_at "ne") => `(tactic| first | assumption | ((with_reducible refine Ne.symm ?ws); (case ws => assumption)) | ((with_reducible refine' ne_of_none ?wa ?wb); (case wb => assumption); (case wa => wtm_at "look")) | ((with_reducible refine' Ne.symm (ne_of_none ?wa ?wb)); (case wb => assumption); (case wa => wtm_at "look")))
local macro_rules | `(tactic| wtm_at "seq") => `(tactic| first | assumption | ((with_reducible refine' SqL.of ?ws); (case ws => wtm_at "look")) | ((with_reducible refine' SqT.of ?ws); (case ws => wtm_at "look")) | ((with_reducible refine' Same.seq ?ws ?wt); (case ws => assumption); (case wt => wtm_at "seq")) | ((with_reducible refine' same_t ?ws ?wt); (case ws => assumption); (case wt => wtm_at "seq")))
local macro_rules | `(tactic| wtm_at "ix") => `(tactic| first | assumption | exact atI_nat (j := 0) rfl | exact atI_nat (j := 1) rfl | exact atI_nat (j := 2) rfl | exact atI_nat (j := 3) rfl | exact atI_nat (j := 4) rfl)
local macro_rules | `(tactic| wtm_at "len") => `(tactic| first | (refine sz ?_; simp only [List.length_cons, List.length_nil]; omega) | (refine sz ?_; omega))
local macro_rules | `(tactic| wtm_at "fld") => `(tactic| first | assumption | exact lk_hit | ((with_reducible refine' lk_miss ?wa ?wb); (case wa => decide +kernel); (case wb => wtm_at "fld")) | rfl)
local macro_rules | `(tactic| wtm_at "tyx") => `(tactic| first | assumption | with_reducible exact tyx_int | with_reducible exact tyx_bl | with_reducible exact tyx_str | with_reducible exact tyx_non | ((with_reducible refine' tyx_lst ?wa); (case wa => wtm_at "look")) | ((with_reducible refine' tyx_tup ?wa); (case wa => wtm_at "look")))
local macro_rules | `(tactic| wtm_at "ixn") => `(tactic| first | assumption | exact Evl.ixN_nat (j := 0) (by simp) | exact Evl.ixN_nat (j := 1) (by simp) | exact Evl.ixN_nat (j := 2) (by simp) | rfl)
local macro_rules | `(tactic| wtm_at "cond") => `(tactic| first | assumption | (show (0 : Int) < _; omega) | exact mulL (by omega) | exact mulR (by omega) | exact divU (b := 64) (by omega) (by omega) (by decide) (by decide) | exact powU (a := 200) (by omega) (by decide) (by decide) (by decide))
local macro_rules | `(tactic| wtm_at "xd") => `(tactic| first | assumption | exact xdOk_none | ((with_reducible refine' XdOk.same ?wx ?ws); (case ws => assumption); (case wx => wtm_at "xd")) | ((with_reducible refine' xdOk_at ?wa); (case wa => wtm_at "look")))
local macro_rules | `(tactic| wtm_at "new") => `(tactic| (intro pN nN; generalize eN : upd _ pN _ = HN; have sN := same_gen nN eN; have hN := at_gen eN; clear eN))
local macro_rules | `(tactic| wtm_at "mut") => `(tactic| (generalize eM : upd _ _ _ = HM; have kM := kb_gen eM; have hM := at_gen eM; clear eM; (repeat (first | rw [pf_hit] at hM | rw [pf_nil] at hM | ((rw [pf_miss] at hM); rotate_left; decide +kernel)))))
local macro_rules | `(tactic| wtm_at "make") => `(tactic| (intro pR dR nR ndR neR; generalize eR : upd (upd _ dR _) pR _ = HR; have sR := same_make nR ndR eR; have hR := at_gen eR; clear eR neR))
local macro_rules | `(tactic| wtm_at "shp") => `(tactic| simp [SeqAt.shaped, PyData.canLay0, PyData.canLayAll0, PyData.depth, PyData.depthAll])
local macro_rules | `(tactic| wtm_at "kit") => `(tactic| first | exact kit_int_int | exact kit_int_bool | exact kit_int_str | exact kit_int_list | exact kit_int_tuple | exact kit_int_dict | exact kit_bool_int | exact kit_bool_bool | exact kit_bool_str | exact kit_bool_list | exact kit_bool_tuple | exact kit_bool_dict | exact kit_str_int | exact kit_str_bool | exact kit_str_str | exact kit_str_list | exact kit_str_tuple | exact kit_str_dict | exact kit_list_int | exact kit_list_bool | exact kit_list_str | exact kit_list_list | exact kit_list_tuple | exact kit_list_dict | exact kit_tuple_int | exact kit_tuple_bool | exact kit_tuple_str | exact kit_tuple_list | exact kit_tuple_tuple | exact kit_tuple_dict | exact kit_NoneType_int | exact kit_NoneType_bool | exact kit_NoneType_str | exact kit_NoneType_list | exact kit_NoneType_tuple | exact kit_NoneType_dict | exact kit_dict_int | exact kit_dict_bool | exact kit_dict_str | exact kit_dict_list | exact kit_dict_tuple | exact kit_dict_dict)
local macro_rules | `(tactic| wtm_at "w1") => `(tactic| first
  | with_reducible refine w_seq ?_
  | with_reducible refine w_next ?_
  | with_reducible refine w_set ?_
  | with_reducible refine w_asg ?_
  | with_reducible refine w_par ?_
  | with_reducible refine w_ret ?_
  | with_reducible refine w_drop ?_
  | with_reducible refine w_if ?_
  | with_reducible refine w_ifE ?_
  | ((with_reducible refine' w_var ?wv ?_); (case wv => rfl))
  | with_reducible refine w_c ?_
  | with_reducible refine w_op ?_
  | with_reducible refine w_un ?_
  | with_reducible refine w_I0 ?_
  | with_reducible refine w_U ?_
  | with_reducible refine w_pow10_5 ?_
  | with_reducible refine w_pow10_8 ?_
  | with_reducible refine w_pow10_9 ?_
  | with_reducible refine w_pow10_10 ?_
  | with_reducible refine w_pow10_11 ?_
  | with_reducible refine w_pow10_12 ?_
  | with_reducible refine w_pow10_18 ?_
  | ((with_reducible refine w_I ?wc ?_); (case' wc => try wtm_at "cond"))
  | ((with_reducible refine' w_setL ?wh ?wj ?_); (case wh => wtm_at "look"); (case wj => wtm_at "ixn"); intro hS kS eS; (try dsimp only [List.set_cons_zero, List.set_cons_succ] at eS))
  | ((with_reducible refine w_eq ?wh ?_); (case wh => rfl))
  | ((with_reducible refine w_ne ?wh ?_); (case wh => rfl))
  | with_reducible refine w_is0 ?_
  | with_reducible refine w_isnot0 ?_
  | with_reducible refine w_test ?_
  | with_reducible refine w_tB ?_
  | with_reducible refine w_bl ?_
  | ((with_reducible refine' w_isP ?wa ?wb ?wc ?_); (case wa => assumption); (case wb => assumption); (case wc => wtm_at "xd"))
  | ((with_reducible refine' w_isPt ?wa ?wb ?wc ?_); (case wa => assumption); (case wb => assumption); (case wc => wtm_at "xd"))
  | ((with_reducible refine' w_isPT ?wa ?wt ?wb ?wc ?_); (case wa => assumption); (case wt => wtm_at "look"); (case wb => assumption); (case wc => wtm_at "xd"))
  | with_reducible refine w_bmL ?_
  | with_reducible refine w_bm0 ?_
  | ((with_reducible refine' w_tyL ?wh ?_); (case wh => wtm_at "seq"))
  | with_reducible refine w_callP ?_
  | with_reducible refine w_lcE ?_
  | with_reducible refine w_iStr ?_
  | with_reducible refine w_strE ?_
  | with_reducible refine w_iEnum ?_
  | ((with_reducible refine' w_enum ?wh ?_); (case wh => wtm_at "seq"))
  | with_reducible refine w_yes ?_
  | with_reducible refine w_m1 ?_
  | with_reducible refine w_sl ?_
  | with_reducible refine w_noPart ?_
  | with_reducible refine w_part ?_
  | with_reducible refine w_intE ?_
  | ((with_reducible refine' w_slS ?wh ?_); (case wh => wtm_at "len"))
  | ((with_reducible refine' w_slL ?wh ?_); (case wh => wtm_at "seq"); intro pC HC nC sC hC)
  | with_reducible refine w_m0 ?_
  | with_reducible refine w_isS ?_
  | with_reducible refine w_inS ?_
  | with_reducible refine w_notInS ?_
  | with_reducible refine w_xmk ?_
  | with_reducible refine w_xv ?_
  | with_reducible refine w_xv0 ?_
  | ((with_reducible refine' w_aug ?wv ?_); (case wv => rfl))
  | with_reducible refine w_ipI ?_
  | with_reducible refine w_rAdd ?_
  | with_reducible refine w_faug ?_
  | ((with_reducible refine' w_faug1 ?wh ?wc ?wn ?wl ?_); (case wh => wtm_at "look"); (case wc => assumption); (case wn => assumption); (case wl => wtm_at "fld"))
  | ((with_reducible refine' w_faug2 ?wh ?wl ?_); (case wh => wtm_at "look"); (case wl => (simp only [List.length_cons, List.length_nil]; omega)); wtm_at "mut")
  | with_reducible refine w_xfE ?_
  | ((with_reducible refine' w_xf ?wa ?wn ?wh ?wl ?_); (case wa => assumption); (case wn => assumption); (case wh => wtm_at "look"); (case wl => wtm_at "fld"))
  | ((with_reducible refine' w_cat ?wh ?wi ?wl ?_); (case wh => wtm_at "look"); (case wi => wtm_at "look"); (case wl => wtm_at "len"); intro pC HC nC sC hC; (try dsimp only [List.cons_append, List.nil_append] at hC))
  | with_reducible refine w_and ?_
  | with_reducible refine w_or ?_
  | with_reducible refine w_not ?_
  | with_reducible refine w_andV ?_
  | with_reducible refine w_orV ?_
  | with_reducible refine w_notV ?_
  | with_reducible refine w_chain ?_
  | with_reducible refine w_cons ?_
  | with_reducible refine w_nil ?_
  | with_reducible refine w_call ?_
  | with_reducible refine w_cb ?_
  | with_reducible refine w_tupE ?_
  | with_reducible refine w_lstE ?_
  | with_reducible refine w_abs ?_
  | with_reducible refine w_max ?_
  | with_reducible refine w_min ?_
  | with_reducible refine w_intI ?_
  | with_reducible refine w_intB ?_
  | ((with_reducible refine' w_lenL ?wh ?_); (case wh => wtm_at "seq"))
  | ((with_reducible refine' w_lenS ?wh ?_); (case wh => wtm_at "len"))
  | ((with_reducible refine' w_ixL ?wh ?wa ?_); (case wh => wtm_at "seq"); (case wa => wtm_at "ix"))
  | ((with_reducible refine' w_ixT ?wh ?wa ?_); (case wh => wtm_at "seq"); (case wa => wtm_at "ix"))
  | with_reducible refine w_gname ?_
  | with_reducible refine w_gsub ?_
  | with_reducible refine w_fldE ?_
  | ((with_reducible refine' w_fld ?wh ?wc ?wn ?wl ?_); (case wh => wtm_at "look"); (case wc => assumption); (case wn => assumption); (case wl => wtm_at "fld"))
  | with_reducible refine w_two ?_
  | with_reducible refine w_forE ?_
  | with_reducible refine w_iTup ?_
  | with_reducible refine w_iList ?_
  | with_reducible refine w_iRng1 ?_
  | with_reducible refine w_iRng2 ?_
  | ((with_reducible refine' w_itT ?wh ?_); (case wh => wtm_at "seq"))
  | ((with_reducible refine' w_itL ?wh ?_); (case wh => wtm_at "seq"))
  | with_reducible refine w_methE ?_
  | ((with_reducible refine' w_meth ?wh ?wl ?_); (case wh => wtm_at "look"); (case wl => wtm_at "fld"))
  | with_reducible refine w_makeE ?_
  | ((with_reducible refine makeG ?_); wtm_at "make")
  | ((with_reducible refine' w_isiB ?wt ?wk ?_); (case wt => wtm_at "tyx"); (case wk => wtm_at "kit"))
  | with_reducible refine w_sfld ?_
  | with_reducible refine w_gfldE ?_
  | ((with_reducible refine' w_st ?wh ?wc ?wn ?wl ?_); (case wh => wtm_at "look"); (case wc => assumption); (case wn => assumption); (case wl => (simp only [List.length_cons, List.length_nil]; omega)); wtm_at "mut")
  | ((with_reducible refine' w_gtup ?wh ?wn ?_); (case wh => wtm_at "seq"); (case wn => rfl))
  | with_reducible refine w_gcons ?_
  | with_reducible refine w_gnil ?_
  | with_reducible refine iteT ?_
  | with_reducible refine iteF ?_
  | ((with_reducible refine' iteT' ?wb ?_); (case wb => rfl))
  | ((with_reducible refine' iteF' ?wb ?_); (case wb => rfl))
  | ((with_reducible refine newL ?wl ?_); (case wl => wtm_at "len"); wtm_at "new"))
local macro_rules | `(tactic| wtm_at "w0") => `(tactic| dsimp only [cxOf, L2H.cxH, Cx.nox, Cx.wish, L2.start, List.map_cons, List.map_nil, List.length_cons, List.length_nil, List.cons_append, List.nil_append, List.replicate, Nat.reduceAdd, Nat.reduceSub])
local macro_rules | `(tactic| wtm_at "wp") => `(tactic| repeat (wtm_at "w1"))

namespace K64
def topS (i : Nat) : Stmt := PySem.Challenge.pw_blocksearch_k64_whole_texts_told.main.body.getD i (.Pass ⟨0, 0, 0, 0⟩)
structure Txt (K : PySem.W.Frag) (mg : Str → Option Value) : Prop where
  c_CHECK : ∃ t, mg "CHECK" = some (.int 65521 t)
  c_FIGURES : ∃ t, mg "FIGURES" = some (.str "0123456789abcdef" t)
  c_MOST_ROWS : ∃ t, mg "MOST_ROWS" = some (.int 9999 t)
  c_MOST_FIGURES : ∃ t, mg "MOST_FIGURES" = some (.int 4 t)
  n_isinstance : mg "isinstance" = none
  n_bool : mg "bool" = none
  n_int : mg "int" = none
  n_str : mg "str" = none
  n_list : mg "list" = none
  n_len : mg "len" = none
  n_max : mg "max" = none
  n_min : mg "min" = none
  n_range : mg "range" = none
  n_abs : mg "abs" = none
  n_ord : mg "ord" = none
abbrev s_law_purse : Stmt := topS 12
theorem sc_law_purse : FnScope ["_law_script", "_law_at", "_law_cell", "_law_far"] ["_law_script", "_law_at"] (defScope s_law_purse) := ⟨rfl, rfl, rfl, by decide +kernel, rfl, by decide +kernel, by decide +kernel⟩
abbrev s_law_take : Stmt := topS 13
theorem sc_law_take : FnScope ["_law_purse_here", "_law_many", "_law_digit", "_law_turn", "_law_one", "_law_other"] ["_law_purse_here", "_law_many"] (defScope s_law_take) := ⟨rfl, rfl, rfl, by decide +kernel, rfl, by decide +kernel, by decide +kernel⟩
abbrev s_check_of : Stmt := topS 7
theorem sc_check_of : FnScope ["rows", "told", "row", "sign"] ["rows"] (defScope s_check_of) := ⟨rfl, rfl, rfl, by decide +kernel, rfl, by decide +kernel, by decide +kernel⟩
abbrev s_check_text : Stmt := topS 8
theorem sc_check_text : FnScope ["check", "signs", "turn"] ["check"] (defScope s_check_text) := ⟨rfl, rfl, rfl, by decide +kernel, rfl, by decide +kernel, by decide +kernel⟩
section
variable {P : Program} {w : World} {K : PySem.W.Frag} {mg : Str → Option Value} {base : Heap}
/-- a purse at p: three numbers -/
def Pool (H : Hp) (p : Addr) (n : Nat) : Prop := ∃ a b c : Int, H p = some (.lst [.int a, .int b, .int c]) ∧ 0 ≤ a ∧ 0 ≤ b ∧ b < 10 ^ 30 ∧ 0 ≤ c ∧ c ≤ n
theorem Pool.mono {H H' : Hp} {p : Addr} {n n' : Nat} (h : Pool H p n) (e : Same H H') (hn : n ≤ n') : Pool H' p n' := by
  obtain ⟨a, b, c, h, h1, h2, h3, h4, h5⟩ := h
  exact ⟨a, b, c, e _ _ h, h1, h2, h3, h4, by omega⟩
theorem Pool.at {H : Hp} {p : Addr} {n : Nat} (h : Pool H p n) : ∃ xs, H p = some (.lst xs) := by
  obtain ⟨a, b, c, h, _⟩ := h
  exact ⟨_, h⟩
theorem Pool.kb {p D : Addr} {H4 H5 : Hp} {n : Nat} (h : Pool H4 p n) (b : KB D H4 H5) (ne : p ≠ D) : Pool H5 p n := by
  obtain ⟨x, y, z, h, r⟩ := h
  exact ⟨x, y, z, b _ _ h ne, r⟩
def spTake : Sp := fun vs H Q _ => ∃ (p : Addr) (m : Int) (n : Nat), vs = [.ref p, .int m] ∧ Pool H p n ∧ n ≤ 10 ^ 9 ∧ 0 < m ∧ m ≤ 10 ^ 12 ∧
  ∀ (d : Int) H', 0 ≤ d → d < m → KB p H H' → Pool H' p (n + 1) → Q (.int d) H'
theorem ok_take {f : Addr} {fd : FuncData} (F : Fun K "_law_take" "_law_take" s_law_take f fd) : FnOk P w K mg base CX0 1 f fd ["_law_purse_here", "_law_many"] spTake := by
  refine F.ok sc_law_take (fun vs H Q E h => ?_) (fun cdv A outer s H vs Q E hr h => ?_)
  · obtain ⟨p, m, n, rfl, _⟩ := h
    rfl
  · obtain ⟨p, m, n, rfl, ⟨a, b, c, hp, ha, hb, hb2, hc, hc2⟩, hn, hm, hm2, k⟩ := h
    have hb2' : b < 1000000000000000000000000000000 := hb2
    have hn' : n ≤ 1000000000 := hn
    have hm2' : m ≤ 1000000000000 := hm2
    have hcc : (c + 1) * (c + 1) ≤ 1000000001 * 1000000001 := Int.mul_le_mul (by omega) (by omega) (by omega) (by omega)
    have hcc0 : 0 ≤ (c + 1) * (c + 1) := Int.mul_nonneg (by omega) (by omega)
    refine ⟨_, (pss_cons (ps_if (pt_cmpR op_gt (pe_ix ix_list (pv 0) pe_int (fun _ _ => rfl)) pe_int (nomark _))
 (pss_cons (ps_set (i := 2) sc_law_take.nd rfl (.inl rfl) (pe_op op_mod (pe_ix ix_list (pv 0) pe_int (fun _ _ => rfl)) (pv 1)))
 (pss_cons (ps_asg (pe_op op_fdivU (pe_ix ix_list (pv 0) pe_int (fun _ _ => rfl)) (pv 1)) (pg_sub (pv 0) pe_int set_list))
 (pss_one (ps_ret (pv 2)))))
 pss_nil)
 (pss_cons (ps_asg (pe_op op_add (pe_ix ix_list (pv 0) pe_int (fun _ _ => rfl)) pe_int) (pg_sub (pv 0) pe_int set_list))
 (pss_cons (ps_set (i := 3) sc_law_take.nd rfl (.inl rfl) (pe_ix ix_list (pv 0) pe_int (fun _ _ => rfl)))
 (pss_cons (ps_set (i := 4) sc_law_take.nd rfl (.inl rfl) (pe_op op_mod (pe_op op_powU (pe_op op_add (pe_op op_add (pe_ix ix_list (pv 0) pe_int (fun _ _ => rfl)) (pe_op op_mulU (pe_op op_mulU pe_int (pv 3)) (pv 3))) pe_int) pe_int) pe_int))
 (pss_cons (ps_set (i := 5) sc_law_take.nd rfl (.inl rfl) (pe_op op_mod (pe_op op_powU (pe_op op_add (pe_op op_mulU (pv 4) (pe_op op_add (pe_op op_mulU pe_int (pv 3)) pe_int)) (pv 3)) pe_int) pe_int))
 (pss_one (ps_ret (pe_op op_mod (pe_op op_fdivU (pe_op op_add (pe_op op_mulU (pv 4) pe_int) (pv 5)) pe_int) (pv 1))))))))), ?_⟩
    wtm_at "w0"
    wtm_at "wp"
    refine w_dec (fun h0 => ?_) (fun h0 => ?_)
    · wtm_at "wp"
      rename_i H1 k1 e1
      refine k _ _ (Int.emod_nonneg _ (by omega)) (Int.emod_lt_of_pos _ hm) k1 ⟨_, _, _, e1, ?_, hb, hb2, hc, by omega⟩
      rw [Int.fdiv_eq_ediv_of_nonneg _ (Int.le_of_lt hm)]
      exact Int.ediv_nonneg ha (Int.le_of_lt hm)
    · wtm_at "wp"
      · refine powU (a := 200) ?_ (by decide) (by decide) (by decide)
        rw [Int.mul_assoc]
        omega
      rename_i H1 k1 e1
      generalize (b + 48271 * (c + 1) * (c + 1) + 1) ^ Int.toNat 5 = x3
      have o1 := Int.emod_nonneg x3 (show (2147483647 : Int) ≠ 0 by decide)
      have o2 := Int.emod_lt_of_pos x3 (show (0 : Int) < 2147483647 by decide)
      iterate 4 wtm_at "w1"
      generalize x3 % 2147483647 = one at o1 o2 ⊢
      have hoo : one * (2 * (c + 1) + 30011) ≤ 2147483647 * 3000000000 := Int.mul_le_mul (by omega) (by omega) (by omega) (by omega)
      have hoo0 : 0 ≤ one * (2 * (c + 1) + 30011) := Int.mul_nonneg (by omega) (by omega)
      wtm_at "wp"
      exact k _ _ (Int.emod_nonneg _ (by omega)) (Int.emod_lt_of_pos _ hm) k1 ⟨_, _, _, e1, ha, hb, hb2, by omega, by omega⟩
def spPool (K : PySem.W.Frag) : Sp := fun vs H Q _ => ∃ (a : Addr) (ns : List Int) (j : Nat), vs = [.ref a, .int j] ∧ SqL K H a (ns.map V.int) ∧ j ≤ 63 ∧
  ∀ p H', H p = none → Same H H' → Pool H' p 0 → Q (.ref p) H'
theorem pool_num {c : Int} : 0 ≤ c % 2147483647 ∧ c % 2147483647 < 10 ^ 30 := by
  have h1 := Int.emod_nonneg c (show (2147483647 : Int) ≠ 0 by decide)
  have h2 := Int.emod_lt_of_pos c (show (0 : Int) < 2147483647 by decide)
  constructor <;> omega
theorem ok_pool {f : Addr} {fd : FuncData} (F : Fun K "_law_purse" "_law_purse" s_law_purse f fd) (T : Txt K mg) : FnOk P w K mg base CX0 1 f fd ["_law_script", "_law_at"] (spPool K) := by
  refine F.ok sc_law_purse (fun vs H Q E h => ?_) (fun cdv A outer s H vs Q E hr h => ?_)
  · obtain ⟨a, ns, j, rfl, _⟩ := h
    rfl
  · obtain ⟨a, ns, j, rfl, hS, hj, k⟩ := h
    refine ⟨_, (pss_cons (ps_set (i := 2) sc_law_purse.nd rfl (.inl rfl) pe_int)
 (pss_cons (ps_if (pt_cmpR op_lt (pv 1) (pe_callB cl_len (by rfl) T.n_len PySem.boot_len (pa_cons (pv 0) pa_nil)) (nomark _))
 (pss_one (ps_set (i := 2) sc_law_purse.nd rfl (.inl rfl) (pe_ix ix_list (pv 0) (pv 1) (fun _ _ => rfl))))
 pss_nil)
 (pss_cons (ps_set (i := 3) sc_law_purse.nd rfl (.inl rfl) (pe_callB cl_abs (by rfl) T.n_abs PyProof.Rows.boot_abs (pa_cons (pv 2) pa_nil)))
 (pss_one (ps_ret (pe_lst (pa_cons (pe_op op_mulU (pv 3) (pe_callTy cl_int (by rfl) T.n_int PyProof.Rows.boot_int (pa_cons (pe_cmpR op_ge (pv 3) (pe_op op_powU pe_int pe_int) (nomark _)) pa_nil))) (pa_cons (pe_op op_mod (pe_op op_add (pe_op op_add (pe_op op_mod (pv 2) pe_int) (pe_op op_mulU pe_int (pv 1))) pe_int) pe_int) (pa_cons pe_int pa_nil))))))))), ?_⟩
    wtm_at "w0"
    wtm_at "wp"
    refine w_dec (fun h0 => ?_) (fun h0 => ?_)
    · have hl : j < ns.length := by
        rw [List.length_map] at h0
        omega
      have hx : atI (ns.map V.int) (j : Int) = some (.int ns[j]) := atI_nat (by rw [List.getElem?_map, List.getElem?_eq_getElem hl]; rfl)
      wtm_at "wp"
      rename_i p np H1 s1 hp
      exact k _ _ np s1 ⟨_, _, _, hp, Int.mul_nonneg (by omega) (by split <;> omega), pool_num.1, pool_num.2, by omega, by omega⟩
    · wtm_at "wp"
      rename_i p np H1 s1 hp
      exact k _ _ np s1 ⟨_, _, _, hp, Int.mul_nonneg (by omega) (by split <;> omega), pool_num.1, pool_num.2, by omega, by omega⟩
/-- the check of some signs -/
def chk (a : Nat) (cs : List Nat) : Nat := cs.foldl (fun t c => (t * 31 + c) % 65521) a
def spCheck (K : PySem.W.Frag) : Sp := fun vs H Q _ => ∃ (a : Addr) (rows : List Str), vs = [.ref a] ∧ SqL K H a (rows.map V.str) ∧ (∀ r ∈ rows, r.length ≤ 1000) ∧ Q (.int (chk 1 (sgn rows))) H
theorem ok_check {f : Addr} {fd : FuncData} (F : Fun K "check_of" "check_of" s_check_of f fd) (T : Txt K mg) : FnOk P w K mg base CX0 1 f fd ["rows"] (spCheck K) := by
  refine F.ok sc_check_of (fun vs H Q E h => ?_) (fun cdv A outer s H vs Q E hr h => ?_)
  · obtain ⟨a, rows, rfl, _⟩ := h
    rfl
  · obtain ⟨a, rows, rfl, hS, hrl, k⟩ := h
    refine ⟨_, (pss_cons (ps_set (i := 1) sc_check_of.nd rfl (.inl rfl) pe_int)
 (pss_cons (ps_for PassesOwn.never rfl (pi_list (pv 0)) (pg_name (i := 2) sc_check_of.nd rfl (.inl rfl))
 (pss_one (ps_for PassesOwn.never rfl (pi_str (pe_op op_addS (pv 2) pe_str)) (pg_name (i := 3) sc_check_of.nd rfl (.inl rfl))
 (pss_cons (ps_aug (i := 1) sc_check_of.nd rfl (.inl rfl) pe_int ip_mulU)
 (pss_cons (ps_aug (i := 1) sc_check_of.nd rfl (.inl rfl) (pe_callB cl_ord (by rfl) T.n_ord PyProof.Rows.boot_ord (pa_cons (pv 3) pa_nil)) ip_add)
 (pss_one (ps_aug (i := 1) sc_check_of.nd rfl (.inl rfl) (pe_gint T.c_CHECK rfl) ip_modU)))))))
 (pss_one (ps_ret (pv 1))))), ?_⟩
    wtm_at "w0"
    wtm_at "wp"
    refine for_fin (fin_list (xs := rows.map V.str)) (fun i σ H' => H' = H ∧ ∃ (v2 v3 : Option V), σ = [some (.ref a), some (.int (chk 1 (sgn (rows.take i)))), v2, v3]) ⟨rfl, _, _, rfl⟩ (fun i σ H' _ h => by rw [h.1]; exact hS) ?_ ?_
    · rintro i x σ H1 H1' hi ⟨rfl, v2, v3, rfl⟩ ⟨rfl, hx⟩
      rw [List.getElem?_map] at hx
      obtain ⟨r, hr1, rfl⟩ := Option.map_eq_some_iff.mp hx
      have hrl1 := hrl r (List.mem_of_getElem? hr1)
      wtm_at "wp"
      have hl1 : ("\n" : Str).length = 1 := rfl
      refine w_addS (sz (by omega)) ?_
      refine ⟨_, rfl, ?_⟩
      have ecs : (r ++ ("\n" : Str)).cps.toList = r.cps.toList ++ [10] := cps_append r "\n"
      generalize hg : r ++ ("\n" : Str) = z at *
      refine for_fin (fin_str (x := z)) (fun j σ H' => H' = H1' ∧ ∃ (v3 : Option V), σ = [some (.ref a), some (.int (chk (chk 1 (sgn (rows.take i))) (z.cps.toList.take j))), some (.str r), v3]) ⟨rfl, _, rfl⟩ (fun _ _ _ _ _ => trivial) ?_ ?_
      · rintro j y σ H2 H2' hj ⟨rfl, w3, rfl⟩ ⟨rfl, c, hc, rfl⟩
        wtm_at "wp"
        refine ⟨_, rfl, rfl, ?_⟩
        wtm_at "wp"
        refine ⟨rfl, some (.str ⟨#[c]⟩), ?_⟩
        rw [take_succ hc]
        have e1 : chk (chk 1 (sgn (rows.take i))) (z.cps.toList.take j ++ [c]) = (chk (chk 1 (sgn (rows.take i))) (z.cps.toList.take j) * 31 + c) % 65521 := by
          unfold chk
          rw [List.foldl_append]
          rfl
        rw [e1]
        rfl
      · rintro σ H2 ⟨rfl, w3, rfl⟩
        refine ⟨rfl, some (.str r), w3, ?_⟩
        rw [take_size, take_succL hr1, ecs]
        have e1 : chk 1 (sgn (rows.take i ++ [r])) = chk (chk 1 (sgn (rows.take i))) (r.cps.toList ++ [10]) := by
          unfold chk sgn
          rw [List.map_append, List.flatten_append, List.foldl_append]
          simp
        rw [e1]
    · rintro σ H1 ⟨rfl, v2, v3, rfl⟩
      rw [List.length_map, List.take_length]
      wtm_at "wp"
      exact k
theorem chk_lt : ∀ {cs : List Nat} {a : Nat}, a < 65521 → chk a cs < 65521
  | [], a, h => h
  | c :: r, a, h => chk_lt (cs := r) (Nat.mod_lt _ (by decide))
/-- the figure of a digit -/
def fg (d : Nat) : Nat := if d < 10 then 48 + d else 87 + d
def hex4 (c : Nat) : List Nat := [fg (c / 4096 % 16), fg (c / 256 % 16), fg (c / 16 % 16), fg (c % 16)]
def figS : Str := "0123456789abcdef"
theorem fig_at : ∀ d : Nat, d < 16 → atI figS.cps.toList (d : Int) = some (fg d) := by decide +kernel
def spCheckT : Sp := fun vs H Q _ => ∃ c : Nat, vs = [.int c] ∧ Q (.str (S (hex4 c))) H
theorem ok_checkt {f : Addr} {fd : FuncData} (F : Fun K "check_text" "check_text" s_check_text f fd) (T : Txt K mg) : FnOk P w K mg base CX0 1 f fd ["check"] spCheckT := by
  refine F.ok sc_check_text (fun vs H Q E h => ?_) (fun cdv A outer s H vs Q E hr h => ?_)
  · obtain ⟨c, rfl, _⟩ := h
    rfl
  · obtain ⟨c, rfl, k⟩ := h
    refine ⟨_, (pss_cons (ps_set (i := 1) sc_check_text.nd rfl (.inl rfl) pe_str)
 (pss_cons (ps_for PassesOwn.never rfl (pi_range1 (by rfl) T.n_range (pa_cons (pe_gint T.c_MOST_FIGURES rfl) pa_nil)) (pg_name (i := 2) sc_check_text.nd rfl (.inl rfl))
 (pss_cons (ps_set (i := 1) sc_check_text.nd rfl (.inl rfl) (pe_op op_addS (pe_ix ix_str (pe_gstr T.c_FIGURES rfl) (pe_op op_mod (pv 0) pe_int) (fun _ _ => rfl)) (pv 1)))
 (pss_one (ps_aug (i := 0) sc_check_text.nd rfl (.inl rfl) pe_int ip_fdivU))))
 (pss_one (ps_ret (pv 1))))), ?_⟩
    wtm_at "w0"
    wtm_at "wp"
    refine ⟨4, rfl, by decide, by decide, ?_⟩
    refine for_fin (n := 4) fin_rng (fun i σ H' => H' = H ∧ ∃ v2 : Option V, σ = [some (.int (c / 16 ^ i : Nat)), some (.str (S ((hex4 c).drop (4 - i)))), v2]) ⟨rfl, none, by rw [Nat.pow_zero, Nat.div_one]; rfl⟩ (fun _ _ _ _ _ => trivial) ?_ ?_
    · rintro i x σ H1 H1' hi ⟨rfl, v2, rfl⟩ ⟨rfl, rfl⟩
      wtm_at "wp"
      have hat := fig_at (c / 16 ^ i % 16) (Nat.mod_lt _ (by decide))
      refine w_ixS (c := fg (c / 16 ^ i % 16)) (by decide +kernel) hat ?_
      wtm_at "wp"
      refine w_addS (sz ?_) ?_
      · rw [len_S, List.length_drop]
        have : (⟨#[fg (c / 16 ^ i % 16)]⟩ : Str).length = 1 := rfl
        have : (hex4 c).length = 4 := rfl
        omega
      wtm_at "wp"
      · exact ⟨by decide, by decide⟩
      refine ⟨rfl, some (.int (0 + (i : Int))), ?_⟩
      have e1 : ((c / 16 ^ i : Nat) : Int) / 16 = ((c / 16 ^ (i + 1) : Nat) : Int) := by
        rw [Nat.pow_succ, ← Nat.div_div_eq_div_mul]
        omega
      have e2 : (⟨#[fg (c / 16 ^ i % 16)]⟩ : Str) ++ S ((hex4 c).drop (4 - i)) = S ((hex4 c).drop (4 - (i + 1))) := by
        refine str_ext ?_
        rw [cps_append, cps_S, cps_S]
        have h4 : i = 0 ∨ i = 1 ∨ i = 2 ∨ i = 3 := by omega
        rcases h4 with rfl | rfl | rfl | rfl
        · rw [Nat.pow_zero, Nat.div_one]
          rfl
        · rfl
        · rfl
        · rfl
      rw [e1, e2]
      rfl
    · rintro σ H1 ⟨rfl, v2, rfl⟩
      wtm_at "wp"
      exact k
end
end K64

namespace K64
abbrev s_whole_text : Stmt := topS 9
theorem sc_whole_text : FnScope ["rows", "head"] ["rows"] (defScope s_whole_text) := ⟨rfl, rfl, rfl, by decide +kernel, rfl, by decide +kernel, by decide +kernel⟩
abbrev s_rows_of : Stmt := topS 10
theorem sc_rows_of : FnScope ["text", "name", "head", "rows", "end"] ["text", "name"] (defScope s_rows_of) := ⟨rfl, rfl, rfl, by decide +kernel, rfl, by decide +kernel, by decide +kernel⟩
section
variable {P : Program} {w : World} {K : PySem.W.Frag} {mg : Str → Option Value} {base : Heap}
/-- the head's signs -/
def hdL (rows : List Str) : List Nat := zf rows.length ++ [58] ++ hex4 (chk 1 (sgn rows))
def wt (rows : List Str) : Str := S (hdL rows ++ [10] ++ sgn rows)
def okR (rows : List Str) : Prop := rows.length ≤ 9999 ∧ ∀ r ∈ rows, r.length ≤ 100 ∧ 10 ∉ r.cps.toList ∧ PyData.strOk r = true
theorem hex4_hex {c : Nat} : ∀ d ∈ hex4 c, Hx.IsHex d := by
  have h : ∀ d, d < 16 → Hx.IsHex (fg d) := fun d hd => by
    unfold fg Hx.IsHex
    split <;> omega
  intro d hd
  unfold hex4 at hd
  simp only [List.mem_cons, List.not_mem_nil, or_false] at hd
  rcases hd with rfl | rfl | rfl | rfl <;> exact h _ (Nat.mod_lt _ (by decide))
theorem hv_fg {d : Nat} (h : d < 16) : Hx.hv (fg d) = d := by
  unfold fg Hx.hv
  split
  · rw [if_pos (by omega)]
    omega
  · rw [if_neg (by omega), if_pos (by omega)]
    omega
theorem hex4_num {c : Nat} (h : c < 65536) : Hx.hexNum (hex4 c) = c := by
  have m : ∀ x, x % 16 < 16 := fun x => Nat.mod_lt _ (by decide)
  unfold hex4 Hx.hexNum
  simp only [List.foldl_cons, List.foldl_nil]
  rw [hv_fg (m _), hv_fg (m _), hv_fg (m _), hv_fg (m _)]
  omega
theorem hd_free {rows : List Str} : 10 ∉ hdL rows := fun z => by
  unfold hdL at z
  rcases List.mem_append.mp z with z | z
  · rcases List.mem_append.mp z with z | z
    · have := zf_dig _ z
      omega
    · simp at z
  · have := Hx.hex_rng (hex4_hex _ z)
    omega
theorem hd_len {rows : List Str} (h : rows.length ≤ 9999) : (hdL rows).length = 9 := by
  unfold hdL
  rw [List.length_append, List.length_append, zf_len h]
  rfl
theorem wt_len {rows : List Str} (h : okR rows) : (wt rows).length ≤ 1100000 := by
  have h1 := sgn_len (rows := rows) (m := 100) (fun r hr => (h.2 r hr).1)
  have h2 := h.1
  unfold wt
  rw [len_S, List.length_append, List.length_append, hd_len h2]
  simp
  omega
theorem hd_part {rows : List Str} : Txt.rpartition (S (hdL rows)) ":" = (S (zf rows.length), (":" : Str), S (hex4 (chk 1 (sgn rows)))) := by
  have e : hdL rows = zf rows.length ++ 58 :: hex4 (chk 1 (sgn rows)) := by unfold hdL; simp
  rw [e]
  exact rpart_app (c := 58) (fun z => by
    have := hex4_hex _ z
    unfold Hx.IsHex at this
    omega)
theorem sz2 {n : Nat} (h : n ≤ 16000000) : n ≤ sizeLine := Nat.le_trans h (by decide)
def spWt (K : PySem.W.Frag) : Sp := fun vs H Q _ => ∃ (a : Addr) (rows : List Str), vs = [.ref a] ∧ H a = some (.lst (rows.map V.str)) ∧ okR rows ∧ ∀ H', Same H H' → Q (.str (wt rows)) H'
theorem ok_wt {f : Addr} {fd : FuncData} (F : Fun K "whole_text" "whole_text" s_whole_text f fd) (T : Txt K mg) (f_check_of : Fn P w K mg base "check_of" 1 ["rows"] (spCheck K)) (f_check_text : Fn P w K mg base "check_text" 1 ["check"] spCheckT) : FnOk P w K mg base CX0 2 f fd ["rows"] (spWt K) := by
  refine F.ok sc_whole_text (fun vs H Q E h => ?_) (fun cdv A outer s H vs Q E hr h => ?_)
  · obtain ⟨a, rows, rfl, _⟩ := h
    rfl
  · obtain ⟨a, rows, rfl, hS, hok, k⟩ := h
    obtain ⟨hl, hrl⟩ := hok
    have hl2 : (rows.map V.str).length = rows.length := List.length_map ..
    refine ⟨_, (pss_cons (ps_set (i := 1) sc_whole_text.nd rfl (.inl rfl) (pe_op op_addS (pe_op op_addS (pe_m1 PySem.F.slot_str_zfill PySem.F.type_str_zfill mt_zfillS (pe_callTy cl_str (by rfl) T.n_str PyProof.Rows.boot_str (pa_cons (pe_callB cl_len (by rfl) T.n_len PySem.boot_len (pa_cons (pv 0) pa_nil)) pa_nil)) (pe_gint T.c_MOST_FIGURES rfl)) pe_str) (pe_fn f_check_text (hr.mono (by decide)) rfl (pa_cons (pe_fn f_check_of (hr.mono (by decide)) rfl (pa_cons (pv 0) pa_nil)) pa_nil))))
 (pss_one (ps_ret (pe_op op_addS (pe_join pe_str (pe_op op_cat (pe_lst (pa_cons (pv 1) pa_nil)) (pv 0))) pe_str)))), ?_⟩
    wtm_at "w0"
    wtm_at "wp"
    rw [hl2]
    refine w_strI (by rw [Int.natAbs_natCast]; exact Nat.lt_of_le_of_lt hl (by decide +kernel)) ?_
    rw [num_S]
    wtm_at "wp"
    refine w_zfill (by decide +kernel) ?_
    rw [zfill_num]
    have l4 := zf_len hl
    have l1 : (":" : Str).length = 1 := rfl
    wtm_at "wp"
    refine w_addS (sz (by rw [len_S]; omega)) ?_
    wtm_at "wp"
    refine ⟨a, rows, rfl, .of hS, fun r hr => Nat.le_trans (hrl r hr).1 (by decide), ?_⟩
    wtm_at "wp"
    refine ⟨_, rfl, ?_⟩
    refine w_addS (sz ?_) ?_
    · rw [Str.length_append, len_S, len_S]
      have : (hex4 (chk 1 (sgn rows))).length = 4 := rfl
      omega
    have eh : S (zf rows.length) ++ (":" : Str) ++ S (hex4 (chk 1 (sgn rows))) = S (hdL rows) := str_ext (by
      rw [cps_append, cps_append]
      rfl)
    rw [eh]
    wtm_at "wp"
    rename_i p1 n1 H1 s1 h1 p2 H2 n2 s2 h2
    have e2 : (V.str (S (hdL rows)) :: rows.map V.str) = (S (hdL rows) :: rows).map V.str := rfl
    rw [e2] at h2
    have hsum : ((S (hdL rows) :: rows).map (·.length)).sum ≤ 9 + rows.length * 100 := by
      have := sum_le (l := rows.map (·.length)) (c := 100) (fun x hx => by
        obtain ⟨y, hy, rfl⟩ := List.mem_map.mp hx
        exact (hrl y hy).1)
      rw [List.length_map] at this
      rw [List.map_cons, List.sum_cons, len_S, hd_len hl]
      omega
    have ln : ("\n" : Str).length = 1 := rfl
    refine ⟨"\n", p2, _, rfl, rfl, .inl (.of h2), ?_, ?_⟩
    · rw [ln, List.length_cons]
      omega
    have ew : Txt.join "\n" (S (hdL rows) :: rows) ++ ("\n" : Str) = wt rows := str_ext (by
      rw [cps_append, txt_join]
      exact join_lines (S (hdL rows)) rows)
    wtm_at "wp"
    refine w_addS (sz2 ?_) ?_
    · have := wt_len ⟨hl, hrl⟩
      rw [← ew, Str.length_append] at this
      omega
    rw [ew]
    exact k _ (s1.trans s2)
def spRows (K : PySem.W.Frag) : Sp := fun vs H Q _ => ∃ (rows : List Str) (v : V), vs = [.str (wt rows), v] ∧ okR rows ∧ ∀ p H', H p = none → Same H H' → H' p = some (.lst (rows.map V.str)) → Q (.ref p) H'
theorem ok_rows {f : Addr} {fd : FuncData} {kws : List (Str × V)} (F : FunD K "rows_of" "rows_of" (defArgs s_rows_of) (defBody s_rows_of) (defScope s_rows_of) [] kws f fd) (T : Txt K mg) (f_check_of : Fn P w K mg base "check_of" 1 ["rows"] (spCheck K)) (f_whole_text : Fn P w K mg base "whole_text" 2 ["rows"] (spWt K)) : FnOk P w K mg base CX0 3 f fd ["text", "name"] (spRows K) := by
  refine F.ok sc_rows_of (fun vs H Q E h => ?_) (fun cdv A outer s H vs Q E hr h => ?_)
  · obtain ⟨rows, v, rfl, _⟩ := h
    rfl
  · obtain ⟨rows, v, rfl, hok, k⟩ := h
    have hl := hok.1
    have hwl := wt_len hok
    refine ⟨_, (pss_cons (ps_if (pt_cmpR op_eq (pe_m1 PySem.F.slot_str_count PySem.F.type_str_count mt_countS (pv 0) pe_str) pe_int (nomark _))
 (pss_one (ps_never))
 pss_nil)
 (pss_cons (ps_asg (pe_split (pv 0) pe_str) (pg_star (k := 1) (after := 0) rfl (pgs_cons (pg_name (i := 2) sc_rows_of.nd rfl (.inl rfl)) (pgs_star (pg_name (i := 3) sc_rows_of.nd rfl (.inl rfl)) pgs_nil))))
 (pss_cons (ps_set (i := 4) sc_rows_of.nd rfl (.inl rfl) (pe_bm0 PySem.F.plainAttrs_list PySem.F.slot_list_pop PySem.F.type_list_pop mt_pop (pv 3)))
 (pss_cons (ps_if (PW.pt (pw_or (pt_cmpR op_ne (pv 4) pe_str (nomark _)) (pw_or (pt_cmpR op_gt (pe_callB cl_len (by rfl) T.n_len PySem.boot_len (pa_cons (pv 3) pa_nil)) (pe_gint T.c_MOST_ROWS rfl) (nomark _)) (pw_or1 (pt_cmpR op_ne (pe_fn f_whole_text (hr.mono (by decide)) rfl (pa_cons (pv 3) pa_nil)) (pv 0) (nomark _))))))
 (pss_one (ps_never))
 pss_nil)
 (pss_cons (ps_if (pt_cmpR op_ne (pe_callTy cl_intHex (by rfl) T.n_int PyProof.Rows.boot_int (pa_cons (pe_ix ix_tup (pe_m1 PySem.F.slot_str_rpartition PySem.F.type_str_rpartition mt_rpartition (pv 2) pe_str) pe_int (fun _ _ => rfl)) (pa_cons pe_int pa_nil))) (pe_fn f_check_of (hr.mono (by decide)) rfl (pa_cons (pv 3) pa_nil)) (nomark _))
 (pss_one (ps_never))
 pss_nil)
 (pss_one (ps_ret (pv 3)))))))), ?_⟩
    wtm_at "w0"
    wtm_at "wp"
    refine w_countS ?_
    wtm_at "wp"
    refine w_dec (fun h0 => ?_) (fun _ => ?_)
    · exfalso
      have := V.int.inj h0
      rw [show ("\n" : Str) = ⟨#[10]⟩ from rfl, PyProof.Rows.count_cnt] at this
      have h2 : 0 < PyProof.Rows.cnt 10 (wt rows).cps.toList := cnt_mem (by
        show 10 ∈ hdL rows ++ [10] ++ sgn rows
        simp)
      omega
    wtm_at "wp"
    refine w_split rfl (Nat.le_trans (by omega : (wt rows).length + 2 ≤ 1200000) (by decide)) (fun p1 H1 n1 s1 h1 => ?_)
    have es : Txt.split (wt rows) "\n" = S (hdL rows) :: (rows ++ [("" : Str)]) := split_lines hd_free (fun r hr => (hok.2 r hr).2.1)
    rw [es] at h1
    wtm_at "wp"
    refine ⟨p1, _, rfl, .inr (.of h1), by simp, fun p2 n2 => ?_⟩
    generalize eN : upd H1 p2 _ = H2
    have s2 := same_gen n2 eN
    have h2 := at_gen eN
    clear eN
    simp only [List.map_cons, List.map_append, List.map_nil, List.take_succ_cons, List.take_zero, List.drop_succ_cons, List.drop_zero, List.length_cons, List.length_append, List.length_nil, List.length_map, List.cons_append, List.nil_append, Nat.add_sub_cancel, Nat.sub_zero] at h2 ⊢
    rw [List.drop_of_length_le (by simp)]
    rw [List.take_of_length_le (by simp)] at h2
    wtm_at "wp"
    refine w_pop h2 (y := .str "") (by simp) (fun H3 k3 h3 => ?_)
    rw [List.dropLast_concat] at h3
    wtm_at "wp"
    refine iteF' (by rw [List.length_map, decide_eq_false (by omega)]) ?_
    wtm_at "wp"
    have S3 : Same H H3 := k3.same (s1.trans s2) (same_free s1 n2)
    refine ⟨p2, rows, rfl, h3, hok, fun H4 s4 => ?_⟩
    have h4 := s4 _ _ h3
    wtm_at "wp"
    refine iteF' (by rw [decide_eq_true rfl]; rfl) ?_
    wtm_at "wp"
    refine w_rpart rfl (sz (by rw [len_S, hd_len hl]; omega)) (fun p5 H5 n5 s5 h5 => ?_)
    rw [hd_part] at h5
    wtm_at "wp"
    refine w_intHex (by simp [hex4]) (by simp [hex4]) hex4_hex ?_
    wtm_at "wp"
    refine ⟨p2, rows, rfl, .of (s5 _ _ h4), fun r hr => Nat.le_trans (hok.2 r hr).1 (by decide), ?_⟩
    wtm_at "wp"
    rw [hex4_num (Nat.lt_trans (chk_lt (by decide)) (by decide))]
    refine iteF' (by rw [decide_eq_true rfl]; rfl) ?_
    wtm_at "wp"
    exact k _ _ (same_free s1 n2) (S3.trans (s4.trans s5)) (s5 _ _ h4)
end
end K64

namespace K64
abbrev s_law_row : Stmt := topS 14
theorem sc_law_row : FnScope ["_law_purse_here", "_law_most", "_law_signs", "_law_k"] ["_law_purse_here", "_law_most"] (defScope s_law_row) := ⟨rfl, rfl, rfl, by decide +kernel, rfl, by decide +kernel, by decide +kernel⟩
abbrev s_law_check : Stmt := topS 15
theorem sc_law_check : FnScope ["_law_rows", "_law_told", "_law_sign", "_law_row_here"] ["_law_rows"] (defScope s_law_check) := ⟨rfl, rfl, rfl, by decide +kernel, rfl, by decide +kernel, by decide +kernel⟩
abbrev s_law_whole : Stmt := topS 16
theorem sc_law_whole : FnScope ["_law_rows", "_law_check_here", "_law_figures", "_law_turn", "_law_many", "_law_row_here"] ["_law_rows"] (defScope s_law_whole) := ⟨rfl, rfl, rfl, by decide +kernel, rfl, by decide +kernel, by decide +kernel⟩
section
variable {P : Program} {w : World} {K : PySem.W.Frag} {mg : Str → Option Value} {base : Heap}
def rowS : Str := " !#$&'()*+,-./0123456789:;<=>?@ABCXYZ[]^_abcdefxyz{|}~"
theorem row_at {d : Int} (h0 : 0 ≤ d) (h : d < rowS.length) : ∃ c, atI rowS.cps.toList d = some c ∧ c ≠ 10 ∧ c < 1114112 := by
  obtain ⟨n, rfl⟩ := Int.eq_ofNat_of_zero_le h0
  have hl : rowS.cps.toList.length = rowS.length := len_cps _
  have hn : n < rowS.cps.toList.length := by omega
  have key : ∀ c ∈ rowS.cps.toList, c ≠ 10 ∧ c < 1114112 := by decide +kernel
  exact ⟨_, atI_nat (List.getElem?_eq_getElem hn), key _ (List.getElem_mem hn)⟩
def spRow : Sp := fun vs H Q _ => ∃ (p : Addr) (m n : Nat), vs = [.ref p, .int m] ∧ m ≤ 100 ∧ Pool H p n ∧ n ≤ 10 ^ 8 ∧ ∀ (x : Str) H', x.length ≤ m → 10 ∉ x.cps.toList → PyData.strOk x = true → KB p H H' → Pool H' p (n + 101) → Q (.str x) H'
theorem ok_row {f : Addr} {fd : FuncData} (F : Fun K "_law_row" "_law_row" s_law_row f fd) (T : Txt K mg) (f__law_take : Fn P w K mg base "_law_take" 1 ["_law_purse_here", "_law_many"] spTake) : FnOk P w K mg base CX0 2 f fd ["_law_purse_here", "_law_most"] spRow := by
  refine F.ok sc_law_row (fun vs H Q E h => ?_) (fun cdv A outer s H vs Q E hr h => ?_)
  · obtain ⟨p, m, n, rfl, _⟩ := h
    rfl
  · obtain ⟨p, m, n, rfl, hm, hp, hn, k⟩ := h
    have hn' : n ≤ 100000000 := hn
    refine ⟨_, (pss_cons (ps_set (i := 2) sc_law_row.nd rfl (.inr rfl) pe_str)
 (pss_one (ps_ret (pe_join pe_str (pe_lc (own := [("_law_k", 3)]) (g := gName 3) (tt := tYes) rfl sc_law_row.nd (pi_range1 (by rfl) T.n_range (pa_cons (pe_fn f__law_take (hr.mono (by decide)) rfl (pa_cons (pv 0) (pa_cons (pe_op op_add (pv 1) pe_int) pa_nil))) pa_nil)) (blkOk_by (own := [("_law_k", 3)]) (N := ["_law_purse_here", "_law_most", "_law_signs", "_law_k"]) (sc := defScope s_law_row) (by decide +kernel)) (fun _ _ _ _ _ => pg_name (i := 3) sc_law_row.nd rfl (Or.inl rfl)) (fun _ _ _ _ _ => pts_nil) (fun _ _ _ _ _ => (pe_ix ix_str (pv 2) (pe_fn f__law_take (hr.mono (by decide)) rfl (pa_cons (pv 0) (pa_cons (pe_callB (show CallR _ _ (Bw.rLen K) from cl_len) (by rfl) T.n_len PySem.boot_len (pa_cons (pv 2) pa_nil)) pa_nil))) (fun _ _ => rfl)))))))), ?_⟩
    wtm_at "w0"
    wtm_at "wp"
    refine ⟨p, _, n, rfl, hp, by omega, by omega, by omega, fun d H1 d0 d1 k1 p1 => ?_⟩
    wtm_at "wp"
    refine ⟨_, rfl, by omega, by omega, ?_⟩
    refine lc_fin (n := d.toNat) fin_rng (fun i acc H' => KB p H1 H' ∧ Pool H' p (n + 1 + i) ∧ ∃ cs : List Nat, acc = cs.map (fun c => V.str ⟨#[c]⟩) ∧ cs.length = i ∧ 10 ∉ cs ∧ ∀ c ∈ cs, c < 1114112) (fun D H2 nD s2 hD => ⟨KB.of s2, p1.mono s2 (by omega), [], rfl, rfl, by simp, by simp⟩) (fun _ _ _ _ _ => trivial) ?_ ?_
    · rintro D i v acc H3 H4 nD hi ha ⟨k3, p3, cs, rfl, hcl, hcs, hcx⟩ hD ⟨rfl, rfl⟩
      wtm_at "wp"
      refine ⟨rfl, ?_⟩
      wtm_at "wp"
      refine w_lenS (by decide +kernel) ?_
      wtm_at "wp"
      have nDp : D ≠ p := fun z => by rw [z, p1.at.choose_spec] at nD; cases nD
      refine ⟨p, _, _, rfl, p3, by omega, by decide, by decide, fun d5 H5 d50 d51 k5 p5 => ?_⟩
      obtain ⟨c, hat, hc, hcc⟩ := row_at d50 d51
      refine w_ixS (by decide +kernel) hat ?_
      refine w_acc (k5 _ _ hD nDp) ha hi (sz (by omega)) (fun H6 k6 h6 => ⟨kb2 (k3.trans k5) k6 nD, p5.kb k6 nDp.symm, cs ++ [c], by simp, by simp [hcl], by simp [hcs, Ne.symm hc], fun x hx => by
        rcases List.mem_append.mp hx with hx | hx
        · exact hcx x hx
        · rw [List.mem_singleton.mp hx]
          exact hcc⟩)
    · rintro D acc H3 nD ⟨k3, p3, cs, rfl, hcl, hcs, hcx⟩ ha hD
      have e1 : (cs.map fun c => V.str ⟨#[c]⟩) = (cs.map fun c => (⟨#[c]⟩ : Str)).map V.str := by simp
      have hlen := sum_ones cs
      have l0 : ("" : Str).length = 0 := rfl
      wtm_at "wp"
      refine ⟨"", D, _, rfl, rfl, .inl (.of (e1 ▸ hD)), by rw [hlen, l0]; omega, ?_⟩
      have e2 := join_ones cs
      refine k _ _ ?_ (by rw [e2]; exact hcs) (strOk_of (by rw [e2]; exact hcx)) (k1.trans k3) (p3.mono (.refl _) (by omega))
      rw [← len_cps, e2]
      omega
def spCheckL (K : PySem.W.Frag) : Sp := fun vs H Q _ => ∃ (a : Addr) (rows : List Str), vs = [.ref a] ∧ SqL K H a (rows.map V.str) ∧ okR rows ∧ ∀ H', Same H H' → Q (.int (chk 1 (sgn rows))) H'
theorem sgn_join (rows : List Str) : (Txt.join "" (rows.map fun r => r ++ ("\n" : Str))).cps.toList = sgn rows := by
  rw [txt_join, join_empty, List.map_map]
  unfold sgn
  congr 1
  refine List.map_congr_left fun r _ => ?_
  show (r ++ ("\n" : Str)).cps.toList = _
  rw [cps_append]
  rfl
theorem sum_lines {rows : List Str} (h : okR rows) : ((rows.map fun r => r ++ ("\n" : Str)).map (·.length)).sum ≤ rows.length * 101 := by
  have := sum_le (l := (rows.map fun r => r ++ ("\n" : Str)).map (·.length)) (c := 101) (fun x hx => by
    rw [List.map_map] at hx
    obtain ⟨y, hy, rfl⟩ := List.mem_map.mp hx
    show (y ++ ("\n" : Str)).length ≤ 101
    rw [Str.length_append]
    have := (h.2 y hy).1
    have l1 : ("\n" : Str).length = 1 := rfl
    omega)
  rwa [List.length_map, List.length_map] at this
theorem ok_checkL {f : Addr} {fd : FuncData} (F : Fun K "_law_check" "_law_check" s_law_check f fd) (T : Txt K mg) : FnOk P w K mg base CX0 1 f fd ["_law_rows"] (spCheckL K) := by
  refine F.ok sc_law_check (fun vs H Q E h => ?_) (fun cdv A outer s H vs Q E hr h => ?_)
  · obtain ⟨a, rows, rfl, _⟩ := h
    rfl
  · obtain ⟨a, rows, rfl, hS, hok, k⟩ := h
    have hl := hok.1
    have l0 : ("" : Str).length = 0 := rfl
    have l1 : ("\n" : Str).length = 1 := rfl
    refine ⟨_, (pss_cons (ps_set (i := 1) sc_law_check.nd rfl (.inl rfl) pe_int)
 (pss_cons (ps_for PassesOwn.never rfl (pi_str (pe_join pe_str (pe_lc (own := [("_law_row_here", 3)]) (g := gName 3) (tt := tYes) rfl sc_law_check.nd (show PI _ _ _ (iList K _) from (pi_list (pv 0))) (blkOk_by (own := [("_law_row_here", 3)]) (N := ["_law_rows", "_law_told", "_law_sign", "_law_row_here"]) (sc := defScope s_law_check) (by decide +kernel)) (fun _ _ _ _ _ => pg_name (i := 3) sc_law_check.nd rfl (Or.inl rfl)) (fun _ _ _ _ _ => pts_nil) (fun _ _ _ _ _ => (pe_op op_addS (pv 3) pe_str))))) (pg_name (i := 2) sc_law_check.nd rfl (.inl rfl))
 (pss_one (ps_set (i := 1) sc_law_check.nd rfl (.inl rfl) (pe_op op_mod (pe_op op_add (pe_op op_mulU pe_int (pv 1)) (pe_callB cl_ord (by rfl) T.n_ord PyProof.Rows.boot_ord (pa_cons (pv 2) pa_nil))) pe_int))))
 (pss_one (ps_ret (pv 1))))), ?_⟩
    wtm_at "w0"
    wtm_at "wp"
    refine lc_fin (fin_list (xs := rows.map V.str)) (fun i acc H' => Same H H' ∧ acc = ((rows.take i).map fun r => r ++ ("\n" : Str)).map V.str) (fun D H2 nD s2 hD => ⟨s2, rfl⟩) (fun i acc H2 _ h => Same.seq h.1 hS) ?_ ?_
    · rintro D i v acc H3 H4 nD hi ha ⟨s3, e3⟩ hD ⟨rfl, hv⟩
      rw [List.getElem?_map] at hv
      obtain ⟨y, hxw, rfl⟩ := Option.map_eq_some_iff.mp hv
      have hy := hok.2 y (List.mem_of_getElem? hxw)
      wtm_at "wp"
      refine ⟨rfl, ?_⟩
      wtm_at "wp"
      refine w_addS (sz (by omega)) ?_
      refine w_acc hD ha hi (sz (by rw [List.length_map]; omega)) (fun H6 k6 h6 => ⟨k6.same s3 nD, ?_⟩)
      rw [e3, take_succL hxw]
      simp
    · rintro D acc H3 nD ⟨s3, e3⟩ ha hD
      rw [List.length_map, List.take_length] at e3
      have hsum := sum_lines hok
      wtm_at "wp"
      refine ⟨"", D, _, rfl, rfl, .inl (.of (e3 ▸ hD)), by rw [l0]; omega, ?_⟩
      have e4 := sgn_join rows
      generalize Txt.join "" (rows.map fun r => r ++ ("\n" : Str)) = z at *
      refine ⟨_, rfl, ?_⟩
      refine for_fin (fin_str (x := z)) (fun j σ H' => H' = H3 ∧ ∃ (v2 v3 : Option V), σ = [some (.ref a), some (.int (chk 1 (z.cps.toList.take j))), v2, v3]) ⟨rfl, _, _, rfl⟩ (fun _ _ _ _ _ => trivial) ?_ ?_
      · rintro j y σ H4 H4' hj ⟨rfl, w2, w3, rfl⟩ ⟨rfl, c, hc, rfl⟩
        wtm_at "wp"
        refine ⟨_, rfl, rfl, ?_⟩
        wtm_at "wp"
        refine ⟨rfl, some (.str ⟨#[c]⟩), w3, ?_⟩
        rw [take_succ hc]
        have e1 : chk 1 (z.cps.toList.take j ++ [c]) = (31 * chk 1 (z.cps.toList.take j) + c) % 65521 := by
          unfold chk
          rw [List.foldl_append, Nat.mul_comm]
          rfl
        rw [e1]
        rfl
      · rintro σ H4 ⟨rfl, w2, w3, rfl⟩
        rw [take_size, e4]
        wtm_at "wp"
        exact k _ s3
def spWhole (K : PySem.W.Frag) : Sp := fun vs H Q _ => ∃ (a : Addr) (rows : List Str), vs = [.ref a] ∧ SqL K H a (rows.map V.str) ∧ okR rows ∧ ∀ H', Same H H' → Q (.str (wt rows)) H'
theorem ok_whole {f : Addr} {fd : FuncData} (F : Fun K "_law_whole" "_law_whole" s_law_whole f fd) (T : Txt K mg) (f__law_check : Fn P w K mg base "_law_check" 1 ["_law_rows"] (spCheckL K)) : FnOk P w K mg base CX0 2 f fd ["_law_rows"] (spWhole K) := by
  refine F.ok sc_law_whole (fun vs H Q E h => ?_) (fun cdv A outer s H vs Q E hr h => ?_)
  · obtain ⟨a, rows, rfl, _⟩ := h
    rfl
  · obtain ⟨a, rows, rfl, hS, hok, k⟩ := h
    have hl := hok.1
    have l0 : ("" : Str).length = 0 := rfl
    have l1 : ("\n" : Str).length = 1 := rfl
    have l2 : (":" : Str).length = 1 := rfl
    have hl2 : (rows.map V.str).length = rows.length := List.length_map ..
    refine ⟨_, (pss_cons (ps_set (i := 1) sc_law_whole.nd rfl (.inl rfl) (pe_fn f__law_check (hr.mono (by decide)) rfl (pa_cons (pv 0) pa_nil)))
 (pss_cons (ps_set (i := 2) sc_law_whole.nd rfl (.inl rfl) pe_str)
 (pss_cons (ps_for PassesOwn.never rfl (pi_range1 (by rfl) T.n_range (pa_cons pe_int pa_nil)) (pg_name (i := 3) sc_law_whole.nd rfl (.inl rfl))
 (pss_cons (ps_set (i := 2) sc_law_whole.nd rfl (.inl rfl) (pe_op op_addS (pe_ix ix_str pe_str (pe_op op_mod (pv 1) pe_int) (fun _ _ => rfl)) (pv 2)))
 (pss_one (ps_set (i := 1) sc_law_whole.nd rfl (.inl rfl) (pe_op op_fdivU (pv 1) pe_int)))))
 (pss_cons (ps_set (i := 4) sc_law_whole.nd rfl (.inl rfl) (pe_callTy cl_str (by rfl) T.n_str PyProof.Rows.boot_str (pa_cons (pe_callB cl_len (by rfl) T.n_len PySem.boot_len (pa_cons (pv 0) pa_nil)) pa_nil)))
 (pss_one (ps_ret (pe_op op_addS (pe_op op_addS (pe_op op_addS (pe_op op_addS (pe_op op_addS (pe_op op_repS pe_str (pe_op op_sub pe_int (pe_callB cl_len (by rfl) T.n_len PySem.boot_len (pa_cons (pv 4) pa_nil)))) (pv 4)) pe_str) (pv 2)) pe_str) (pe_join pe_str (pe_lc (own := [("_law_row_here", 5)]) (g := gName 5) (tt := tYes) rfl sc_law_whole.nd (show PI _ _ _ (iList K _) from (pi_list (pv 0))) (blkOk_by (own := [("_law_row_here", 5)]) (N := ["_law_rows", "_law_check_here", "_law_figures", "_law_turn", "_law_many", "_law_row_here"]) (sc := defScope s_law_whole) (by decide +kernel)) (fun _ _ _ _ _ => pg_name (i := 5) sc_law_whole.nd rfl (Or.inl rfl)) (fun _ _ _ _ _ => pts_nil) (fun _ _ _ _ _ => (pe_op op_addS (pv 5) pe_str))))))))))), ?_⟩
    wtm_at "w0"
    wtm_at "wp"
    refine ⟨a, rows, rfl, hS, hok, fun H1 s1 => ?_⟩
    wtm_at "wp"
    refine ⟨4, rfl, by decide, by decide, ?_⟩
    generalize ec : chk 1 (sgn rows) = c at *
    refine for_fin (n := 4) fin_rng (fun i σ H' => H' = H1 ∧ ∃ v3 v4 v5 : Option V, σ = [some (.ref a), some (.int (c / 16 ^ i : Nat)), some (.str (S ((hex4 c).drop (4 - i)))), v3, v4, v5]) ⟨rfl, none, none, none, by rw [Nat.pow_zero, Nat.div_one]; rfl⟩ (fun _ _ _ _ _ => trivial) ?_ ?_
    · rintro i x σ H2 H2' hi ⟨rfl, v3, v4, v5, rfl⟩ ⟨rfl, rfl⟩
      wtm_at "wp"
      have hat := fig_at (c / 16 ^ i % 16) (Nat.mod_lt _ (by decide))
      refine w_ixS (c := fg (c / 16 ^ i % 16)) (by decide +kernel) hat ?_
      wtm_at "wp"
      refine w_addS (sz ?_) ?_
      · rw [len_S, List.length_drop]
        have : (⟨#[fg (c / 16 ^ i % 16)]⟩ : Str).length = 1 := rfl
        have : (hex4 c).length = 4 := rfl
        omega
      wtm_at "wp"
      refine ⟨rfl, some (.int (0 + (i : Int))), v4, v5, ?_⟩
      have e1 : (((c / 16 ^ i : Nat) : Int)).fdiv 16 = ((c / 16 ^ (i + 1) : Nat) : Int) := by
        rw [Nat.pow_succ, ← Nat.div_div_eq_div_mul, Int.fdiv_eq_ediv_of_nonneg _ (by decide)]
        omega
      have e2 : (⟨#[fg (c / 16 ^ i % 16)]⟩ : Str) ++ S ((hex4 c).drop (4 - i)) = S ((hex4 c).drop (4 - (i + 1))) := by
        refine str_ext ?_
        rw [cps_append, cps_S, cps_S]
        have h4 : i = 0 ∨ i = 1 ∨ i = 2 ∨ i = 3 := by omega
        rcases h4 with rfl | rfl | rfl | rfl
        · rw [Nat.pow_zero, Nat.div_one]
          rfl
        · rfl
        · rfl
        · rfl
      rw [e1, e2]
      rfl
    · rintro σ H2 ⟨rfl, v3, v4, v5, rfl⟩
      have hS2 := Same.seq s1 hS
      wtm_at "wp"
      rw [hl2]
      refine w_strI (by rw [Int.natAbs_natCast]; exact Nat.lt_of_le_of_lt hl (by decide +kernel)) ?_
      rw [num_S]
      have n4 := numL_len4 hl
      wtm_at "wp"
      refine w_lenS (sz (by rw [len_S]; omega)) ?_
      rw [len_S]
      wtm_at "wp"
      have e4 : (4 : Int) - ((TL.numL rows.length).length : Int) = ((4 - (TL.numL rows.length).length : Nat) : Int) := by omega
      rw [e4]
      refine w_repS (mul_zero_ok (by omega) (by omega)) ?_
      rw [mul_zero (by omega)]
      wtm_at "wp"
      have lz := zf_len hl
      have ez : S (List.replicate (4 - (TL.numL rows.length).length) 48) ++ S (TL.numL rows.length) = S (zf rows.length) := str_ext (cps_append _ _)
      refine w_addS (sz (by rw [len_S, len_S, List.length_replicate]; omega)) ?_
      rw [ez]
      wtm_at "wp"
      refine w_addS (sz (by rw [len_S]; omega)) ?_
      wtm_at "wp"
      refine w_addS (sz ?_) ?_
      · rw [Str.length_append, len_S, len_S]
        have : ((hex4 c).drop (4 - 4)).length = 4 := rfl
        omega
      have eh : S (zf rows.length) ++ (":" : Str) ++ S ((hex4 c).drop (4 - 4)) = S (hdL rows) := str_ext (by
        rw [cps_append, cps_append]
        unfold hdL
        rw [ec]
        rfl)
      rw [eh]
      have hdl := hd_len hl
      wtm_at "wp"
      refine w_addS (sz (by rw [len_S]; omega)) ?_
      wtm_at "wp"
      refine lc_fin (fin_list (xs := rows.map V.str)) (fun i acc H' => Same H2 H' ∧ acc = ((rows.take i).map fun r => r ++ ("\n" : Str)).map V.str) (fun D H2 nD s2 hD => ⟨s2, rfl⟩) (fun i acc H2 _ h => Same.seq h.1 hS2) ?_ ?_
      · rintro D i v acc H3 H4 nD hi ha ⟨s3, e3⟩ hD ⟨rfl, hv⟩
        rw [List.getElem?_map] at hv
        obtain ⟨y, hxw, rfl⟩ := Option.map_eq_some_iff.mp hv
        have hy := hok.2 y (List.mem_of_getElem? hxw)
        wtm_at "wp"
        refine ⟨rfl, ?_⟩
        wtm_at "wp"
        refine w_addS (sz (by omega)) ?_
        refine w_acc hD ha hi (sz (by rw [List.length_map]; omega)) (fun H6 k6 h6 => ⟨k6.same s3 nD, ?_⟩)
        rw [e3, take_succL hxw]
        simp
      · rintro D acc H3 nD ⟨s3, e3⟩ ha hD
        rw [List.length_map, List.take_length] at e3
        have hsum := sum_lines hok
        wtm_at "wp"
        refine ⟨"", D, _, rfl, rfl, .inl (.of (e3 ▸ hD)), by rw [l0]; omega, ?_⟩
        have e5 := sgn_join rows
        have ew : S (hdL rows) ++ ("\n" : Str) ++ Txt.join "" (rows.map fun r => r ++ ("\n" : Str)) = wt rows := str_ext (by
          rw [cps_append, cps_append, e5]
          rfl)
        refine w_addS (sz2 ?_) ?_
        · have := wt_len hok
          rw [← ew, Str.length_append] at this
          omega
        rw [ew]
        exact k _ (s1.trans s3)
end
end K64

namespace K64
abbrev s_law : Stmt := topS 17
theorem sc_law : FnScope ["_law_script", "_law_k", "_law_purse_here", "_law_rows", "_law_label", "_law_handed", "_law_text", "_law_turn", "_law_found", "_law_at"] ["_law_script"] (defScope s_law) := ⟨rfl, rfl, rfl, by decide +kernel, rfl, by decide +kernel, by decide +kernel⟩
section
variable {P : Program} {w : World} {K : PySem.W.Frag} {mg : Str → Option Value} {base : Heap}
theorem rows_good {rows : List Str} (h : okR rows) : GoodD (.list (rows.map PyData.str)) 1 := good_list (fun d hd => by
  obtain ⟨r, hr, rfl⟩ := List.mem_map.mp hd
  exact good_str (h.2 r hr).2.2)
theorem rows_dp {H : Hp} {a : Addr} {rows : List Str} (h : H a = some (.lst (rows.map V.str))) : Dp K H (.ref a) (.list (rows.map PyData.str)) := .lst (.of h) (dpAll_str rows)
def spLaw (K : PySem.W.Frag) : Sp := fun vs H Q _ => ∃ (a : Addr) (ns : List Int), vs = [.ref a] ∧ SqL K H a (ns.map V.int) ∧ ns.length ≤ 63 ∧ ∀ H', Q (.bl true) H'
theorem ok_law {f : Addr} {fd : FuncData} (F : Fun K "law" "law" s_law f fd) (T : Txt K mg) (f__law_purse : Fn P w K mg base "_law_purse" 1 ["_law_script", "_law_at"] (spPool K)) (f__law_take : Fn P w K mg base "_law_take" 1 ["_law_purse_here", "_law_many"] spTake)
    (f__law_row : Fn P w K mg base "_law_row" 2 ["_law_purse_here", "_law_most"] spRow) (f__law_whole : Fn P w K mg base "_law_whole" 2 ["_law_rows"] (spWhole K)) (f_whole_text : Fn P w K mg base "whole_text" 2 ["rows"] (spWt K))
    (f_rows_of_1 : FnD P w K mg base CX0 "rows_of" 3 ["text", "name"] [.str ""] (spRows K)) (f_rows_of_name : FnK P w K mg base CX0 "rows_of" 3 ["text", "name"] 1 ["name"] (fun vs zs => vs ++ zs) (spRows K)) : FnOk P w K mg base CX0 5 f fd ["_law_script"] (spLaw K) := by
  refine F.ok sc_law (fun vs H Q E h => ?_) (fun cdv A outer s H vs Q E hr h => ?_)
  · obtain ⟨a, ns, rfl, _⟩ := h
    rfl
  · obtain ⟨a, ns, rfl, hS, hlen, k⟩ := h
    refine ⟨_, (pss_cons (ps_for PassesOwn.never rfl (pi_range1 (by rfl) T.n_range (pa_cons (pe_callB (cl_max rfl) (by rfl) T.n_max PyProof.Rows.boot_max (pa_cons pe_int (pa_cons (pe_callB (cl_min rfl) (by rfl) T.n_min PyProof.Rows.boot_min (pa_cons (pe_callB cl_len (by rfl) T.n_len PySem.boot_len (pa_cons (pv 0) pa_nil)) (pa_cons pe_int pa_nil))) pa_nil))) pa_nil)) (pg_name (i := 1) sc_law.nd rfl (.inl rfl))
 (pss_cons (ps_set (i := 2) sc_law.nd rfl (.inr rfl) (pe_fn f__law_purse (hr.mono (by decide)) rfl (pa_cons (pv 0) (pa_cons (pv 1) pa_nil))))
 (pss_cons (ps_setLc (i := 3) (own := [("_law_turn", 7)]) (g := gName 7) (tt := tYes) rfl sc_law.nd rfl rfl (sw_true rfl rfl rfl (by decide +kernel)) (pi_range1 (by rfl) T.n_range (pa_cons (pe_fn f__law_take (hr.mono (by decide)) rfl (pa_cons (pv 2) (pa_cons pe_int pa_nil))) pa_nil)) (blkOk_by (own := [("_law_turn", 7)]) (N := ["_law_script", "_law_k", "_law_purse_here", "_law_rows", "_law_label", "_law_handed", "_law_text", "_law_turn", "_law_found", "_law_at"]) (sc := defScope s_law) (by decide +kernel)) (fun _ _ _ _ _ => pg_name (i := 7) sc_law.nd rfl (Or.inl rfl)) (fun _ _ _ _ _ => pts_nil) (fun _ _ _ _ _ => (pe_fn f__law_row (hr.mono (by decide)) rfl (pa_cons (pv 2) (pa_cons pe_int pa_nil)))))
 (pss_cons (ps_if (PW.pt (pw_and (pt_cmpR op_eq (pv 1) pe_int (nomark _)) (pw_and1 (pt_cmpR op_eq (pe_fn f__law_take (hr.mono (by decide)) rfl (pa_cons (pv 2) (pa_cons pe_int pa_nil))) pe_int (nomark _)))))
 (pss_one (ps_setLc (i := 3) (own := [("_law_at", 9)]) (g := gName 9) (tt := tYes) rfl sc_law.nd rfl rfl (sw_true rfl rfl rfl (by decide +kernel)) (pi_range1 (by rfl) T.n_range (pa_cons (pe_op op_add (pe_ix (show IxR _ (rIxL K) from ix_list) (pe_lst (pa_cons pe_int (pa_cons pe_int pa_nil))) (pe_fn f__law_take (hr.mono (by decide)) rfl (pa_cons (pv 2) (pa_cons pe_int pa_nil))) (fun _ _ => rfl)) (pe_fn f__law_take (hr.mono (by decide)) rfl (pa_cons (pv 2) (pa_cons pe_int pa_nil)))) pa_nil)) (blkOk_by (own := [("_law_at", 9)]) (N := ["_law_script", "_law_k", "_law_purse_here", "_law_rows", "_law_label", "_law_handed", "_law_text", "_law_turn", "_law_found", "_law_at"]) (sc := defScope s_law) (by decide +kernel)) (fun _ _ _ _ _ => pg_name (i := 9) sc_law.nd rfl (Or.inl rfl)) (fun _ _ _ _ _ => pts_nil) (fun _ _ _ _ _ => (pe_ix (show IxR _ (rIxL K) from ix_list) (pe_lst (pa_cons pe_str (pa_cons pe_str (pa_cons pe_str pa_nil)))) (pe_op op_mod (pv 9) pe_int) (fun _ _ => rfl)))))
 pss_nil)
 (pss_cons (ps_set (i := 4) sc_law.nd rfl (.inl rfl) (pe_ix ix_list (pe_lst (pa_cons pe_str (pa_cons pe_str (pa_cons pe_str pa_nil)))) (pe_fn f__law_take (hr.mono (by decide)) rfl (pa_cons (pv 2) (pa_cons pe_int pa_nil))) (fun _ _ => rfl)))
 (pss_cons (ps_set (i := 5) sc_law.nd rfl (.inl rfl) (pe_callTy cl_list (by rfl) T.n_list PyProof.Rows.boot_list (pa_cons (pv 3) pa_nil)))
 (pss_cons (ps_set (i := 6) sc_law.nd rfl (.inl rfl) (pe_fn f_whole_text (hr.mono (by decide)) rfl (pa_cons (pv 5) pa_nil)))
 (pss_cons (ps_if (PW.pt (pw_or (pt_not (pt_val (pe_callB call_isi (by rfl) T.n_isinstance PyProof.Rows.boot_isinstance (pa_cons (pv 6) (pa_cons (pe_bltn (v := .ty "str") (by rfl) T.n_str PyProof.Rows.boot_str rfl) pa_nil))))) (pw_or (pt_cmpR op_ne (pv 6) (pe_fn f__law_whole (hr.mono (by decide)) rfl (pa_cons (pv 3) pa_nil)) (nomark _)) (pw_or1 (pt_cmpR (op_neD hr.units) (pv 5) (pv 3) (nomark _))))))
 (pss_one (ps_ret pe_bl))
 pss_nil)
 (pss_cons (ps_for PassesOwn.never rfl (pi_range1 (by rfl) T.n_range (pa_cons pe_int pa_nil)) (pg_name (i := 7) sc_law.nd rfl (.inl rfl))
 (pss_cons (ps_set (i := 8) sc_law.nd rfl (.inl rfl) (pe_fnk f_rows_of_name pass0 (hr.mono (by decide)) rfl (pa_cons (pv 6) pa_nil) (pk_cons (pv 4) pk_nil)))
 (pss_cons (ps_if (PW.pt (pw_or (pt_not (pt_val (pe_callB call_isi (by rfl) T.n_isinstance PyProof.Rows.boot_isinstance (pa_cons (pv 8) (pa_cons (pe_bltn (v := .ty "list") (by rfl) T.n_list PyProof.Rows.boot_list rfl) pa_nil))))) (pw_or (pt_cmpR (op_neD hr.units) (pv 8) (pv 3) (nomark _)) (pw_or1 (pt_cmpR (op_neD hr.units) (pe_fnd f_rows_of_1 pass0 (hr.mono (by decide)) rfl (pa_cons (pv 6) pa_nil)) (pv 3) (nomark _))))))
 (pss_one (ps_ret pe_bl))
 pss_nil)
 (pss_cons (ps_expr (pe_bm PySem.F.plainAttrs_list PySem.F.slot_list_append PySem.F.type_list_append mt_append (pv 8) (pa_cons pe_str pa_nil)))
 (pss_one (ps_expr (pe_bm0 PySem.F.plainAttrs_list PySem.F.slot_list_reverse PySem.F.type_list_reverse mt_reverse (pv 8))))))))
 (pss_cons (ps_expr (pe_bm PySem.F.plainAttrs_list PySem.F.slot_list_append PySem.F.type_list_append mt_append (pv 5) (pa_cons pe_str pa_nil)))
 (pss_one (ps_if (pt_cmpR op_ne (pe_fn f_whole_text (hr.mono (by decide)) rfl (pa_cons (pv 3) pa_nil)) (pv 6) (nomark _))
 (pss_one (ps_ret pe_bl))
 pss_nil))))))))))))
 (pss_one (ps_ret pe_bl))), ?_⟩
    wtm_at "w0"
    wtm_at "wp"
    rw [List.length_map]
    refine ⟨_, rfl, by omega, by omega, for_fin (n := (max (3 : Int) (min (ns.length : Int) 16)).toNat) fin_rng (fun i σ H' => ∃ v1 v2 v3 v4 v5 v6 v7 v8 v9 : Option V, σ = [some (.ref a), v1, v2, v3, v4, v5, v6, v7, v8, v9] ∧ Same H H') ?_ (fun _ _ _ _ _ => trivial) ?_ ?_⟩
    · exact ⟨_, _, _, _, _, _, _, _, _, rfl, Same.refl _⟩
    · rintro i x σ H0 H0' hi ⟨v1, v2, v3, v4, v5, v6, v7, v8, v9, rfl, s0⟩ ⟨rfl, rfl⟩
      wtm_at "wp"
      rw [Int.zero_add]
      refine ⟨a, ns, i, rfl, Same.seq s0 hS, by omega, fun p H1 np s1 p1 => ?_⟩
      wtm_at "wp"
      refine ⟨p, 13, _, rfl, p1, by omega, by decide, by decide, fun d2 H2 d20 d21 k2 p2 => ?_⟩
      wtm_at "wp"
      refine ⟨_, rfl, by omega, by omega, ?_⟩
      refine lc_fin (n := d2.toNat) fin_rng (fun j acc H' => KB p H2 H' ∧ Pool H' p (1 + 101 * j) ∧ ∃ rows : List Str, acc = rows.map V.str ∧ rows.length = j ∧ ∀ r ∈ rows, r.length ≤ 100 ∧ 10 ∉ r.cps.toList ∧ PyData.strOk r = true) (fun D H3 nD s3 hD => ⟨KB.of s3, p2.mono s3 (by omega), [], rfl, rfl, by simp⟩) (fun _ _ _ _ _ => trivial) ?_ ?_
      · rintro D j v acc H3 H4 nD hj ha ⟨k3, p3, rows, rfl, hrl, hrs⟩ hD ⟨rfl, rfl⟩
        wtm_at "wp"
        refine ⟨rfl, ?_⟩
        wtm_at "wp"
        have nDp : D ≠ p := fun z => by rw [z, p2.at.choose_spec] at nD; cases nD
        refine ⟨p, 30, _, rfl, by decide, p3, by omega, fun y H5 hy1 hy2 hy3 k5 p5 => ?_⟩
        refine w_acc (k5 _ _ hD nDp) ha hj (sz (by omega)) (fun H6 k6 h6 => ⟨kb2 (k3.trans k5) k6 nD, (p5.kb k6 nDp.symm).mono (.refl _) (by omega), rows ++ [y], by simp, by simp [hrl], fun r hr => ?_⟩)
        rcases List.mem_append.mp hr with hr | hr
        · exact hrs r hr
        · rw [List.mem_singleton.mp hr]
          exact ⟨by omega, hy2, hy3⟩
      · rintro D acc H3 nD ⟨k3, p3, rows, rfl, hrl, hrs⟩ ha hD
        have nDp : D ≠ p := fun z => by rw [z, p2.at.choose_spec] at nD; cases nD
        have S3 : Same H0' H3 := (k2.trans k3).same s1 np
        wtm_at "wp"
        refine w_decR (fun σ H' => ∃ (v4 v5 v6 v7 v8 v9 : Option V) (d : Addr) (rows : List Str), σ = [some (.ref a), some (.int i), some (.ref p), some (.ref d), v4, v5, v6, v7, v8, v9] ∧ H' d = some (.lst (rows.map V.str)) ∧ okR rows ∧ d ≠ p ∧ Pool H' p 100000 ∧ Same H0' H') (fun _ => ⟨_, _, _, _, _, _, D, rows, rfl, hD, ⟨by omega, hrs⟩, nDp, p3.mono (.refl _) (by omega), S3⟩) (fun go hc => ?_) ?_
        · wtm_at "wp"
          refine ⟨p, 8, _, rfl, p3, by omega, by decide, by decide, fun d5 H5 d50 d51 k5 p5 => ?_⟩
          have hD5 := k5 _ _ hD nDp
          have S5 : Same H0' H5 := ((k2.trans k3).trans k5).same s1 np
          wtm_at "wp"
          refine w_dec (fun h5 => ?_) (fun h5 => ?_)
          · wtm_at "wp"
            rename_i q6 n6 H6 s6 h6
            refine ⟨p, 2, _, rfl, p5.mono s6 (Nat.le_refl _), by omega, by decide, by decide, fun d7 H7 d70 d71 k7 p7 => ?_⟩
            have nq6 : q6 ≠ p := (ne_of_none p5.at.choose_spec n6).symm
            have h67 := k7 _ _ h6 nq6
            have hat : ∃ m : Int, atI [V.int 1990, V.int 9989] d7 = some (.int m) ∧ 0 ≤ m ∧ m ≤ 9989 := by
              have hd : d7 = 0 ∨ d7 = 1 := by omega
              rcases hd with rfl | rfl
              · exact ⟨_, rfl, by decide, by decide⟩
              · exact ⟨_, rfl, by decide, by decide⟩
            obtain ⟨m, hat, hm0, hm1⟩ := hat
            refine w_ixL (.of h67) hat ?_
            wtm_at "wp"
            refine ⟨p, 11, _, rfl, p7, by omega, by decide, by decide, fun d8 H8 d80 d81 k8 p8 => ?_⟩
            wtm_at "wp"
            have S8 : Same H0' H8 := ((((k2.trans k3).trans k5).trans ((KB.of s6).trans k7)).trans k8).same s1 np
            refine ⟨_, rfl, by omega, by omega, ?_⟩
            refine lc_fin (n := (m + d8).toNat) fin_rng (fun j acc H' => Same H8 H' ∧ ∃ rows : List Str, acc = rows.map V.str ∧ rows.length = j ∧ ∀ r ∈ rows, r.length ≤ 100 ∧ 10 ∉ r.cps.toList ∧ PyData.strOk r = true) (fun D H3 nD s3 hD => ⟨s3, [], rfl, rfl, by simp⟩) (fun _ _ _ _ _ => trivial) ?_ ?_
            · rintro D j v acc H9 H9' nD hj ha ⟨s9, rows, rfl, hrl, hrs⟩ hD ⟨rfl, rfl⟩
              wtm_at "wp"
              refine ⟨rfl, ?_⟩
              wtm_at "wp"
              rename_i q10 n10 H10 s10 h10
              have hat : ∃ r : Str, atI [V.str "", V.str "", V.str "~"] ((0 + (j : Int)) % 3) = some (.str r) ∧ r.length ≤ 100 ∧ 10 ∉ r.cps.toList ∧ PyData.strOk r = true := by
                have h0 := Int.emod_nonneg (0 + (j : Int)) (show (3 : Int) ≠ 0 by decide)
                have h1 := Int.emod_lt_of_pos (0 + (j : Int)) (show (0 : Int) < 3 by decide)
                generalize (0 + (j : Int)) % 3 = e at *
                have hd : e = 0 ∨ e = 1 ∨ e = 2 := by omega
                rcases hd with rfl | rfl | rfl
                · exact ⟨_, rfl, by decide +kernel, by decide +kernel, by decide +kernel⟩
                · exact ⟨_, rfl, by decide +kernel, by decide +kernel, by decide +kernel⟩
                · exact ⟨_, rfl, by decide +kernel, by decide +kernel, by decide +kernel⟩
              obtain ⟨r, hat, hr1⟩ := hat
              refine w_ixL (.of h10) hat ?_
              refine w_acc (s10 _ _ hD) ha hj (sz (by omega)) (fun H6 k6 h6 => ⟨k6.same (s9.trans s10) nD, rows ++ [r], by simp, by simp [hrl], fun y hy => ?_⟩)
              rcases List.mem_append.mp hy with hy | hy
              · exact hrs y hy
              · rw [List.mem_singleton.mp hy]
                exact hr1
            · rintro D9 acc H9 nD9 ⟨s9, rows, rfl, hrl, hrs⟩ ha hD9
              refine go _ _ ⟨_, _, _, _, _, _, D9, rows, rfl, hD9, ⟨by omega, hrs⟩, ?_, p8.mono s9 (by omega), S8.trans s9⟩
              exact (ne_of_none p8.at.choose_spec nD9).symm
          · exact go _ _ ⟨_, _, _, _, _, _, D, rows, rfl, hD5, ⟨by omega, hrs⟩, nDp, p5.mono (.refl _) (by omega), S5⟩
        · rintro σ H4 ⟨w4, w5, w6, w7, w8, w9, d, rows, rfl, hd, hok, ndp, p4, S4⟩
          clear p3 k3 hrl hrs S3 hD nDp nD k2 p2 ha
          wtm_at "wp"
          rename_i q5 n5 H5 s5 h5
          refine ⟨p, 3, _, rfl, p4.mono s5 (Nat.le_refl _), by omega, by decide, by decide, fun d6 H6 d60 d61 k6 p6 => ?_⟩
          have nq5 : q5 ≠ p := (ne_of_none p4.at.choose_spec n5).symm
          have h56 := k6 _ _ h5 nq5
          have hd6 := k6 _ _ (s5 _ _ hd) ndp
          have S6 : Same H0' H6 := ((KB.of s5).trans k6).same S4 np
          have hat : ∃ m : Str, atI [V.str "", V.str "h1", V.str "s1.0"] d6 = some (.str m) := by
            have hd : d6 = 0 ∨ d6 = 1 ∨ d6 = 2 := by omega
            rcases hd with rfl | rfl | rfl
            · exact ⟨_, rfl⟩
            · exact ⟨_, rfl⟩
            · exact ⟨_, rfl⟩
          obtain ⟨m, hat⟩ := hat
          refine w_ixL (.of h56) hat ?_
          wtm_at "wp"
          refine w_listOf (.of hd6) (fun h H7 nh s7 hh => ?_)
          wtm_at "wp"
          refine ⟨h, rows, rfl, hh, hok, fun H8 s8 => ?_⟩
          wtm_at "wp"
          have hd8 := s8 _ _ (s7 _ _ hd6)
          have hh8 := s8 _ _ hh
          refine ⟨d, rows, rfl, .of hd8, hok, fun H9 s9 => ?_⟩
          wtm_at "wp"
          refine iteF' (by rw [decide_eq_true rfl]; rfl) ?_
          wtm_at "wp"
          have hd9 := s9 _ _ hd8
          have hh9 := s9 _ _ hh8
          refine w_neG (rows_dp hh9) (rows_dp hd9) (rows_good hok) (by decide) ?_
          wtm_at "wp"
          have S9 : Same H0' H9 := S6.trans (s7.trans (s8.trans s9))
          have nh0 : H0' h = none := same_free S6 nh
          have ndh : d ≠ h := ne_of_none hd6 nh
          clear s8 s9 hd8 hh8 hh s7 h56 hd6 hd
          refine ⟨2, rfl, by decide, by decide, ?_⟩
          refine for_fin (n := 2) fin_rng (fun j σ H' => ∃ v7 v8 v9 : Option V, σ = [some (.ref a), some (.int i), some (.ref p), some (.ref d), some (.str m), some (.ref h), some (.str (wt rows)), v7, v8, v9] ∧ Same H9 H') ⟨_, _, _, rfl, .refl _⟩ (fun _ _ _ _ _ => trivial) ?_ ?_
          · rintro j x σ H10 H10' hj ⟨v7, v8, v9, rfl, s10⟩ ⟨rfl, rfl⟩
            wtm_at "wp"
            refine w_callN ?_
            wtm_at "wp"
            refine w_nlen rfl rfl ?_
            refine ⟨rows, .str m, rfl, hok, fun r1 H11 nr1 s11 hr1 => ?_⟩
            wtm_at "wp"
            have hd11 := s11 _ _ (s10 _ _ hd9)
            refine w_neG (rows_dp hr1) (rows_dp hd11) (rows_good hok) (by decide) ?_
            wtm_at "wp"
            refine w_callD ?_
            wtm_at "wp"
            refine ⟨rows, .str "", rfl, hok, fun r2 H12 nr2 s12 hr2 => ?_⟩
            wtm_at "wp"
            refine w_neG (rows_dp hr2) (rows_dp (s12 _ _ hd11)) (rows_good hok) (by decide) ?_
            wtm_at "wp"
            refine w_append (s12 _ _ hr1) (Nat.lt_of_le_of_lt (by rw [List.length_map]; exact hok.1) (by decide)) (fun H13 k13 h13 => ?_)
            wtm_at "wp"
            refine w_reverse h13 (fun H14 k14 h14 => ?_)
            exact ⟨_, _, _, rfl, (k13.trans k14).same (s10.trans (s11.trans s12)) (same_free s10 nr1)⟩
          · rintro σ H10 ⟨v7, v8, v9, rfl, s10⟩
            wtm_at "wp"
            refine w_append (s10 _ _ hh9) (Nat.lt_of_le_of_lt (by rw [List.length_map]; exact hok.1) (by decide)) (fun H11 k11 h11 => ?_)
            wtm_at "wp"
            refine ⟨d, rows, rfl, k11 _ _ (s10 _ _ hd9) ndh, hok, fun H12 s12 => ?_⟩
            wtm_at "wp"
            refine iteF' (by rw [decide_eq_true rfl]; rfl) ?_
            wtm_at "wp"
            exact ⟨_, _, _, _, _, _, _, _, _, rfl, s0.trans ((k11.same (S9.trans s10) nh0).trans s12)⟩
    · rintro σ H1 ⟨v1, v2, v3, v4, v5, v6, v7, v8, v9, rfl, _⟩
      wtm_at "wp"
      exact k _
end
end K64

namespace K64
theorem all_mk {l : PySem.W.OpenLaw} {w : World} {K : PySem.W.Frag} {h : Heap} {mg : Str → Option Value} {fa : Addr} (X : K.In h) (G : h.Ns mainGlobals mg) (hfa : mg "law" = some (.ref fa))
    {f_check_of : Addr} {od_check_of an_check_of : Option Addr} {sl_check_of : Array (Option Value)} {oc_check_of kV_check_of dc_check_of pm_check_of cd_check_of ct_check_of : Value}
    {f_check_text : Addr} {od_check_text an_check_text : Option Addr} {sl_check_text : Array (Option Value)} {oc_check_text kV_check_text dc_check_text pm_check_text cd_check_text ct_check_text : Value}
    {f_whole_text : Addr} {od_whole_text an_whole_text : Option Addr} {sl_whole_text : Array (Option Value)} {oc_whole_text kV_whole_text dc_whole_text pm_whole_text cd_whole_text ct_whole_text : Value}
    {Dk_rows_of : Addr} {tkw_rows_of_name : Tok}
    {f_rows_of : Addr} {od_rows_of an_rows_of : Option Addr} {sl_rows_of : Array (Option Value)} {oc_rows_of  dc_rows_of pm_rows_of cd_rows_of ct_rows_of : Value}
    {f_law_purse : Addr} {od_law_purse an_law_purse : Option Addr} {sl_law_purse : Array (Option Value)} {oc_law_purse kV_law_purse dc_law_purse pm_law_purse cd_law_purse ct_law_purse : Value}
    {f_law_take : Addr} {od_law_take an_law_take : Option Addr} {sl_law_take : Array (Option Value)} {oc_law_take kV_law_take dc_law_take pm_law_take cd_law_take ct_law_take : Value}
    {f_law_row : Addr} {od_law_row an_law_row : Option Addr} {sl_law_row : Array (Option Value)} {oc_law_row kV_law_row dc_law_row pm_law_row cd_law_row ct_law_row : Value}
    {f_law_check : Addr} {od_law_check an_law_check : Option Addr} {sl_law_check : Array (Option Value)} {oc_law_check kV_law_check dc_law_check pm_law_check cd_law_check ct_law_check : Value}
    {f_law_whole : Addr} {od_law_whole an_law_whole : Option Addr} {sl_law_whole : Array (Option Value)} {oc_law_whole kV_law_whole dc_law_whole pm_law_whole cd_law_whole ct_law_whole : Value}
    {f_law : Addr} {od_law an_law : Option Addr} {sl_law : Array (Option Value)} {oc_law kV_law dc_law pm_law cd_law ct_law : Value}
    {tc_CHECK : Tok}
    {tc_FIGURES : Tok}
    {tc_MOST_ROWS : Tok}
    {tc_MOST_FIGURES : Tok}
    (a_check_of : PySem.W.nsIn K mainGlobals "check_of" = some (some (.ref f_check_of)))
    (l_check_of : K.lookup f_check_of = some ⟨oc_check_of, od_check_of, .func (PySem.W.fnOf "check_of" "check_of" (defArgs s_check_of) (defBody s_check_of) (defScope s_check_of) .none kV_check_of dc_check_of pm_check_of an_check_of cd_check_of ct_check_of), sl_check_of⟩)
    (c_check_of : PySem.W.codeIn K cd_check_of "check_of" = true)
    (k_check_of : PySem.W.keepIn K (.ref f_check_of) = true)
    (a_check_text : PySem.W.nsIn K mainGlobals "check_text" = some (some (.ref f_check_text)))
    (l_check_text : K.lookup f_check_text = some ⟨oc_check_text, od_check_text, .func (PySem.W.fnOf "check_text" "check_text" (defArgs s_check_text) (defBody s_check_text) (defScope s_check_text) .none kV_check_text dc_check_text pm_check_text an_check_text cd_check_text ct_check_text), sl_check_text⟩)
    (c_check_text : PySem.W.codeIn K cd_check_text "check_text" = true)
    (k_check_text : PySem.W.keepIn K (.ref f_check_text) = true)
    (a_whole_text : PySem.W.nsIn K mainGlobals "whole_text" = some (some (.ref f_whole_text)))
    (l_whole_text : K.lookup f_whole_text = some ⟨oc_whole_text, od_whole_text, .func (PySem.W.fnOf "whole_text" "whole_text" (defArgs s_whole_text) (defBody s_whole_text) (defScope s_whole_text) .none kV_whole_text dc_whole_text pm_whole_text an_whole_text cd_whole_text ct_whole_text), sl_whole_text⟩)
    (c_whole_text : PySem.W.codeIn K cd_whole_text "whole_text" = true)
    (k_whole_text : PySem.W.keepIn K (.ref f_whole_text) = true)
    (a_rows_of : PySem.W.nsIn K mainGlobals "rows_of" = some (some (.ref f_rows_of)))
    (l_rows_of : K.lookup f_rows_of = some ⟨oc_rows_of, od_rows_of, .func (PySem.W.fnOf "rows_of" "rows_of" (defArgs s_rows_of) (defBody s_rows_of) (defScope s_rows_of) .none (.ref Dk_rows_of) dc_rows_of pm_rows_of an_rows_of cd_rows_of ct_rows_of), sl_rows_of⟩)
    (kw_rows_of_name : PySem.W.nsIn K Dk_rows_of "name" = some (some (.str "" tkw_rows_of_name)))
    (c_rows_of : PySem.W.codeIn K cd_rows_of "rows_of" = true)
    (k_rows_of : PySem.W.keepIn K (.ref f_rows_of) = true)
    (a_law_purse : PySem.W.nsIn K mainGlobals "_law_purse" = some (some (.ref f_law_purse)))
    (l_law_purse : K.lookup f_law_purse = some ⟨oc_law_purse, od_law_purse, .func (PySem.W.fnOf "_law_purse" "_law_purse" (defArgs s_law_purse) (defBody s_law_purse) (defScope s_law_purse) .none kV_law_purse dc_law_purse pm_law_purse an_law_purse cd_law_purse ct_law_purse), sl_law_purse⟩)
    (c_law_purse : PySem.W.codeIn K cd_law_purse "_law_purse" = true)
    (k_law_purse : PySem.W.keepIn K (.ref f_law_purse) = true)
    (a_law_take : PySem.W.nsIn K mainGlobals "_law_take" = some (some (.ref f_law_take)))
    (l_law_take : K.lookup f_law_take = some ⟨oc_law_take, od_law_take, .func (PySem.W.fnOf "_law_take" "_law_take" (defArgs s_law_take) (defBody s_law_take) (defScope s_law_take) .none kV_law_take dc_law_take pm_law_take an_law_take cd_law_take ct_law_take), sl_law_take⟩)
    (c_law_take : PySem.W.codeIn K cd_law_take "_law_take" = true)
    (k_law_take : PySem.W.keepIn K (.ref f_law_take) = true)
    (a_law_row : PySem.W.nsIn K mainGlobals "_law_row" = some (some (.ref f_law_row)))
    (l_law_row : K.lookup f_law_row = some ⟨oc_law_row, od_law_row, .func (PySem.W.fnOf "_law_row" "_law_row" (defArgs s_law_row) (defBody s_law_row) (defScope s_law_row) .none kV_law_row dc_law_row pm_law_row an_law_row cd_law_row ct_law_row), sl_law_row⟩)
    (c_law_row : PySem.W.codeIn K cd_law_row "_law_row" = true)
    (k_law_row : PySem.W.keepIn K (.ref f_law_row) = true)
    (a_law_check : PySem.W.nsIn K mainGlobals "_law_check" = some (some (.ref f_law_check)))
    (l_law_check : K.lookup f_law_check = some ⟨oc_law_check, od_law_check, .func (PySem.W.fnOf "_law_check" "_law_check" (defArgs s_law_check) (defBody s_law_check) (defScope s_law_check) .none kV_law_check dc_law_check pm_law_check an_law_check cd_law_check ct_law_check), sl_law_check⟩)
    (c_law_check : PySem.W.codeIn K cd_law_check "_law_check" = true)
    (k_law_check : PySem.W.keepIn K (.ref f_law_check) = true)
    (a_law_whole : PySem.W.nsIn K mainGlobals "_law_whole" = some (some (.ref f_law_whole)))
    (l_law_whole : K.lookup f_law_whole = some ⟨oc_law_whole, od_law_whole, .func (PySem.W.fnOf "_law_whole" "_law_whole" (defArgs s_law_whole) (defBody s_law_whole) (defScope s_law_whole) .none kV_law_whole dc_law_whole pm_law_whole an_law_whole cd_law_whole ct_law_whole), sl_law_whole⟩)
    (c_law_whole : PySem.W.codeIn K cd_law_whole "_law_whole" = true)
    (k_law_whole : PySem.W.keepIn K (.ref f_law_whole) = true)
    (a_law : PySem.W.nsIn K mainGlobals "law" = some (some (.ref f_law)))
    (l_law : K.lookup f_law = some ⟨oc_law, od_law, .func (PySem.W.fnOf "law" "law" (defArgs s_law) (defBody s_law) (defScope s_law) .none kV_law dc_law pm_law an_law cd_law ct_law), sl_law⟩)
    (c_law : PySem.W.codeIn K cd_law "law" = true)
    (k_law : PySem.W.keepIn K (.ref f_law) = true)
    (z_isinstance : PySem.W.nsIn K mainGlobals "isinstance" = some none)
    (z_bool : PySem.W.nsIn K mainGlobals "bool" = some none)
    (z_int : PySem.W.nsIn K mainGlobals "int" = some none)
    (z_str : PySem.W.nsIn K mainGlobals "str" = some none)
    (z_list : PySem.W.nsIn K mainGlobals "list" = some none)
    (z_len : PySem.W.nsIn K mainGlobals "len" = some none)
    (z_max : PySem.W.nsIn K mainGlobals "max" = some none)
    (z_min : PySem.W.nsIn K mainGlobals "min" = some none)
    (z_range : PySem.W.nsIn K mainGlobals "range" = some none)
    (z_abs : PySem.W.nsIn K mainGlobals "abs" = some none)
    (z_ord : PySem.W.nsIn K mainGlobals "ord" = some none)
    (g_CHECK : PySem.W.nsIn K mainGlobals "CHECK" = some (some (.int 65521 tc_CHECK)))
    (g_FIGURES : PySem.W.nsIn K mainGlobals "FIGURES" = some (some (.str "0123456789abcdef" tc_FIGURES)))
    (g_MOST_ROWS : PySem.W.nsIn K mainGlobals "MOST_ROWS" = some (some (.int 9999 tc_MOST_ROWS)))
    (g_MOST_FIGURES : PySem.W.nsIn K mainGlobals "MOST_FIGURES" = some (some (.int 4 tc_MOST_FIGURES))) :
    ∃ fd : FuncData, (∀ (s : Shared) (v : Value), BindsTo s fd ⟨[v], []⟩ [("_law_script", v)]) ∧ ∀ base : Heap, K.In base → base.Ns mainGlobals mg → FnOk l.prog w K mg base CX0 5 fa fd ["_law_script"] (spLaw K) := by
  have e := hfa.symm.trans (PySem.W.mg_of X G a_law)
  cases e
  have T : Txt K mg := ⟨⟨_, PySem.W.mg_of X G g_CHECK⟩, ⟨_, PySem.W.mg_of X G g_FIGURES⟩, ⟨_, PySem.W.mg_of X G g_MOST_ROWS⟩, ⟨_, PySem.W.mg_of X G g_MOST_FIGURES⟩, PySem.W.mg_none_of X G z_isinstance, PySem.W.mg_none_of X G z_bool, PySem.W.mg_none_of X G z_int, PySem.W.mg_none_of X G z_str, PySem.W.mg_none_of X G z_list, PySem.W.mg_none_of X G z_len, PySem.W.mg_none_of X G z_max, PySem.W.mg_none_of X G z_min, PySem.W.mg_none_of X G z_range, PySem.W.mg_none_of X G z_abs, PySem.W.mg_none_of X G z_ord⟩
  have F_check_of := fun_mk (st := s_check_of) l_check_of c_check_of k_check_of
  have b_check_of := F_check_of.binds (ps := ["rows"]) fun _ _ _ _ _ _ us hl => match us, hl with | [_], _ => rfl
  have F_check_text := fun_mk (st := s_check_text) l_check_text c_check_text k_check_text
  have b_check_text := F_check_text.binds (ps := ["check"]) fun _ _ _ _ _ _ us hl => match us, hl with | [_], _ => rfl
  have F_whole_text := fun_mk (st := s_whole_text) l_whole_text c_whole_text k_whole_text
  have b_whole_text := F_whole_text.binds (ps := ["rows"]) fun _ _ _ _ _ _ us hl => match us, hl with | [_], _ => rfl
  have F_rows_of : FunD K "rows_of" "rows_of" (defArgs s_rows_of) (defBody s_rows_of) (defScope s_rows_of) [] [("name", .str "")] f_rows_of _ := ⟨⟨_, _, _, _, _, _, _, _, _, _, rfl, l_rows_of, c_rows_of, .inl ⟨rfl, rfl⟩, .inr ⟨_, rfl, fun q hq => by
    simp only [List.mem_cons, List.not_mem_nil, or_false] at hq
    rcases hq with rfl
    · exact ⟨_, kw_rows_of_name, ⟨_, rfl⟩⟩⟩⟩, k_rows_of⟩
  have F_law_purse := fun_mk (st := s_law_purse) l_law_purse c_law_purse k_law_purse
  have b_law_purse := F_law_purse.binds (ps := ["_law_script", "_law_at"]) fun _ _ _ _ _ _ us hl => match us, hl with | [_, _], _ => rfl
  have F_law_take := fun_mk (st := s_law_take) l_law_take c_law_take k_law_take
  have b_law_take := F_law_take.binds (ps := ["_law_purse_here", "_law_many"]) fun _ _ _ _ _ _ us hl => match us, hl with | [_, _], _ => rfl
  have F_law_row := fun_mk (st := s_law_row) l_law_row c_law_row k_law_row
  have b_law_row := F_law_row.binds (ps := ["_law_purse_here", "_law_most"]) fun _ _ _ _ _ _ us hl => match us, hl with | [_, _], _ => rfl
  have F_law_check := fun_mk (st := s_law_check) l_law_check c_law_check k_law_check
  have b_law_check := F_law_check.binds (ps := ["_law_rows"]) fun _ _ _ _ _ _ us hl => match us, hl with | [_], _ => rfl
  have F_law_whole := fun_mk (st := s_law_whole) l_law_whole c_law_whole k_law_whole
  have b_law_whole := F_law_whole.binds (ps := ["_law_rows"]) fun _ _ _ _ _ _ us hl => match us, hl with | [_], _ => rfl
  have F_law := fun_mk (st := s_law) l_law c_law k_law
  refine ⟨PySem.W.fnOf "law" "law" (defArgs s_law) (defBody s_law) (defScope s_law) .none kV_law dc_law pm_law an_law cd_law ct_law, fun s v => .of_eq rfl, fun base _ _ => ?_⟩
  have f_check_of : Fn l.prog w K mg base "check_of" _ _ _ := ⟨_, _, ok_check F_check_of T, PySem.W.mg_of X G a_check_of, k_check_of, b_check_of⟩
  have f_check_text : Fn l.prog w K mg base "check_text" _ _ _ := ⟨_, _, ok_checkt F_check_text T, PySem.W.mg_of X G a_check_text, k_check_text, b_check_text⟩
  have f_whole_text : Fn l.prog w K mg base "whole_text" _ _ _ := ⟨_, _, ok_wt F_whole_text T f_check_of f_check_text, PySem.W.mg_of X G a_whole_text, k_whole_text, b_whole_text⟩
  have G_rows := ok_rows (P := l.prog) (w := w) (base := base) F_rows_of T f_check_of f_whole_text
  obtain ⟨d1, hd1, hb1⟩ := F_rows_of.binds0 (ps := ["text", "name"]) 1 (by simp) rfl (fun D doc pm an cdv ct us ks h1 h2 => match us, ks, h1, h2 with | [_], [_], _, _ => ⟨_, _, _, _, _, _, rfl, rfl, rfl⟩)
  obtain ⟨mv, hb2⟩ := F_rows_of.kbinds0 (ps := ["text", "name"]) 1 ["name"] [] (fun us _ ws => us ++ ws) (by simp) (by simp) (fun a b c => a.append c) (fun D doc pm an cdv ct us mv ws h1 h2 h3 => match us, mv, ws, h1, h2, h3 with | [_], [], [_], _, _, _ => rfl)
  have f_rows_of_1 : FnD l.prog w K mg base CX0 "rows_of" _ _ [.str ""] _ := ⟨_, _, _, G_rows, PySem.W.mg_of X G a_rows_of, k_rows_of, hb1, hd1⟩
  have f_rows_of_name : FnK l.prog w K mg base CX0 "rows_of" _ _ 1 ["name"] (fun vs zs => vs ++ zs) _ := ⟨_, _, _, G_rows, PySem.W.mg_of X G a_rows_of, k_rows_of, hb2⟩
  have f__law_purse : Fn l.prog w K mg base "_law_purse" _ _ _ := ⟨_, _, ok_pool F_law_purse T, PySem.W.mg_of X G a_law_purse, k_law_purse, b_law_purse⟩
  have f__law_take : Fn l.prog w K mg base "_law_take" _ _ _ := ⟨_, _, ok_take F_law_take , PySem.W.mg_of X G a_law_take, k_law_take, b_law_take⟩
  have f__law_row : Fn l.prog w K mg base "_law_row" _ _ _ := ⟨_, _, ok_row F_law_row T f__law_take, PySem.W.mg_of X G a_law_row, k_law_row, b_law_row⟩
  have f__law_check : Fn l.prog w K mg base "_law_check" _ _ _ := ⟨_, _, ok_checkL F_law_check T, PySem.W.mg_of X G a_law_check, k_law_check, b_law_check⟩
  have f__law_whole : Fn l.prog w K mg base "_law_whole" _ _ _ := ⟨_, _, ok_whole F_law_whole T f__law_check, PySem.W.mg_of X G a_law_whole, k_law_whole, b_law_whole⟩
  exact ok_law F_law T f__law_purse f__law_take f__law_row f__law_whole f_whole_text f_rows_of_1 f_rows_of_name
end K64

open PySem PySem.W PyProof.Rows
set_option maxRecDepth 100000 in
set_option maxHeartbeats 0 in
theorem PySem.Challenge.cw_blocksearch_k64_whole_texts_told_holds : PySem.Challenge.rw_blocksearch_k64_whole_texts_told.Holds := by
  w_on; o_law; k_head; (case hw => w_witness2)
  k_fill
  refine L2.walk_of (l := PySem.Challenge.rw_blocksearch_k64_whole_texts_told) (n := 63) (k := 5) (x := "_law_script") (CX := fun _ => L2.CX0) (sp := fun w => K64.spLaw _) rfl (by decide) rfl ⟨rfl, by decide, by decide⟩ (fun w h Y => PySem.W.kIn_of Y) ?F (fun _ _ a ns hl _ hS => ⟨a, ns, rfl, hS, hl, fun _ => rfl⟩) (fun _ _ _ _ _ h => h)
  case F =>
    intro w mg fa h KX G hmg
    refine' K64.all_mk KX G hmg ?a_check_of ?l_check_of ?c_check_of ?k_check_of ?a_check_text ?l_check_text ?c_check_text ?k_check_text ?a_whole_text ?l_whole_text ?c_whole_text ?k_whole_text ?a_rows_of ?l_rows_of ?kw_rows_of_name ?c_rows_of ?k_rows_of ?a_law_purse ?l_law_purse ?c_law_purse ?k_law_purse ?a_law_take ?l_law_take ?c_law_take ?k_law_take ?a_law_row ?l_law_row ?c_law_row ?k_law_row ?a_law_check ?l_law_check ?c_law_check ?k_law_check ?a_law_whole ?l_law_whole ?c_law_whole ?k_law_whole ?a_law ?l_law ?c_law ?k_law ?z_isinstance ?z_bool ?z_int ?z_str ?z_list ?z_len ?z_max ?z_min ?z_range ?z_abs ?z_ord ?g_CHECK ?g_FIGURES ?g_MOST_ROWS ?g_MOST_FIGURES
    (case a_check_of => k_is); (case l_check_of => k_is); (case c_check_of => k_is); (case k_check_of => k_is); (case a_check_text => k_is); (case l_check_text => k_is); (case c_check_text => k_is); (case k_check_text => k_is); (case a_whole_text => k_is); (case l_whole_text => k_is); (case c_whole_text => k_is); (case k_whole_text => k_is); (case a_rows_of => k_is); (case l_rows_of => k_is); (case kw_rows_of_name => k_is); (case c_rows_of => k_is); (case k_rows_of => k_is); (case a_law_purse => k_is); (case l_law_purse => k_is); (case c_law_purse => k_is); (case k_law_purse => k_is); (case a_law_take => k_is); (case l_law_take => k_is); (case c_law_take => k_is); (case k_law_take => k_is); (case a_law_row => k_is); (case l_law_row => k_is); (case c_law_row => k_is); (case k_law_row => k_is); (case a_law_check => k_is); (case l_law_check => k_is); (case c_law_check => k_is); (case k_law_check => k_is); (case a_law_whole => k_is); (case l_law_whole => k_is); (case c_law_whole => k_is); (case k_law_whole => k_is); (case a_law => k_is); (case l_law => k_is); (case c_law => k_is); (case k_law => k_is); (case z_isinstance => k_is); (case z_bool => k_is); (case z_int => k_is); (case z_str => k_is); (case z_list => k_is); (case z_len => k_is); (case z_max => k_is); (case z_min => k_is); (case z_range => k_is); (case z_abs => k_is); (case z_ord => k_is); (case g_CHECK => k_is); (case g_FIGURES => k_is); (case g_MOST_ROWS => k_is); (case g_MOST_FIGURES => k_is)

