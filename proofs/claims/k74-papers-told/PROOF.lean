import PyProof.Rows.All
import Wide.All
import OpenK.AllK
import Wide.FinOn
import KE.OsRunLaw
import HandS.EndTab
import HandS.HeadWalk
import HandS.ForMost
import HandS.Evl
import HandS.Wide
import HandS.IsInst
import HandS.Exc
import HandS.Defaults
import HandS.TryMany
import HandS.ExcOwn
import HandS.ExcIs
import HandS.HotCalls
import HandS.ExcField
import HandS.Lambda
import HandS.ExcInit
import HandS.WordsExc
import HandS.Deep
import KE.KExcIs
import KE.DataFind
import HandS.Small
import HandS.RaiseMore
import HandS.Steps
import PyProof.CollectIter
import PyProof.WalksMore
import HandS.More
import HandS.WideBits
import HandS.Replace
import HandS.Style
import HandS.SetKeys
import HandS.MakeKwOnly
import HandS.IntHex
import HandS.StrMore
import HandS.Rindex
import PyProof.Rows.StrNews2
import PyProof.StrLawsLast
import HandS.OwnEq
import HandS.FStr
import OpenK.KOps
import KE.KCallOwn
import HandS.CallLocal
import HandS.TupAny
import HandS.NoneIn
import HandS.Zip
import HandS.Comp
import HandS.SetBool
import HandS.Strs
import HandS.Zip0
import HandS.Conv
import HandS.SuiteRaise
import HandS.RaiseFrom
import HandS.Hot
import PySem.Challenge.RW_blocksearch_k74_papers_told
set_option Elab.async false
set_option linter.all false
set_option maxRecDepth 100000
set_option maxHeartbeats 4000000
set_option autoImplicit false
section HeadRun
open PySem PySem.W PySem.Calls PyProof.Rows
set_option maxRecDepth 100000 in
set_option maxHeartbeats 0 in
open_top topK74 for PySem.Challenge.rw_blocksearch_k74_papers_told
end HeadRun

/-! The layer of this work: bundles of defs, readings as steps. -/
namespace Bw
open PySem PySem.Spec L2

/-! ### a def that lets nothing out, as its callers want it -/
structure Fn (P : Program) (w : World) (K : PySem.W.Frag) (mg : Str → Option Value) (base : Heap) (x : Str) (k : Nat) (ps : List Str) (sp : Sp) : Prop where
  ex : ∃ (f : Addr) (fd : FuncData), FnOk P w K mg base CX0 k f fd ps sp ∧ mg x = some (.ref f) ∧ PySem.W.keepIn K (.ref f) = true ∧ Binds K fd ps []
section
variable {X : Cx}
theorem pe_fn {x : Str} {k : Nat} {ps : List Str} {sp : Sp} {e : Expr} {es : List Expr} {t : TA} {p pos : Pos} (F : Fn X.prog X.w X.K X.mg X.base x k ps sp) (hr : Room k X.A) (hg : Gl X x) (ha : PA X (e :: es) t)
    (hdb : (x == ("__debug__" : Str)) = false := by decide) (he : starEach (e :: es) X.env = (false, eval e X.env) :: starEach es X.env := by rfl) (hpl : (backTo pos (starEach es X.env)).any (·.1) = false := by rfl) :
    PE X (.Call (.Name x p) (e :: es) [] pos) (tCall sp [] E0 t) := by
  obtain ⟨f, fd, G, hm, hk, hb⟩ := F.ex
  exact pe_call G hr hg hm hk hb .nil pass0 ha hdb he hpl
theorem pe_fn0 {x : Str} {k : Nat} {ps : List Str} {sp : Sp} {p pos : Pos} (F : Fn X.prog X.w X.K X.mg X.base x k ps sp) (hr : Room k X.A) (hg : Gl X x)
    (hdb : (x == ("__debug__" : Str)) = false := by decide) : PE X (.Call (.Name x p) [] [] pos) (tCall sp [] E0 tNil) := by
  obtain ⟨f, fd, G, hm, hk, hb⟩ := F.ex
  exact pe_call0 G hr hg hm hk hb .nil pass0 hdb
end
/-! ### methods and makers as their callers want them -/
structure Me (P : Program) (w : World) (K : PySem.W.Frag) (mg : Str → Option Value) (base : Heap) (C : Addr) (m : Str) (k : Nat) (ps : List Str) (sp : Sp) : Prop where
  ex : ∃ (f : Addr) (fd : FuncData), FnOk P w K mg base CX0 k f fd ps sp ∧ Meth K C m f ∧ Binds K fd ps []
structure Mkr (P : Program) (w : World) (K : PySem.W.Frag) (mg : Str → Option Value) (base : Heap) (x : Str) (C : Addr) (k : Nat) (ps : List Str) (dvs : List V) (sp : Sp) : Prop where
  ex : ∃ (f : Addr) (fd : FuncData) (ds : List Value), Mk K C f ∧ FnOk P w K mg base CX0 k f fd ps sp ∧ mg x = some (.ref C) ∧ Binds K fd ps ds ∧ Vals dvs ds
section
variable {X : Cx}
theorem pe_me {pl : Sem Bool} {C : Addr} {m : Str} {k : Nat} {ps : List Str} {sp : Sp} {o e : Expr} {es : List Expr} {t : TA} {ta : TE} {apos pos : Pos} (he : PE X o ta) (c : Cls X.K C) (M : Me X.prog X.w X.K X.mg X.base C m k ps sp) (hr : Room k X.A) (ha : PA X (e :: es) t)
    (hst : starEach (e :: es) X.env = (false, eval e X.env) :: starEach es X.env := by rfl) (hpl : (backTo pos (starEach es X.env)).any (·.1) = false := by rfl)
    (ht : eval (.Call (.Attribute o m apos) (e :: es) [] pos) X.env = (do
      let ov ← eval o X.env
      standAt apos.atName
      let (f, first) ← holding [ov] (getMethod ov m pl)
      callWith pos f first (backTo pos (starEach (e :: es) X.env)) (backToKw pos (keywordEach [] X.env))) := by rfl) :
    PE X (.Call (.Attribute o m apos) (e :: es) [] pos) (tMeth C m sp [] E0 ta t) := by
  obtain ⟨f, fd, G, hm, hb⟩ := M.ex
  exact pe_meth he c hm G hr hb .nil pass0 ha hst hpl ht
theorem pe_me0 {pl : Sem Bool} {C : Addr} {m : Str} {k : Nat} {ps : List Str} {sp : Sp} {o : Expr} {ta : TE} {apos pos : Pos} (he : PE X o ta) (c : Cls X.K C) (M : Me X.prog X.w X.K X.mg X.base C m k ps sp) (hr : Room k X.A)
    (ht : eval (.Call (.Attribute o m apos) [] [] pos) X.env = (do
      let ov ← eval o X.env
      standAt apos.atName
      let (f, first) ← holding [ov] (getMethod ov m pl)
      callWith pos f first (backTo pos (starEach [] X.env)) (backToKw pos (keywordEach [] X.env))) := by rfl) :
    PE X (.Call (.Attribute o m apos) [] [] pos) (tMeth C m sp [] E0 ta tNil) := by
  obtain ⟨f, fd, G, hm, hb⟩ := M.ex
  exact pe_meth0 he c hm G hr hb .nil pass0 ht
theorem pe_mkr {x : Str} {C : Addr} {k : Nat} {ps : List Str} {dvs : List V} {sp : Sp} {e : Expr} {es : List Expr} {t : TA} {p pos : Pos} (M : Mkr X.prog X.w X.K X.mg X.base x C k ps dvs sp) (hr : Room (k + 1) X.A) (hg : Gl X x) (ha : PA X (e :: es) t)
    (hdb : (x == ("__debug__" : Str)) = false := by decide) (he : starEach (e :: es) X.env = (false, eval e X.env) :: starEach es X.env := by rfl) (hpl : (backTo pos (starEach es X.env)).any (·.1) = false := by rfl) :
    PE X (.Call (.Name x p) (e :: es) [] pos) (tMake C sp dvs E0 t) := by
  obtain ⟨f, fd, ds, M, G, hm, hb, hd⟩ := M.ex
  exact pe_make M G hr hg hm hb hd pass0 ha hdb he hpl
theorem pe_gint {x : Str} {n : Int} {p : Pos} (h : ∃ t, X.mg x = some (.int n t)) (hg : Gl X x) (hd : (x == ("__debug__" : Str)) = false := by decide) : PE X (.Name x p) (tC (.int n)) := by
  obtain ⟨t, h⟩ := h
  exact pe_glob hg h ⟨t, rfl⟩ hd
theorem pe_gstr {x : Str} {z : Str} {p : Pos} (h : ∃ t, X.mg x = some (.str z t)) (hg : Gl X x) (hd : (x == ("__debug__" : Str)) = false := by decide) : PE X (.Name x p) (tC (.str z)) := by
  obtain ⟨t, h⟩ := h
  exact pe_glob hg h ⟨t, rfl⟩ hd
end
section
variable {X : Cx}
/-! ### an attribute as a target -/
def gFld (K : PySem.W.Frag) (to : TE) (f : Str) : TG := fun v σ H Q => to σ H fun x H1 => ∃ a C dx fs, x = .ref a ∧ H1 a = some (.ins C dx fs) ∧ Cls K C ∧ NoAttr K C f ∧ fs.length < 1000 ∧ Q σ (upd H1 a (.ins C dx (putF f v fs)))
theorem pg_fld {o : Expr} {f : Str} {pos : Pos} {to : TE} (ho : PE X o to) : PG X (.Attribute o f pos) (gFld X.K to f) := by
  refine ⟨fun pins s σ H v u Q I r h => ?_⟩
  rw [assign_Attribute]
  refine wpAny_bind (wpAny_holding (thn (ho.run pins s σ H _ I h) fun ov s1 ⟨x, H1, I1, r1, a, C, dx, fs, ex, ea, c, n, l, q1⟩ => ?_))
  subst ex
  obtain rfl : ov = Value.ref a := r1
  refine wpAny_bind (wpAny_standAt (wpAny_bind (wpAny_holding (setattr_ok I1 ea c n l r fun s3 I3 => ?_))))
  exact wpAny_release ⟨σ, _, I3, q1⟩

/-! ### ints of any size -/
def CDivU (_ j : Int) : Prop := j ≠ 0 ∧ j.natAbs.log2 < 9000
theorem op_fdivU : OpR X (binaryOp .FloorDiv) (rI CDivU fun i j => .int (i.fdiv j)) := opI fun i j _ _ _ _ _ hc q =>
  PyProof.Rows.floordiv_int hc.1 q (.inl (PyProof.noPylong_of_log2 hc.2))
def CMulU (i j : Int) : Prop := IntMulOk i j
theorem op_mulU : OpR X (binaryOp .Mult) (rI CMulU fun i j => .int (i * j)) := opI fun _ _ _ _ _ _ _ hc q => PyProof.Rows.mul_int q hc
def CPowU (i j : Int) : Prop := 0 ≤ j ∧ (Builtin.Int.intBits i : Int) * j ≤ 2 ^ 27
theorem op_powU : OpR X (binaryOp .Pow) (rI CPowU fun i j => .int (i ^ j.toNat)) := opI fun _ _ _ _ _ _ _ hc q => PyProof.Rows.pow_int hc.1 hc.2 q
end
theorem bits_le {x : Int} {a : Nat} (h : x.natAbs < 2 ^ a) (h0 : 0 < a) : Builtin.Int.intBits x ≤ a := by
  unfold Builtin.Int.intBits
  split
  · omega
  · exact PySem.Flt.log2_lt_of h0 h
theorem powU {i j : Int} {a : Nat} (h : i.natAbs < 2 ^ a) (h0 : 0 < a) (hj : 0 ≤ j) (hs : (a : Int) * j ≤ 2 ^ 27) : CPowU i j := by
  refine ⟨hj, Int.le_trans (Int.mul_le_mul_of_nonneg_right (Int.ofNat_le.mpr (bits_le h h0)) hj) hs⟩
theorem divU {i j : Int} {b : Nat} (h : j ≠ 0) (hb : j.natAbs < 2 ^ b) (h0 : 0 < b) (h9 : b ≤ 9000) : CDivU i j := ⟨h, Nat.lt_of_lt_of_le (PySem.Flt.log2_lt_of h0 hb) h9⟩

/-! ### named readings of calls -/
section
variable {X : Cx}
theorem callR_imp {f : Value} {r r' : List V → Hp → VK → Prop} (h : CallR X f r) (i : ∀ xs H Q, r' xs H Q → r xs H Q) : CallR X f r' :=
  fun pins s σ H xs us Q I rv q => h pins s σ H xs us Q I rv (i _ _ _ q)
theorem opR_imp {f : Value → Value → Sem Value} {r r' : R2} (h : OpR X f r) (i : ∀ x y H Q, r' x y H Q → r x y H Q) : OpR X f r' :=
  fun pins s σ H x y v u Q I rx ry q => h pins s σ H x y v u Q I rx ry (i _ _ _ _ q)
def rAbs : List V → Hp → VK → Prop := fun xs H Q => ∃ i : Int, xs = [.int i] ∧ Q (.int i.natAbs) H
theorem cl_abs : CallR X (.builtin "abs") rAbs := callR_imp call_abs fun xs H Q ⟨i, e, q⟩ => ⟨i, e, by
  have : (if i < 0 then -i else i) = (i.natAbs : Int) := by split <;> omega
  rw [this]; exact q⟩
def rMaxI : List V → Hp → VK → Prop := fun xs H Q => ∃ i j : Int, xs = [.int i, .int j] ∧ Q (.int (max i j)) H
def rMinI : List V → Hp → VK → Prop := fun xs H Q => ∃ i j : Int, xs = [.int i, .int j] ∧ Q (.int (min i j)) H
theorem cl_max (hc : X.calm = true) : CallR X (.builtin "max") rMaxI := callR_imp (call_max2 hc) fun xs H Q ⟨i, j, e, q⟩ => ⟨i, j, e, by
  have : (if j > i then j else i) = max i j := by split <;> omega
  rw [this]; exact q⟩
theorem cl_min (hc : X.calm = true) : CallR X (.builtin "min") rMinI := callR_imp (call_min2 hc) fun xs H Q ⟨i, j, e, q⟩ => ⟨i, j, e, by
  have : (if j < i then j else i) = min i j := by split <;> omega
  rw [this]; exact q⟩
def rIntOf : List V → Hp → VK → Prop := fun xs H Q => (∃ i, xs = [.int i] ∧ Q (.int i) H) ∨ ∃ k : Bool, xs = [.bl k] ∧ Q (.int (if k then 1 else 0)) H
theorem cl_int : CallR X (.type "int") rIntOf := call_int1
def rLen (K : PySem.W.Frag) : List V → Hp → VK → Prop := fun xs H Q => ∃ x n, xs = [x] ∧ LenV K x H n ∧ Q (.int n) H
theorem cl_len : CallR X (.builtin "len") (rLen X.K) := call_len
def rStrI : List V → Hp → VK → Prop := fun xs H Q => ∃ i : Int, xs = [.int i] ∧ i.natAbs.log2 < 1920 ∧ Q (.str (toString i)) H
theorem cl_str : CallR X (.type "str") rStrI := call_str_int
def rOrd : List V → Hp → VK → Prop := fun xs H Q => ∃ x, xs = [.str x] ∧ x.length = 1 ∧ Q (.int (x.cps.getD 0 0 : Nat)) H
theorem cl_ord : CallR X (.builtin "ord") rOrd := call_ord
def rAddS : R2 := fun x y H Q => ∃ i j, x = .str i ∧ y = .str j ∧ i.length + j.length ≤ sizeLine ∧ Q (.str (i ++ j)) H
theorem op_addS : OpR X (binaryOp .Add) rAddS := op_add_str
def rIs0 : R2 := fun x y H Q => y = .non ∧ Q (.bl (decide (x = .non))) H
def rIsNot0 : R2 := fun x y H Q => y = .non ∧ Q (.bl (!decide (x = .non))) H
theorem op_is0 : OpR X (compareOp .Is) rIs0 := op_isN
theorem op_isnot0 : OpR X (compareOp .IsNot) rIsNot0 := op_notN
end

/-! ### readings, step by step -/
section
variable {σ : St} {H H' : Hp} {i : Nat} {v x y z : V} {ta tb te tv tc : TE} {b : Bool} {K : PySem.W.Frag} {Q : VK} {QB : Bool → Hp → Prop} {D : Ends} {t u : TS} {tt tu : TT} {a : Addr} {r r' : R2}
theorem w_seq (h : t { D with nx := u D } σ H) : tSeq t u D σ H := h
theorem w_next (h : D.nx σ H) : tNext D σ H := h
theorem w_set (h : te σ H fun x H1 => D.nx (σ.set i (some x)) H1) : tAsg te (gName i) D σ H := h
theorem w_asg {g : TG} (h : te σ H fun x H1 => g x σ H1 D.nx) : tAsg te g D σ H := h
theorem w_par {j : Nat} {tA : TA} (h : tA σ H fun vs H1 => ∃ v w, vs = [v, w] ∧ D.nx ((σ.set i (some v)).set j (some w)) H1) : tPar i j tA D σ H := h
theorem w_ret (h : te σ H D.rt) : tRet te D σ H := h
theorem w_retN (h : D.rt .non H) : tRetN D σ H := h
theorem w_drop (h : te σ H fun _ H1 => D.nx σ H1) : tDrop te D σ H := h
theorem w_if (h : tt σ H fun b H1 => if b = true then t D σ H1 else u D σ H1) : tIfS tt t u D σ H := h
theorem w_ifE (h : tt σ H fun b H1 => if b = true then ta σ H1 Q else tb σ H1 Q) : tIf tt ta tb σ H Q := h
theorem w_var (h : σ[i]? = some (some v)) (q : Q v H) : tVar i σ H Q := ⟨v, h, q⟩
theorem w_c (q : Q v H) : tC v σ H Q := q
theorem w_op (h : ta σ H fun x H1 => tb σ H1 fun y H2 => r x y H2 Q) : tOp r ta tb σ H Q := h
theorem w_un {r : V → Hp → VK → Prop} (h : ta σ H fun x H1 => r x H1 Q) : tUn r ta σ H Q := h
theorem w_I0 {g : Int → Int → V} {m n : Int} (q : Q (g m n) H) : rI0 g (.int m) (.int n) H Q := ⟨m, n, rfl, rfl, q⟩
theorem w_I {C : Int → Int → Prop} {g : Int → Int → V} {m n : Int} (hc : C m n) (q : Q (g m n) H) : rI C g (.int m) (.int n) H Q := ⟨m, n, rfl, rfl, hc, q⟩
theorem w_U {g : Int → V} {m : Int} (q : Q (g m) H) : rU g (.int m) H Q := ⟨m, rfl, q⟩
theorem w_eq (h : scal x y = true) (q : Q (.bl (decide (x = y))) H) : rEq x y H Q := ⟨h, q⟩
theorem w_ne (h : scal x y = true) (q : Q (.bl (!decide (x = y))) H) : rNe x y H Q := ⟨h, q⟩
theorem w_is0 (q : Q (.bl (decide (x = .non))) H) : rIs0 x .non H Q := ⟨rfl, q⟩
theorem w_isnot0 (q : Q (.bl (!decide (x = .non))) H) : rIsNot0 x .non H Q := ⟨rfl, q⟩
theorem w_test (h : te σ H fun x H' => ∃ k, x = .bl k ∧ QB k H') : tTest te σ H QB := h
theorem w_tB (h : te σ H fun x H' => ∃ k, x = .bl k ∧ QB k H') : tB te σ H QB := h
theorem w_bl {R : Bool → Prop} (q : R b) : ∃ k, V.bl b = .bl k ∧ R k := ⟨b, rfl, q⟩
theorem w_and (h : tt σ H fun c H1 => if c = true then tu σ H1 QB else QB false H1) : tAnd tt tu σ H QB := h
theorem w_or (h : tt σ H fun c H1 => if c = true then QB true H1 else tu σ H1 QB) : tOr tt tu σ H QB := h
theorem w_not (h : tt σ H fun c H1 => QB (!c) H1) : tNot tt σ H QB := h
theorem w_andV (h : ta σ H fun x H1 => ∃ c, x = .bl c ∧ if c = true then tb σ H1 Q else Q (.bl false) H1) : tAndV ta tb σ H Q := h
theorem w_orV (h : ta σ H fun x H1 => ∃ c, x = .bl c ∧ if c = true then Q (.bl true) H1 else tb σ H1 Q) : tOrV ta tb σ H Q := h
theorem w_notV (h : ta σ H fun x H1 => ∃ c, x = .bl c ∧ Q (.bl (!c)) H1) : tNotV ta σ H Q := h
theorem w_chain (h : ta σ H fun x H1 => tb σ H1 fun y H2 => r x y H2 fun z H3 => ∃ k, z = .bl k ∧ (if k = true then tc σ H3 fun w' H4 => r' y w' H4 Q else Q (.bl false) H3)) : tChain r r' ta tb tc σ H Q := h
theorem w_cons {tr : TA} {QA : List V → Hp → Prop} (h : ta σ H fun x H1 => tr σ H1 fun xs H2 => QA (x :: xs) H2) : tCons ta tr σ H QA := h
theorem w_nil {QA : List V → Hp → Prop} (q : QA [] H) : tNil σ H QA := q
theorem w_call {sp : Sp} {tA : TA} {E : XK} (h : tA σ H fun vs H1 => sp (vs ++ []) H1 Q E) : tCall sp [] E tA σ H Q := h
theorem w_cb {r : List V → Hp → VK → Prop} {tA : TA} (h : tA σ H fun vs H1 => r vs H1 Q) : tCB r tA σ H Q := h

/-! ### new objects: the heap as a letter -/
theorem same_new {p : Addr} {o : HO} (h : H p = none) : Same H (upd H p o) := fun c w e => by
  rw [upd_ne (ne_of_none e h)]
  exact e
theorem w_tup {tA : TA} (h : tA σ H fun xs H1 => xs.length ≤ sizeLine ∧ ∀ p H2, H1 p = none → Same H1 H2 → H2 p = some (.tup xs) → Q (.ref p) H2) (mono : ∀ σ H (Q Q' : List V → Hp → Prop), (∀ xs H, Q xs H → Q' xs H) → tA σ H Q → tA σ H Q') : tTup tA σ H Q :=
  mono _ _ _ _ (fun xs H1 ⟨l, k⟩ => ⟨l, fun p hp => k p _ hp (same_new hp) upd_same⟩) h
theorem w_newT {xs : List V} {H1 : Hp} (hl : xs.length ≤ sizeLine) (k : ∀ p H2, H1 p = none → Same H1 H2 → H2 p = some (.tup xs) → Q (.ref p) H2) : xs.length ≤ sizeLine ∧ ∀ p, H1 p = none → Q (.ref p) (upd H1 p (.tup xs)) :=
  ⟨hl, fun p hp => k p _ hp (same_new hp) upd_same⟩
theorem w_newL {xs : List V} {H1 : Hp} (hl : xs.length ≤ sizeLine) (k : ∀ p H2, H1 p = none → Same H1 H2 → H2 p = some (.lst xs) → Q (.ref p) H2) : xs.length ≤ sizeLine ∧ ∀ p, H1 p = none → Q (.ref p) (upd H1 p (.lst xs)) :=
  ⟨hl, fun p hp => k p _ hp (same_new hp) upd_same⟩
theorem w_tupE {tA : TA} (h : tA σ H fun xs H1 => xs.length ≤ sizeLine ∧ ∀ p, H1 p = none → Q (.ref p) (upd H1 p (.tup xs))) : tTup tA σ H Q := h
theorem w_lstE {tA : TA} (h : tA σ H fun xs H1 => xs.length ≤ sizeLine ∧ ∀ p, H1 p = none → Q (.ref p) (upd H1 p (.lst xs))) : tLst tA σ H Q := h
/-! ### calls of built-ins, subscripts -/
theorem w_abs {m : Int} (q : Q (.int m.natAbs) H) : rAbs [.int m] H Q := ⟨m, rfl, q⟩
theorem w_max {m n : Int} (q : Q (.int (max m n)) H) : rMaxI [.int m, .int n] H Q := ⟨m, n, rfl, q⟩
theorem w_min {m n : Int} (q : Q (.int (min m n)) H) : rMinI [.int m, .int n] H Q := ⟨m, n, rfl, q⟩
theorem w_intI {m : Int} (q : Q (.int m) H) : rIntOf [.int m] H Q := .inl ⟨m, rfl, q⟩
theorem w_intB {k : Bool} (q : Q (.int (if k then 1 else 0)) H) : rIntOf [.bl k] H Q := .inr ⟨k, rfl, q⟩
theorem w_lenL {p : Addr} {xs : List V} (h : SqL K H p xs) (q : Q (.int xs.length) H) : rLen K [.ref p] H Q := ⟨_, _, rfl, .inl ⟨xs, h, rfl⟩, q⟩
theorem w_lenT {p : Addr} {xs : List V} (h : SqT K H p xs) (q : Q (.int xs.length) H) : rLen K [.ref p] H Q := ⟨_, _, rfl, .inr ⟨xs, h, rfl⟩, q⟩
theorem w_lenS {w : Str} (h : w.length ≤ sizeLine) (q : Q (.int w.length) H) : rLen K [.str w] H Q := ⟨_, _, rfl, ⟨h, rfl⟩, q⟩
theorem w_ixL {p : Addr} {xs : List V} {m : Int} (h : SqL K H p xs) (ha : atI xs m = some v) (q : Q v H) : rIxL K (.ref p) (.int m) H Q := ⟨p, xs, m, v, rfl, rfl, h, ha, q⟩
theorem w_ixT {p : Addr} {xs : List V} {m : Int} (h : SqT K H p xs) (ha : atI xs m = some v) (q : Q v H) : rIxT K (.ref p) (.int m) H Q := ⟨p, xs, m, v, rfl, rfl, h, ha, q⟩
theorem w_ixS {w : Str} {m : Int} {c : Nat} (h : w.length ≤ sizeLine) (ha : atI w.cps.toList m = some c) (q : Q (.str ⟨#[c]⟩) H) : rIxS (.str w) (.int m) H Q := ⟨w, m, c, rfl, rfl, h, ha, q⟩
theorem w_isi {c : V} {tv cv : Value} {k : Bool} (hc : ClsV c cv) (ht : TyX K H x tv) (hk : PySem.W.kitOne K tv cv = some k) (q : Q (.bl k) H) : rIsi K [x, c] H Q := ⟨x, c, tv, cv, k, rfl, hc, ht, hk, q⟩
theorem w_gname {Q2 : L2.St → Hp → Prop} (q : Q2 (σ.set i (some v)) H) : gName i v σ H Q2 := q
theorem w_gsub {to ti : TE} {ts : TSet} {Q2 : L2.St → Hp → Prop} (h : to σ H fun o H1 => ti σ H1 fun i H2 => ts o i v H2 fun H3 => Q2 σ H3) : gSub to ti ts v σ H Q2 := h
theorem w_fld {C dx : Addr} {fs : List (Str × V)} {f : Str} {R : V → Prop} (ho : H a = some (.ins C dx fs)) (hc : Cls K C) (hn : NoAttr K C f) (hl : fs.lookup f = some v) (q : R v) : ∃ a' C dx fs v, V.ref a = .ref a' ∧ H a' = some (.ins C dx fs) ∧ Cls K C ∧ NoAttr K C f ∧ fs.lookup f = some v ∧ R v := ⟨a, C, dx, fs, v, rfl, ho, hc, hn, hl, q⟩
theorem w_fldE {f : Str} (h : ta σ H fun x H1 => ∃ a C dx fs v, x = .ref a ∧ H1 a = some (.ins C dx fs) ∧ Cls K C ∧ NoAttr K C f ∧ fs.lookup f = some v ∧ Q v H1) : tFld K ta f σ H Q := h
end

section
variable {σ : L2.St} {H H' : Hp} {i : Nat} {v x y z : V} {ta tb te tv tc : TE} {b : Bool} {K : PySem.W.Frag} {Q : VK} {QB : Bool → Hp → Prop} {D : Ends} {a C dx : Addr} {fs : List (Str × V)} {f m : Str}
theorem w_two {R : V → V → Prop} (q : R x y) : ∃ v w, [x, y] = [v, w] ∧ R v w := ⟨x, y, rfl, q⟩
theorem w_methE {sp : Sp} {dvs : List V} {E : XK} {t : TA} (h : ta σ H fun x H1 => ∃ a dx fs, x = .ref a ∧ H1 a = some (.ins C dx fs) ∧ fs.lookup m = none ∧ t σ H1 fun vs H2 => sp (x :: (vs ++ dvs)) H2 Q E) : tMeth C m sp dvs E ta t σ H Q := h
theorem w_meth {R : Prop} (ho : H a = some (.ins C dx fs)) (hl : fs.lookup m = none) (q : R) : ∃ a' dx fs, V.ref a = .ref a' ∧ H a' = some (.ins C dx fs) ∧ fs.lookup m = none ∧ R := ⟨a, dx, fs, rfl, ho, hl, q⟩
theorem w_makeE {sp : Sp} {dvs : List V} {E : XK} {t : TA} (h : t σ H fun vs H1 => ∀ x dx, H1 x = none → H1 dx = none → dx ≠ x →
  sp (.ref x :: (vs ++ dvs)) (upd (upd H1 dx (.own x)) x (.ins C dx [])) (fun v H2 => v = .non ∧ Q (.ref x) H2) E) : tMake C sp dvs E t σ H Q := h
theorem w_make {sp : Sp} {vs : List V} {E : XK} {H1 : Hp} (k : ∀ r dr H2, H1 r = none → H1 dr = none → Same H1 H2 → H2 r = some (.ins C dr []) → sp (.ref r :: vs) H2 (fun v H3 => v = .non ∧ Q (.ref r) H3) E) :
    ∀ x dx, H1 x = none → H1 dx = none → dx ≠ x → sp (.ref x :: vs) (upd (upd H1 dx (.own x)) x (.ins C dx [])) (fun v H2 => v = .non ∧ Q (.ref x) H2) E := by
  intro r dr nr nd ne
  refine k r dr _ nr nd (fun c o e => ?_) upd_same
  rw [upd_ne (ne_of_none e nr), upd_ne (ne_of_none e nd)]
  exact e
theorem w_isiB {tx tn : String} {k : Bool} (ht : TyX K H x (.type tx)) (hk : kitB tx tn = some k) (q : Q (.bl k) H) : rIsi K [x, .ty tn] H Q := ⟨x, .ty tn, _, _, k, rfl, .ty tn, ht, kit_ty hk, q⟩
theorem w_sfld {D : Ends} (h : tv σ H fun y H1 => ta σ H1 fun x H2 => ∃ a C dx fs, x = .ref a ∧ H2 a = some (.ins C dx fs) ∧ Cls K C ∧ NoAttr K C f ∧ fs.length < 1000 ∧ D.nx σ (upd H2 a (.ins C dx (putF f y fs)))) : sFld K ta tv f D σ H := h
theorem w_gfldE {to : TE} {Q2 : L2.St → Hp → Prop} (h : to σ H fun x H1 => ∃ a C dx fs, x = .ref a ∧ H1 a = some (.ins C dx fs) ∧ Cls K C ∧ NoAttr K C f ∧ fs.length < 1000 ∧ Q2 σ (upd H1 a (.ins C dx (putF f v fs)))) : gFld K to f v σ H Q2 := h
/-- a store to an attribute: the heap as a letter -/
def KB (p : Addr) (H H' : Hp) : Prop := ∀ c o, H c = some o → c ≠ p → H' c = some o
theorem KB.refl {p : Addr} : KB p H H := fun _ _ h _ => h
theorem KB.trans {p : Addr} {H1 H2 : Hp} (e : KB p H H1) (e' : KB p H1 H2) : KB p H H2 := fun c o h n => e' c o (e c o h n) n
theorem KB.of {p : Addr} (e : Same H H') : KB p H H' := fun c o h _ => e c o h
theorem KB.same {p : Addr} {H0 : Hp} (e : KB p H H') (e0 : Same H0 H) (n : H0 p = none) : Same H0 H' := fun c o h => e c o (e0 c o h) (ne_of_none h n)
theorem kb_upd {p : Addr} {o : HO} : KB p H (upd H p o) := fun c u h n => by rw [upd_ne n]; exact h
theorem w_st {R : Addr → Addr → Addr → List (Str × V) → Prop} (ho : H a = some (.ins C dx fs)) (hc : Cls K C) (hn : NoAttr K C f) (hl : fs.length < 1000) (q : R a C dx fs) :
    ∃ a' C dx fs, V.ref a = .ref a' ∧ H a' = some (.ins C dx fs) ∧ Cls K C ∧ NoAttr K C f ∧ fs.length < 1000 ∧ R a' C dx fs := ⟨a, C, dx, fs, rfl, ho, hc, hn, hl, q⟩
theorem w_setL {p : Addr} {xs : List V} {m : Int} {j : Nat} {QH : Hp → Prop} (h : H p = some (.lst xs)) (hj : ixN xs.length m = some j) (k : ∀ H2, KB p H H2 → H2 p = some (.lst (xs.set j v)) → QH H2) : rSetL (.ref p) (.int m) v H QH := ⟨p, xs, m, j, rfl, rfl, h, hj, k _ kb_upd upd_same⟩
theorem w_gtup {n : Nat} {t : TGs} {xs : List V} {Q2 : L2.St → Hp → Prop} (h : SqT K H a xs) (hn : xs.length = n) (q : t xs σ H Q2) : gTup K n t (.ref a) σ H Q2 := ⟨a, xs, rfl, h, hn, q⟩
theorem w_gcons {g : TG} {t : TGs} {r : List V} {Q2 : L2.St → Hp → Prop} (q : g v σ H fun σ' H' => t r σ' H' Q2) : gCons g t (v :: r) σ H Q2 := ⟨v, r, rfl, q⟩
theorem w_gnil {Q2 : L2.St → Hp → Prop} (q : Q2 σ H) : gNil [] σ H Q2 := ⟨rfl, q⟩
theorem lk_hit {r : List (Str × V)} : List.lookup f ((f, x) :: r) = some x := by simp [List.lookup]
theorem lk_miss {g : Str} {r : List (Str × V)} {o : Option V} (h : (f == g) = false) (e : List.lookup f r = o) : List.lookup f ((g, x) :: r) = o := by simp only [List.lookup, h]; exact e
theorem pf_hit {r : List (Str × V)} : putF f v ((f, x) :: r) = (f, v) :: r := by simp [putF]
theorem pf_miss {g : Str} {r : List (Str × V)} (h : (g == f) = false) : putF f v ((g, x) :: r) = (g, x) :: putF f v r := by
  have : ¬ g = f := beq_eq_false_iff_ne.mp h
  simp [putF, this]
theorem pf_nil : putF f v [] = [(f, v)] := rfl
/-- kept at another place -/
theorem kb_at {p q : Addr} {o : HO} (e : KB p H H') (h : H q = some o) (n : q ≠ p) : H' q = some o := e q o h n
end

/-- while, by a word that falls -/
theorem w_while {σ : L2.St} {H : Hp} {D : Ends} {c : TT} {tb : TS} (W : Nat → L2.St → Hp → Prop) (m0 : Nat) (h0 : W m0 σ H)
    (hs : ∀ m σ H, W m σ H → c σ H fun b H1 => if b = true then tb { D with nx := fun σ' H' => ∃ m', m' < m ∧ W m' σ' H', ct := fun σ' H' => ∃ m', m' < m ∧ W m' σ' H', bk := D.nx } σ H1 else D.nx σ H1)
    (mono : ∀ σ H (Q Q' : Bool → Hp → Prop), (∀ b H, Q b H → Q' b H) → c σ H Q → c σ H Q' ) : tWhile c tb D σ H :=
  ⟨W, ⟨m0, h0⟩, fun m σ H w => mono _ _ _ _ (fun b H1 q => by
    cases b with
    | true =>
      rw [if_pos rfl] at q ⊢
      exact ⟨_, fun _ _ h => h, q⟩
    | false =>
      rw [if_neg Bool.false_ne_true] at q ⊢
      exact q) (hs m σ H w)⟩
theorem w_loopT {D : Ends} {W : Nat → L2.St → Hp → Prop} {m : Nat} {tb : TS} {σ : L2.St} {H : Hp} (h : tb { D with nx := fun σ' H' => ∃ m', m' < m ∧ W m' σ' H', ct := fun σ' H' => ∃ m', m' < m ∧ W m' σ' H', bk := D.nx } σ H) :
    ∃ N : L2.St → Hp → Prop, (∀ σ' H', N σ' H' → ∃ m', m' < m ∧ W m' σ' H') ∧ tb { D with nx := N, ct := N, bk := D.nx } σ H := ⟨_, fun _ _ h => h, h⟩

theorem same_gen {H H2 : Hp} {p : Addr} {o : HO} (n : H p = none) (e : upd H p o = H2) : Same H H2 := e ▸ same_new n
theorem at_gen {H H2 : Hp} {p : Addr} {o : HO} (e : upd H p o = H2) : H2 p = some o := e ▸ upd_same
theorem kb_gen {H H2 : Hp} {p : Addr} {o : HO} (e : upd H p o = H2) : KB p H H2 := e ▸ kb_upd
theorem same_make {H H2 : Hp} {x dx : Addr} {o u : HO} (nx : H x = none) (nd : H dx = none) (e : upd (upd H dx u) x o = H2) : Same H H2 := fun c w h => by
  rw [← e, upd_ne (ne_of_none h nx), upd_ne (ne_of_none h nd)]
  exact h
theorem makeG {H1 : Hp} {R : Addr → Addr → Prop} (k : ∀ x dx, H1 x = none → H1 dx = none → dx ≠ x → R x dx) : ∀ x dx, H1 x = none → H1 dx = none → dx ≠ x → R x dx := k
theorem newL {n : Nat} {R : Addr → Prop} {H : Hp} (hl : n ≤ sizeLine) (k : ∀ p, H p = none → R p) : n ≤ sizeLine ∧ ∀ p, H p = none → R p := ⟨hl, k⟩
theorem kit_int_int : kitB "int" "int" = some true := by decide +kernel
theorem kit_int_bool : kitB "int" "bool" = some false := by decide +kernel
theorem kit_int_str : kitB "int" "str" = some false := by decide +kernel
theorem kit_int_list : kitB "int" "list" = some false := by decide +kernel
theorem kit_int_tuple : kitB "int" "tuple" = some false := by decide +kernel
theorem kit_int_dict : kitB "int" "dict" = some false := by decide +kernel
theorem kit_bool_int : kitB "bool" "int" = some true := by decide +kernel
theorem kit_bool_bool : kitB "bool" "bool" = some true := by decide +kernel
theorem kit_bool_str : kitB "bool" "str" = some false := by decide +kernel
theorem kit_bool_list : kitB "bool" "list" = some false := by decide +kernel
theorem kit_bool_tuple : kitB "bool" "tuple" = some false := by decide +kernel
theorem kit_bool_dict : kitB "bool" "dict" = some false := by decide +kernel
theorem kit_str_int : kitB "str" "int" = some false := by decide +kernel
theorem kit_str_bool : kitB "str" "bool" = some false := by decide +kernel
theorem kit_str_str : kitB "str" "str" = some true := by decide +kernel
theorem kit_str_list : kitB "str" "list" = some false := by decide +kernel
theorem kit_str_tuple : kitB "str" "tuple" = some false := by decide +kernel
theorem kit_str_dict : kitB "str" "dict" = some false := by decide +kernel
theorem kit_list_int : kitB "list" "int" = some false := by decide +kernel
theorem kit_list_bool : kitB "list" "bool" = some false := by decide +kernel
theorem kit_list_str : kitB "list" "str" = some false := by decide +kernel
theorem kit_list_list : kitB "list" "list" = some true := by decide +kernel
theorem kit_list_tuple : kitB "list" "tuple" = some false := by decide +kernel
theorem kit_list_dict : kitB "list" "dict" = some false := by decide +kernel
theorem kit_tuple_int : kitB "tuple" "int" = some false := by decide +kernel
theorem kit_tuple_bool : kitB "tuple" "bool" = some false := by decide +kernel
theorem kit_tuple_str : kitB "tuple" "str" = some false := by decide +kernel
theorem kit_tuple_list : kitB "tuple" "list" = some false := by decide +kernel
theorem kit_tuple_tuple : kitB "tuple" "tuple" = some true := by decide +kernel
theorem kit_tuple_dict : kitB "tuple" "dict" = some false := by decide +kernel
theorem kit_NoneType_int : kitB "NoneType" "int" = some false := by decide +kernel
theorem kit_NoneType_bool : kitB "NoneType" "bool" = some false := by decide +kernel
theorem kit_NoneType_str : kitB "NoneType" "str" = some false := by decide +kernel
theorem kit_NoneType_list : kitB "NoneType" "list" = some false := by decide +kernel
theorem kit_NoneType_tuple : kitB "NoneType" "tuple" = some false := by decide +kernel
theorem kit_NoneType_dict : kitB "NoneType" "dict" = some false := by decide +kernel
theorem kit_dict_int : kitB "dict" "int" = some false := by decide +kernel
theorem kit_dict_bool : kitB "dict" "bool" = some false := by decide +kernel
theorem kit_dict_str : kitB "dict" "str" = some false := by decide +kernel
theorem kit_dict_list : kitB "dict" "list" = some false := by decide +kernel
theorem kit_dict_tuple : kitB "dict" "tuple" = some false := by decide +kernel
theorem kit_dict_dict : kitB "dict" "dict" = some true := by decide +kernel

section
variable {σ : L2.St} {H : Hp} {K : PySem.W.Frag} {D : Ends} {a : Addr}
theorem w_forE {wi : TI} {g : TG} {tb : TS} (h : wi σ H fun J H1 => ∃ W : Nat → Nat → L2.St → Hp → Prop, (∃ m, W 0 m σ H1) ∧ ∀ i m σ H, W i m σ H →
  (J.stop i H ∧ D.nx σ H) ∨ (J.go i H ∧ ∃ N : L2.St → Hp → Prop, (∀ σ' H', N σ' H' → ∃ m', m' < m ∧ W (i + 1) m' σ' H') ∧ ∀ x H', J.yld i H x H' → g x σ H' fun σ2 H2 => tb { D with nx := N, ct := N, bk := D.nx } σ2 H2)) : tFor wi g tb D σ H := h
theorem w_iTup {tl : TE} {R : It → Hp → Prop} (h : tl σ H fun x H1 => ∃ a, x = .ref a ∧ (∃ xs, SqT K H1 a xs) ∧ R (Itt K a) H1) : iTup K tl σ H R := h
theorem w_iList {tl : TE} {R : It → Hp → Prop} (h : tl σ H fun x H1 => ∃ a, x = .ref a ∧ (∃ xs, SqL K H1 a xs) ∧ R (Itl K a) H1) : iList K tl σ H R := h
theorem w_iRng1 {ta : TA} {R : It → Hp → Prop} (h : ta σ H fun vs H1 => ∃ j : Int, vs = [.int j] ∧ -(2 ^ 62) ≤ j ∧ j < 2 ^ 62 ∧ R (Itr 0 j.toNat) H1) : iRng1 ta σ H R := h
theorem w_iRng2 {ta : TA} {R : It → Hp → Prop} (h : ta σ H fun vs H1 => ∃ i j : Int, vs = [.int i, .int j] ∧ (-(2 ^ 62) ≤ i ∧ i < 2 ^ 62 ∧ -(2 ^ 62) ≤ j ∧ j < 2 ^ 62) ∧ R (Itr i (j - i).toNat) H1) : iRng2 ta σ H R := h
theorem w_itT {R : Addr → Prop} {xs : List V} (h : SqT K H a xs) (q : R a) : ∃ a', V.ref a = .ref a' ∧ (∃ xs, SqT K H a' xs) ∧ R a' := ⟨a, rfl, ⟨xs, h⟩, q⟩
theorem w_itL {R : Addr → Prop} {xs : List V} (h : SqL K H a xs) (q : R a) : ∃ a', V.ref a = .ref a' ∧ (∃ xs, SqL K H a' xs) ∧ R a' := ⟨a, rfl, ⟨xs, h⟩, q⟩
/-- == of data -/
theorem w_eqD {x y : V} {Q : VK} {d e : PyData} {k : Bool} (hx : Dp K H x d) (hy : Dp K H y e) (sd : SeqAt.shaped d = true) (se : SeqAt.shaped e = true) (hk : PyData.eqv d e = k) (q : Q (.bl k) H) : rEqD K x y H Q := ⟨d, e, hx, hy, sd, se, hk ▸ q⟩
theorem w_neD {x y : V} {Q : VK} {d e : PyData} {k : Bool} (hx : Dp K H x d) (hy : Dp K H y e) (sd : SeqAt.shaped d = true) (se : SeqAt.shaped e = true) (hk : PyData.eqv d e = k) (q : Q (.bl (!k)) H) : rNeD K x y H Q := ⟨d, e, hx, hy, sd, se, hk ▸ q⟩
theorem dp_t2 {p : Addr} {m n : Int} (h : SqT K H p [.int m, .int n]) : Dp K H (.ref p) (.tuple [.int m, .int n]) := .tup h (.cons (.int m) (.cons (.int n) .nil))
end
theorem mulW {i j : Int} {a b : Nat} (ha : i.natAbs < 2 ^ a) (hb : j.natAbs < 2 ^ b) (h0 : 0 < a) (h1 : 0 < b) (h : a + b ≤ 1000000) : CMulU i j := (wide_mul ha hb h0 h1 h).ok
theorem mulL {i j : Int} (h : i.natAbs < 2 ^ 64) : CMulU i j := CMul.ok (.inl ⟨by omega, by omega⟩)
theorem mulR {i j : Int} (h : j.natAbs < 2 ^ 64) : CMulU i j := CMul.ok (.inr ⟨by omega, by omega⟩)
theorem w_pow10_5 {H : Hp} {Q : VK} (q : Q (.int 100000) H) : rI CPowU (fun i j => .int (i ^ j.toNat)) (.int 10) (.int 5) H Q := ⟨10, 5, rfl, rfl, powU (a := 4) (by decide) (by decide) (by decide) (by decide), q⟩
theorem w_pow10_8 {H : Hp} {Q : VK} (q : Q (.int 100000000) H) : rI CPowU (fun i j => .int (i ^ j.toNat)) (.int 10) (.int 8) H Q := ⟨10, 8, rfl, rfl, powU (a := 4) (by decide) (by decide) (by decide) (by decide), q⟩
theorem w_pow10_9 {H : Hp} {Q : VK} (q : Q (.int 1000000000) H) : rI CPowU (fun i j => .int (i ^ j.toNat)) (.int 10) (.int 9) H Q := ⟨10, 9, rfl, rfl, powU (a := 4) (by decide) (by decide) (by decide) (by decide), q⟩
theorem w_pow10_10 {H : Hp} {Q : VK} (q : Q (.int 10000000000) H) : rI CPowU (fun i j => .int (i ^ j.toNat)) (.int 10) (.int 10) H Q := ⟨10, 10, rfl, rfl, powU (a := 4) (by decide) (by decide) (by decide) (by decide), q⟩
theorem w_pow10_11 {H : Hp} {Q : VK} (q : Q (.int 100000000000) H) : rI CPowU (fun i j => .int (i ^ j.toNat)) (.int 10) (.int 11) H Q := ⟨10, 11, rfl, rfl, powU (a := 4) (by decide) (by decide) (by decide) (by decide), q⟩
theorem w_pow10_12 {H : Hp} {Q : VK} (q : Q (.int 1000000000000) H) : rI CPowU (fun i j => .int (i ^ j.toNat)) (.int 10) (.int 12) H Q := ⟨10, 12, rfl, rfl, powU (a := 4) (by decide) (by decide) (by decide) (by decide), q⟩
theorem w_pow10_18 {H : Hp} {Q : VK} (q : Q (.int 1000000000000000000) H) : rI CPowU (fun i j => .int (i ^ j.toNat)) (.int 10) (.int 18) H Q := ⟨10, 18, rfl, rfl, powU (a := 4) (by decide) (by decide) (by decide) (by decide), q⟩
/-! ### small facts -/
theorem sz {n : Nat} (h : n ≤ 100000) : n ≤ sizeLine := Nat.le_trans h (by decide)
theorem w_iteP {c : Bool} {A B : Prop} (h1 : c = true → A) (h2 : c = false → B) : if c = true then A else B := by
  cases c with
  | true => exact iteT (h1 rfl)
  | false => exact iteF (h2 rfl)
theorem w_dec {c A B : Prop} {dc : Decidable c} (h1 : c → A) (h2 : ¬ c → B) : if decide c = true then A else B := by
  by_cases h : c
  · rw [if_pos (decide_eq_true h)]
    exact h1 h
  · rw [if_neg (fun e => h (of_decide_eq_true e))]
    exact h2 h
theorem same_at {H H' : Hp} {a : Addr} {o : HO} (e : Same H H') (h : H a = some o) : H' a = some o := e a o h
theorem same_t {K : PySem.W.Frag} {H H' : Hp} {a : Addr} {xs : List V} (e : Same H H') (h : SqT K H a xs) : SqT K H' a xs := by
  rcases h with (h | ⟨o, h⟩) | h
  · exact .inl (.inl (e _ _ h))
  · exact .inl (.inr ⟨o, e _ _ h⟩)
  · exact .inr h
section
variable {K : PySem.W.Frag} {H : Hp}
theorem tyx_int {i : Int} : TyX K H (.int i) (.type "int") := .base (.int _)
theorem tyx_bl {b : Bool} : TyX K H (.bl b) (.type "bool") := .base (.bl _)
theorem tyx_str {x : Str} : TyX K H (.str x) (.type "str") := .base (.str _)
theorem tyx_non : TyX K H .non (.type "NoneType") := .base .non
theorem tyx_lst {a : Addr} {xs : List V} (h : H a = some (.lst xs)) : TyX K H (.ref a) (.type "list") := .base (.lst h)
theorem tyx_tup {a : Addr} {xs : List V} (h : H a = some (.tup xs)) : TyX K H (.ref a) (.type "tuple") := .base (.tup h)
end
end Bw

/-! Except clauses: tuples of classes of any length. -/
namespace PySem.W
open PySem PySem.Spec PySem.Calls
section
variable {M : Model} {K : Frag}
theorem forIn_stay {β : Type} {A : Around} {E : Value → Shared → Prop} {s : Shared} {b : β} {f : Value → β → Sem (ForInStep β)} {Q : β → Shared → Prop} : ∀ {cs : List Value}, (∀ c ∈ cs, ∀ (Q : ForInStep β → Shared → Prop), Q (.yield b) s → wpAny M A (f c b) Q E s) → Q b s → wpAny M A (forIn cs b f) Q E s
  | [], _, q => by
    rw [List.forIn_nil]
    exact wpAny_pure q
  | c :: r, hf, q => by
    rw [List.forIn_cons]
    refine wpAny_bind (hf c List.mem_cons_self _ ?_)
    exact forIn_stay (fun c hc => hf c (List.mem_cons_of_mem _ hc)) q
theorem exmAny_mem {cls : Value} : ∀ {cs : List Value} {b : Bool}, exmAny K cls cs = some b → ∀ c ∈ cs, ∃ b1, exmOne K cls c = some b1
  | c :: r, b, h, x, hx => by
    obtain ⟨b1, d1, h1, h2, _⟩ := exmAny_cons h
    rcases List.mem_cons.mp hx with rfl | hx
    · exact ⟨_, h1⟩
    · exact exmAny_mem h2 x hx
theorem exm_tupN {cs : List Value} {cls : Value} {tp e : Addr} {b : Bool} {h : Heap} {n : Nat} {dd : Option Addr} {sl : Array (Option Value)} (X : K.In h) (LT : Looks M h (typeOf (.ref e)) cls) (hp : h.get? tp = some { cls := .type "tuple", dict := dd, data := .seq cs.toArray n, slots := sl }) (hx : exmAny K cls cs = some b) :
    Looks M h (excMatches (.ref e) (.ref tp)) b := by
  intro A Q E s k₀ q
  obtain ⟨hh, g, d, tk, os⟩ := s
  have k : ∀ b o, h.get? b = some o → hh.get? b = some o := k₀
  have LT0 : Looks M h (isInstance (.ref tp) (.type "tuple")) true := ((Looks.ld hp).andThen .now).andThen (Looks.of_pure isSubtype_tuple_tuple)
  have LT := LT.keeps k
  have LT0 := LT0.keeps k
  have hp' := k _ _ hp
  have hk := X.keeps k
  unfold excMatches
  refine wpAny_bind (LT0.at ?_)
  dsimp only
  rw [if_pos rfl]
  first
    | refine wpAny_bind (wpAny_seqItems hp' rfl ?_)
    | refine wpAny_bind (wpAny_bind (wpAny_seqItems hp' rfl (wpAny_pure ?_)))
  dsimp only [Option.getD_some, Option.getD]
  refine wpAny_bind (wpAny_pure ?_)
  refine wpAny_bind (forIn_stay (fun c hc Q q => ?_) ?_)
  · obtain ⟨b1, h1⟩ := exmAny_mem hx c hc
    refine wpAny_bind ((exm_cls (M := M) hk h1).1.here ?_)
    exact wpAny_pure q
  · refine wpAny_bind (LT.here ?_)
    have loop : ∀ (cs : List Value) (b : Bool), exmAny K cls cs = some b → ∀ (Q : Option Bool × Unit → Shared → Prop), Q (if b then some true else none, ()) { heap := hh, gens := g, drawn := d, toks := tk, os := os } →
        wpAny M A (forIn cs ((none : Option Bool), ()) fun c __s => do
            let __do_lift ← isSubtype cls c
            if __do_lift = true then pure (ForInStep.done (some true, ())) else pure (ForInStep.yield (none, ()))) Q E { heap := hh, gens := g, drawn := d, toks := tk, os := os } := by
      intro cs
      induction cs with
      | nil =>
        intro b hb Q q
        have w2 : some false = some b := hb
        cases w2
        rw [List.forIn_nil]
        exact wpAny_pure q
      | cons c r ih =>
        intro b hb Q q
        obtain ⟨b1, d1, h1, h2, rfl⟩ := exmAny_cons hb
        rw [List.forIn_cons]
        refine wpAny_bind (wpAny_bind ((exm_cls (M := M) hk h1).2.here ?_))
        cases b1 with
        | true =>
          rw [if_pos rfl]
          exact wpAny_pure (wpAny_pure q)
        | false =>
          rw [if_neg Bool.false_ne_true]
          exact wpAny_pure (ih d1 h2 Q q)
    refine wpAny_bind (loop cs b hx _ ?_)
    cases b with
    | true => exact wpAny_pure q
    | false => exact wpAny_pure q
end
end PySem.W

namespace Bw
open PySem PySem.Spec L2
/-! ### try with several clauses, classes or tuples of classes, each with a name -/
/-- a clause's class expression, read where the exception is handled -/
def wMas (K : PySem.W.Frag) (Wout : WX) (D : Ends) : List (List Value × Nat × (Addr → Value → Option Addr → TS)) → WX
  | [] => Wout
  | (cs, i, ts) :: r => fun cls d σ H => ∃ b, PySem.W.exmAny K cls cs = some b ∧ (b = true → ∀ a, H a = none → ts a cls d { nx := fun σ' H' => D.nx (σ'.set i none) H', rt := D.rt, bk := fun σ' H' => D.bk (σ'.set i none) H', ct := fun σ' H' => D.ct (σ'.set i none) H' } (σ.set i (some (.ref a))) H) ∧
      (b = false → wMas K Wout D r cls d σ H)
/-- names of classes -/
inductive NamesL (X : Cx) : List Expr → List Value → Prop
  | nil : NamesL X [] []
  | cons {x : Str} {c : Value} {p : Pos} {es : List Expr} {cs : List Value} (h : Names X x c) (r : NamesL X es cs) : NamesL X (.Name x p :: es) (c :: cs)
inductive ClsE (X : Cx) : Expr → List Value → Prop
  | one {x : Str} {c : Value} {p : Pos} (h : Names X x c) : ClsE X (.Name x p) [c]
  | tup {es : List Expr} {cs : List Value} {k : Nat} {p : Pos} (h : NamesL X es cs) : ClsE X (.Tuple es k p) cs
inductive HdsA (X : Cx) : List ExceptHandler → List (List Value × Nat × (Addr → Value → Option Addr → TS)) → Prop
  | nil : HdsA X [] []
  | cons {te : Expr} {cs : List Value} {n : Str} {i : Nat} {ts : Addr → Value → Option Addr → TS} {b₀ : Stmt} {suite : List Stmt} {pos' : Pos} {hds : List ExceptHandler} {l : List (List Value × Nat × (Addr → Value → Option Addr → TS))} (hc : ClsE X te cs)
      (hi : X.N[i]? = some n) (hln : X.env.kindOf n = some .local)
      (hsu : ∀ (a : Addr) (oe : Obj) (cls : Value) (d : Option Addr) (pn : List (Addr × Obj)), Zc cls d oe → (∃ vs, oe.data = .fields vs) → PSs (X.suite a ((a, oe) :: pn)) (b₀ :: suite) (ts a cls d)) (r : HdsA X hds l) :
      HdsA X (.ExceptHandler (some te) (some n) (b₀ :: suite) pos' :: hds) ((cs, i, ts) :: l)
theorem flying_kept {B h h' : Heap} {l : List Env} {e : Addr} {Z : Obj → Prop} (f : HandSPX.FlyingZ B l e Z h) (k : ∀ b o, h.get? b = some o → h'.get? b = some o) : HandSPX.FlyingZ B l e Z h' := by
  obtain ⟨f1, f2, f3, oe, vs, T, oT, ts, a1, a2, a3, a4, a5, a6, a7, a8, a9⟩ := f
  exact ⟨fun b o q => k b o (f1 b o q), f2, f3.of_keeps fun b o q _ => ⟨o, k b o q, rfl⟩, oe, vs, T, oT, ts, k _ _ a1, a2, a3, a4, a5, a6, k _ _ a7, a8, a9⟩
section
variable {X : Cx} {body : List Stmt} {h₀ : ExceptHandler} {hds : List ExceptHandler} {l : List (List Value × Nat × (Addr → Value → Option Addr → TS))} {pos : Pos} {tb : WX → TS} {Wout : WX}
theorem eval_names {Y : Cx} {pins : List (Addr × Obj)} {σ : L2.St} {H : Hp} {s : Shared} {E : Value → Shared → Prop} (I : Inv Y pins σ H s) (pos : Pos) : ∀ {es : List Expr} {cs : List Value}, NamesL Y es cs → ∀ {Q : List Value → Shared → Prop}, Q cs s → wpAny (model Y.prog Y.w) Y.A (spliced (backTo pos (starEach es Y.env))) Q E s
  | _, _, .nil, Q, q => Calls.spliced_nil q
  | _, _, @NamesL.cons _ x c p es cs h r, Q, q => by
    show wpAny _ _ (spliced ((false, eval (.Name x p) Y.env) :: backTo pos (starEach es Y.env))) _ _ s
    refine Calls.spliced_cons ?_
    have go : wpAny (model Y.prog Y.w) Y.A (spliced (backTo pos (starEach es Y.env))) (fun vs s₂ => Q (c :: vs) s₂) E s := eval_names I pos r q
    obtain ⟨hg, hdbg, hm | ⟨hm, hv, hnn⟩⟩ := h
    · exact ld_glob I hg hm go hdbg
    · exact ld_blt I hg hm hv go hnn hdbg
theorem NamesL.suite {a : Addr} {pn : List (Addr × Obj)} : ∀ {es : List Expr} {cs : List Value}, NamesL X es cs → NamesL (X.suite a pn) es cs
  | _, _, .nil => .nil
  | _, _, .cons h r => .cons h (NamesL.suite r)
theorem NamesL.length : ∀ {es : List Expr} {cs : List Value}, NamesL X es cs → cs.length = es.length
  | _, _, .nil => rfl
  | _, _, .cons _ r => congrArg Nat.succ (NamesL.length r)
theorem ps_try_mas (hs : X.stack = X.env :: X.outer) (hf : X.env.frame = some X.env.locals) (hN : X.N.Nodup) (tk : Takes X Wout) (hsz : ∀ x ∈ l, x.1.length ≤ 1000)
    (hb : ∀ (W : WX) (pn : List (Addr × Obj)) (xe : Value → Shared → Prop), Takes (X.tr pn xe) W → PassesOwn (model X.prog X.w) X.A X.env xe → PSs (X.tr pn xe) body (tb W))
    (hh : HdsA X (h₀ :: hds) l) : PS X (.Try body (h₀ :: hds) [] [] pos) (fun D σ H => tb (wMas X.K Wout D l) D σ H) := by
  refine ⟨fun pins s σ H D I h => ?_⟩
  have ok := I.ok
  have hfr : X.A.frames = some (X.env :: X.outer) := by rw [ok.frames, hs]
  refine wpAny_Try_except ?_
  refine wpAny_mono ((hb (wMas X.K Wout D l) (X.pn ++ pins) (fun e s₁ => wpAny (model X.prog X.w) X.A (noteFrame e X.env) (fun _ s₂ => wpAny (model X.prog X.w) X.A (setFlight e none) (fun _ s₃ =>
    wpAny (model X.prog X.w) X.A (handleBy e X.env (h₀ :: hds)) (SP X pins D) X.xe s₃) X.xe s₂) X.xe s₁) (fun u s' xx => ?_) PassesOwn.looking).run [] s σ H D (I.toTry _) h) (fun f s1 hsp => ?_) (fun e s1 he => he)
  · -- the catch
    obtain ⟨a, B, sI, pins', σ', H', cls, d, rfl, J', nb, up, sky, na, os, ag, w⟩ := xx
    have J : Inv X pins σ' H' sI := J'.ofTry ok
    have sky' : Sky B (X.env :: X.outer) a (Zc cls d) X.env.locals s'.heap := by rw [← hs]; exact sky
    show wpAny (model X.prog X.w) X.A (noteFrame (.ref a) X.env) _ _ _
    refine Sky.land Zc.steady hfr hf sky' fun h3 fl3 up3 => ?_
    have notFr : ∀ {h : Heap} {o : Obj} {vs : Array Value}, h.FunFrames B (X.env :: X.outer) → h.get? a = some o → o.data = .fields vs → a ∉ frs (X.env :: X.outer) := fun {h o vs} ff e dd hm => by
      obtain ⟨_, o', e', hnf⟩ := ff.mem hm
      rw [e] at e'; cases e'
      exact hnf _ dd
    have nfr : a ∉ frs (X.env :: X.outer) := by
      obtain ⟨oe3, vs3, he3, hz3, hd3⟩ := fl3.there
      exact notFr fl3.2.2.1 he3 hd3
    have nL : a ≠ X.env.locals := fun z => nfr (List.mem_filterMap.mpr ⟨X.env, List.mem_cons_self, by rw [hf, z]⟩)
    have nF : a ∉ X.fs := fun hm => by
      obtain ⟨e, he, q⟩ := List.mem_filterMap.mp hm
      exact nfr (List.mem_filterMap.mpr ⟨e, List.mem_cons_of_mem _ he, q⟩)
    have go : ∀ {hds' : List ExceptHandler} {l' : List (List Value × Nat × (Addr → Value → Option Addr → TS))}, HdsA X hds' l' → (∀ x ∈ l', x.1.length ≤ 1000) → wMas X.K Wout D l' cls d σ' H' → ∀ h3, HandSPX.FlyingZ B (X.env :: X.outer) a (Zc cls d) h3 → sI.heap.UpToSlots h3 →
        wpAny (model X.prog X.w) X.A (handleBy (.ref a) X.env hds') (SP X pins D) X.xe { s' with heap := h3 } := by
      intro hds' l' hk
      induction hk with
      | nil =>
        intro _ w h3 fl3 up3
        refine wpAny_handleBy_nil ?_
        obtain ⟨k1, k2, k3, oe, vs, T, oT, ts', he, hz, hd, h1, hr⟩ := id fl3
        unfold PySem.passOn
        refine wpAny_bind (wpAny_field he hd h1 ?_)
        rw [if_neg (show ¬ ((Value.ref T == Value.none) = true) from by simp)]
        have fin : wpAny (model X.prog X.w) X.A (setFlight (.ref a) X.env.frame) (fun _ s4 => wpAny (model X.prog X.w) X.A (throw (.ref a) : Sem Flow) (SP X pins D) X.xe s4) X.xe { s' with heap := h3 } := by
          rw [hf]
          refine HandSPX.setFlight_upZ fl3 fun h4 hh4 up4 => wpAny_throw (tk _ _ ?_)
          exact ⟨a, B, sI, pins, σ', H', cls, d, rfl, J, nb, up3.trans up4, .inr (.inr (by rw [hs]; exact hh4)), na, os, ag, w⟩
        first
          | exact wpAny_bind (wpAny_pure (wpAny_bind fin))
          | exact wpAny_bind fin
      | @cons te cs n i ts b₀ suite pos' hds2 l2 hc hi hln hsu r ih =>
        intro hz0 w h3 fl3 up3
        obtain ⟨b, hb1, hyes, hno⟩ := w
        have J3 : Inv X pins σ' H' { s' with heap := h3 } := J.landed nb fl3.1 up3 os ag
        obtain ⟨oe3, vs3, he3, hz3, hd3⟩ := fl3.there
        have S3 := J3.suite he3 hd3 na nL nF
        refine wpAny_handleBy_cons (codeAny_handlers_test ?_) (by intro q; cases q)
        -- the classes, then the match, in a heap that is kept
        have test : ∀ {R : Bool → Shared → Prop} {E : Value → Shared → Prop}, (∀ h4, (∀ b o, h3.get? b = some o → h4.get? b = some o) → R b { s' with heap := h4 }) →
            wpAny (model X.prog X.w) (X.A.mark (some (.ref a))) (eval te X.env) (fun c s₁ => wpAny (model X.prog X.w) (X.A.mark (some (.ref a))) (excMatches (.ref a) c) R E s₁) E { s' with heap := h3 } := fun {R E} q => by
          cases hc with
          | one hn =>
            rename_i x c np
            have LT : PySem.W.Looks (model X.prog X.w) h3 (typeOf (.ref a)) cls := fun A Q E s k q => wpAny_typeOf_ref (k _ _ he3) (by rw [hz3.1]; exact q)
            obtain ⟨b1, d1, h1, h2, eb⟩ := PySem.W.exmAny_cons hb1
            have w2 : some false = some d1 := h2
            cases w2
            rw [Bool.or_false] at eb
            subst eb
            have LM := PySem.W.exm_one (M := model X.prog X.w) (J3.kIn) LT h1
            obtain ⟨hg, hdbg, hm | ⟨hm, hv, hnn⟩⟩ := hn
            · exact ld_glob (X := X.suite a ((a, oe3) :: (X.pn ++ pins))) S3 hg hm (LM.here (q h3 fun _ _ z => z)) hdbg
            · exact ld_blt (X := X.suite a ((a, oe3) :: (X.pn ++ pins))) S3 hg hm hv (LM.here (q h3 fun _ _ z => z)) hnn hdbg
          | tup hn =>
            rename_i es kk np
            refine wpAny_Tuple_spliced (eval_names (Y := X.suite a ((a, oe3) :: (X.pn ++ pins))) S3 _ hn.suite ⟨?_, ?_⟩)
            · exact Nat.le_trans (hz0 _ List.mem_cons_self) (by decide)
            · have kp : ∀ b o, h3.get? b = some o → (h3.push { cls := .type "tuple", data := .seq cs.toArray }).get? b = some o := fun b o e => Heap.get?_push_of_some _ e
              have LT : PySem.W.Looks (model X.prog X.w) (h3.push { cls := .type "tuple", data := .seq cs.toArray }) (typeOf (.ref a)) cls := fun A Q E s k q => wpAny_typeOf_ref (k _ _ (kp _ _ he3)) (by rw [hz3.1]; exact q)
              have LM := PySem.W.exm_tupN (M := model X.prog X.w) (J3.kIn.keeps kp) LT (Heap.get?_push_size _ rfl) hb1
              exact LM.here (q _ kp)
        refine test fun h4 kp => ?_
        have fl4 := flying_kept fl3 kp
        have up4 : sI.heap.UpToSlots h4 := up3.trans (.of_keeps kp)
        cases b with
        | true =>
          refine codeAny_handlers_suite_as ?_
          refine HandSPX.lands_againZ fl4 fun h5 fl5 up5 => ?_
          have J5 : Inv X pins σ' H' { s' with heap := h5 } := J.landed nb fl5.1 (up4.trans up5) os ag
          obtain ⟨oe5, vs5, he5, hz5, hd5⟩ := fl5.there
          have S5 := J5.suite he5 hd5 na nL nF
          refine store_ok (X := X.suite a ((a, oe5) :: (X.pn ++ pins))) (v := .ref a) S5 hN hi (.inl hln) rfl (fun s6 S6 => ?_) (.inr hln)
          refine wpAny_mono ((hsu a oe5 cls d (X.pn ++ pins) hz5 ⟨_, hd5⟩).run [] s6 _ H' _ S6 (hyes rfl a na)) (fun f s6 hsp => ?_) (fun _ _ z => False.elim z)
          have end_ : ∀ {σ6 : L2.St} {H6 : Hp} {Q : Shared → Prop}, Inv (X.suite a ((a, oe5) :: (X.pn ++ pins))) [] σ6 H6 s6 → (∀ s7, Inv X pins (σ6.set i none) H6 s7 → Q s7) →
              wpAny (model X.prog X.w) X.A (do bindName X.env n .none; unbindBehindTheSuite X.env n pos') (fun _ s7 => Q s7) X.xe s6 := fun {σ6 H6 Q} S6 hq => gone_ok (S6.unsuite ok) hN hi hln hq
          cases f with
          | next =>
            obtain ⟨σ6, H6, S6, q6⟩ := hsp
            exact end_ S6 fun s7 J7 => ⟨_, _, J7, q6⟩
          | brk =>
            obtain ⟨σ6, H6, S6, q6⟩ := hsp
            exact end_ S6 fun s7 J7 => ⟨_, _, J7, q6⟩
          | cont =>
            obtain ⟨σ6, H6, S6, q6⟩ := hsp
            exact end_ S6 fun s7 J7 => ⟨_, _, J7, q6⟩
          | ret u =>
            obtain ⟨v6, σ6, H6, S6, r6, q6⟩ := hsp
            exact end_ S6 fun s7 J7 => ⟨_, _, _, J7, r6, q6⟩
        | false =>
          show wpAny _ X.A (handleBy (.ref a) X.env hds2) _ _ _
          exact ih (fun x hx => hz0 x (List.mem_cons_of_mem _ hx)) (hno rfl) h4 fl4 up4
    exact go hh hsz w h3 fl3 (up.trans up3)
  · cases f with
    | next =>
      obtain ⟨σ', H', J', q⟩ := hsp
      exact wpAny_execs_nil ⟨σ', H', J'.ofTry ok, q⟩
    | brk =>
      obtain ⟨σ', H', J', q⟩ := hsp
      exact ⟨σ', H', J'.ofTry ok, q⟩
    | cont =>
      obtain ⟨σ', H', J', q⟩ := hsp
      exact ⟨σ', H', J'.ofTry ok, q⟩
    | ret u =>
      obtain ⟨v, σ', H', J', r, q⟩ := hsp
      exact ⟨v, σ', H', J'.ofTry ok, r, q⟩
end
end Bw

namespace Bw
open PySem PySem.Spec PyProof.Rows L2
/-! ### raise of own classes -/
section
variable {X : Cx}
/-- X(), X an own exception class without own __init__ -/
theorem pmk_own0 {C : Addr} {bmB : List Value} {B newId initId : String} {x : Str} {p pos : Pos} (F : ExcBaseFacts B newId initId bmB) (q : PySem.W.excIn X.K C bmB newId = true) (gC : X.mg x = some (.ref C))
    (kC : PySem.W.keepIn X.K (.ref C) = true) (r : Raises X (.ref C)) (hg : Gl X x) (hdb : (x == ("__debug__" : Str)) = false := by decide) : PMk X (.Call (.Name x p) [] [] pos) (fun _ H Q => Q (.ref C) none H) := by
  intro pins s σ H Q I h
  refine wpAny_Call_Name_kw (ld_glob I hg gC ?_ hdb)
  refine PySem.W.callWith_K0 I.kIn kC ?_
  show wpAny _ _ (call (.ref C) []) _ _ _
  obtain ⟨bm, N, nm, qn, bs, hdct, sn, sub, ab, col, dd, k0, k1, k2, k3, k5, mN, hC, hN, hni, T⟩ := exc_obj I.kIn q
  refine wpAny_call_exc_subT F T hC hN hni (fun h' e hm => ?_) (by show 0 ≤ sizeLine; exact Nat.zero_le _)
  exact mk_of I hm r h (I.hok.gone hm.new)
/-- D.__init__(self, ..), D an own class above which stands ValueError -/
theorem pe_wrinit {pl : Sem Bool} {D : Addr} {x : Str} {e : Expr} {es : List Expr} {ta : TA} {p1 p2 pos : Pos} (hg : Gl X x) (hm : X.mg x = some (.ref D)) (hga : PySem.W.specialIn X.K (.ref D) "__getattribute__" = some (some (.builtin "type.__getattribute__")))
    (hrd : PySem.W.readsIn X.K D (.type "type") = true) (vV : PySem.W.findCls X.K (.ref D) (.type "type") "__init__" = some (.val (.builtin "ValueError.__init__"))) (ha : PA X (e :: es) ta)
    (hdb : (x == ("__debug__" : Str)) = false := by decide)
    (hc : eval (.Call (.Attribute (.Name x p1) "__init__" p2) (e :: es) [] pos) X.env = (do
      let ov ← eval (.Name x p1) X.env
      standAt p2.atName
      let (f, first) ← holding [ov] (getMethod ov "__init__" pl)
      callWith pos f first (backTo pos (starEach (e :: es) X.env)) (backToKw pos (keywordEach [] X.env))) := by rfl)
    (he : starEach (e :: es) X.env = (false, eval e X.env) :: starEach es X.env := by rfl) (hpl : (backTo pos (starEach es X.env)).any (·.1) = false := by rfl) :
    PE X (.Call (.Attribute (.Name x p1) "__init__" p2) (e :: es) [] pos) (tVeI X.K ta) := by
  refine ⟨fun pins s σ H Q I h => ?_⟩
  refine PySem.W.methodCall_KW (ld_glob I hg hm ?_ hdb) hc
  refine PySem.W.method_cls I.kIn hga (PySem.W.cls_value I.kIn hrd vV rfl ?_)
  show wpAny _ _ (callWith pos (Value.builtin "ValueError.__init__") [] (backTo pos (starEach (e :: es) X.env)) []) _ _ _
  refine PyProof.Rows.callWith_method1 (thn (ha.run pos pins _ σ H _ (I.tok _) h) fun us s1 ⟨vs, H1, I1, r1, a, C, ws, ev, hl, T, ea, q⟩ => ?_) he hpl
  subst ev
  cases r1 with
  | @cons _ u0 _ ur ra rw' =>
    obtain rfl : u0 = Value.ref a := ra
    have hlen : ur.length ≤ sizeLine := by
      rw [← Paired.length rw', sizeLine_eq]
      omega
    exact oinit_ok T I1 ea hlen fun s' J => ⟨.non, H1, J, rfl, q⟩
/-- C(), C's own __init__ -/
theorem pmk_oex0 {CX : CXT} {x : Str} {C fI : Addr} {k : Nat} {fd : FuncData} {ps : List Str} {sp : Sp} {ds : List Value} {dvs : List V} {p pos : Pos} (T : OexC X.K C) (iC : PySem.W.findIn X.K (.ref C) "__init__" = some (some (.ref fI))) (tI : PySem.W.typeIn X.K (.ref fI) = some (.type "function"))
    (F1 : FnOk X.prog X.w X.K X.mg X.base CX k fI fd ps sp) (hr : Room (k + 1) X.A) (hb : Binds X.K fd ps ds) (hd : Vals dvs ds) (hx : Passes CX X (fun _ _ _ => False)) (hg : Gl X x) (hm : X.mg x = some (.ref C))
    (hdb : (x == ("__debug__" : Str)) = false := by decide) :
    PMk X (.Call (.Name x p) [] [] pos) (tMkO C sp dvs tNil) := by
  intro pins s σ H Q I h
  obtain ⟨nm, q, N, bs, bm, sn, sub, ab, col, dd, k0, k1, k2, k3, k5, hC, hbm⟩ := T.cls
  refine wpAny_Call_Name_kw (ld_glob I hg hm ?_ hdb)
  obtain ⟨hz, q1⟩ := h
  refine PySem.W.callWith_K0 I.kIn T.kC ?_
  show wpAny _ _ (call (.ref C) []) _ _ _
  obtain ⟨hp, g, dr, tk, os⟩ := s
  have hsz : hp.objs.size ≤ hp.objs.size + 1 := Nat.le_succ _
  have hn : H (hp.objs.size + 1) = none := I.hok.fresh hsz
  have hq := q1 (hp.objs.size + 1) hn
  have kk : ∀ b o, hp.get? b = some o → ((hp.push (PySem.W.kdv_tup [])).push (PySem.HandSPX.excO C hp.objs.size)).get? b = some o := fun b o e => Heap.get?_push_of_some _ (Heap.get?_push_of_some _ e)
  have hget : ((hp.push (PySem.W.kdv_tup [])).push (PySem.HandSPX.excO C hp.objs.size)).get? (hp.objs.size + 1) = some (PySem.HandSPX.excO C hp.objs.size) := by heap_get
  have I2 : Inv X pins σ (upd H (hp.objs.size + 1) (exo (hp.objs.size + 1) C none)) ⟨(hp.push (PySem.W.kdv_tup [])).push (PySem.HandSPX.excO C hp.objs.size), g, dr, tk, os⟩ :=
    I.laid (t' := tk) (a := hp.objs.size + 1) (o := exo (hp.objs.size + 1) C none) (h' := (hp.push (PySem.W.kdv_tup [])).push (PySem.HandSPX.excO C hp.objs.size)) kk hsz (exo_ok hget)
  have r2 : Vals (V.ref (hp.objs.size + 1) :: ([] ++ dvs)) (Value.ref (hp.objs.size + 1) :: ([] ++ ds)) := .cons rfl (Vals.append .nil hd)
  have hl : (Value.ref (hp.objs.size + 1) :: [] ++ ds).length = ps.length := by
    have e := r2.length
    rw [F1.len _ _ _ _ hq] at e
    exact e.symm
  refine wpAny_call (PySem.HandSPX.call_own F.excBase_ValueError (fun Y => PySem.HandSPX.refsVE_contains Y bm hbm) (I.kIn _ _ hC) (PySem.W.looks_findIn I.kIn iC) (fun self => PySem.W.bind_fn I.kIn self tI) (Nat.zero_le _)
    (codeAny_mono (F1.run _ X.stack _ _ ⟨Value.ref (hp.objs.size + 1) :: [], []⟩ (Value.ref (hp.objs.size + 1) :: ([] ++ ds)) _ _ (fun _ _ _ => False) (hr.make C [] []) (I2.env0.make C [] []) (show BindsTo _ _ _ (ps.zip (Value.ref (hp.objs.size + 1) :: ([] ++ ds))) from hb _ (Value.ref (hp.objs.size + 1) :: []) I2.kIn hl) r2 hq) fun r s' hq' => ?_))
  cases r with
  | error er => exact hx pins σ _ _ er s' I2 hq'
  | ok fl =>
    cases fl with
    | ret u =>
      obtain ⟨v, H2, os2, bare2, un2, hok2, rv, ev, d, fs, ea, ed, hd1, q2⟩ := hq'
      subst ev
      obtain ⟨h2, g2, d2, t2, os'⟩ := s'
      exact ⟨rv, mk_end (raises_own T.exC T.tyC) I hsz kk un2 hok2 os2 bare2 ea ed hd1 q2⟩
    | next => exact False.elim hq'
    | brk => exact False.elim hq'
    | cont => exact False.elim hq'
end
/-! ### own exceptions with one field -/
/-- what such an __init__(self, v) does -/
def spXi (K : PySem.W.Frag) (f : Str) : Sp := fun vs H Q _ => ∃ (a C : Addr) (v : V), vs = [.ref a, v] ∧ OexC K C ∧ PySem.W.findIn K (.ref C) f = some none ∧ H a = some (exo a C none) ∧ ∀ dx, H dx = none → dx ≠ a → Q .non (upd (upd H dx (exd dx [(f, v)])) a (exo a C (some dx)))
/-- an own exception class x, its __init__ puts one field f; dvs: what is told by default -/
structure Xcl (P : Program) (w : World) (K : PySem.W.Frag) (mg : Str → Option Value) (base : Heap) (x : Str) (C : Addr) (k : Nat) (f : Str) (dvs : List V) : Prop where
  T : OexC K C
  no : PySem.W.findIn K (.ref C) f = some none
  hm : mg x = some (.ref C)
  ex : ∃ (fI : Addr) (fd : FuncData) (ds : List Value) (ps : List Str), PySem.W.findIn K (.ref C) "__init__" = some (some (.ref fI)) ∧ PySem.W.typeIn K (.ref fI) = some (.type "function") ∧ FnOk P w K mg base CX0 k fI fd ps (spXi K f) ∧ Binds K fd ps ds ∧ Vals dvs ds
def tXmk (C : Addr) (f : Str) (dvs : List V) (ta : TA) : L2.St → Hp → XK → Prop := fun σ H Q => ta σ H fun vs H1 => ∃ v, vs ++ dvs = [v] ∧ ∀ d H2, H1 d = none → Same H1 H2 → H2 d = some (.xd [(f, v)]) → Q (.ref C) (some d) H2
theorem xi_end {K : PySem.W.Frag} {H1 : Hp} {C : Addr} {f : Str} {v : V} {Q : XK} (T : OexC K C) (no : PySem.W.findIn K (.ref C) f = some none) (h : ∀ d H2, H1 d = none → Same H1 H2 → H2 d = some (.xd [(f, v)]) → Q (.ref C) (some d) H2) (a : Addr) (na : H1 a = none) :
    spXi K f [.ref a, v] (upd H1 a (exo a C none)) (fun v H2 => v = .non ∧ ∃ (d : Addr) (fs : List (Str × V)), H2 a = some (exo a C (some d)) ∧ H2 d = some (exd d fs) ∧ H1 d = none ∧ Q (.ref C) (some d) (upd (del H2 a) d (.xd fs))) (fun _ _ _ => False) := by
  refine ⟨a, C, v, rfl, T, no, upd_same, fun dx n ne => ⟨rfl, dx, [(f, v)], upd_same, by rw [upd_ne ne, upd_same], by rw [upd_ne ne] at n; exact n, ?_⟩⟩
  rw [upd_ne ne] at n
  refine h dx _ n (fun c o e => ?_) upd_same
  have c1 := ne_of_none e n
  have c2 := ne_of_none e na
  rw [upd_ne c1, del_ne c2, upd_ne c2, upd_ne c1, upd_ne c2]
  exact e
section
variable {X : Cx}
theorem pmk_x {x f : Str} {C : Addr} {k : Nat} {dvs : List V} {e : Expr} {es : List Expr} {ta : TA} {p pos : Pos} (Z : Xcl X.prog X.w X.K X.mg X.base x C k f dvs) (hr : Room (k + 1) X.A) (hg : Gl X x) (ha : PA X (e :: es) ta) (mono : ∀ σ H (Q Q' : List V → Hp → Prop), (∀ vs H, Q vs H → Q' vs H) → ta σ H Q → ta σ H Q')
    (hdb : (x == ("__debug__" : Str)) = false := by decide) (he : starEach (e :: es) X.env = (false, eval e X.env) :: starEach es X.env := by rfl) (hpl : (backTo pos (starEach es X.env)).any (·.1) = false := by rfl) :
    PMk X (.Call (.Name x p) (e :: es) [] pos) (tXmk C f dvs ta) := by
  obtain ⟨fI, fd, ds, ps, iC, tI, F, hb, hd⟩ := Z.ex
  have M := pmk_oex (p := p) (pos := pos) Z.T iC tI F hr hb hd pass0 hg Z.hm ha hdb he hpl
  intro pins s σ H Q I h
  refine M pins s σ H Q I (mono _ _ _ _ (fun vs H1 ⟨v, ev, q⟩ => ⟨?_, fun a na => ?_⟩) h)
  · have := congrArg List.length ev
    simp only [List.length_append, List.length_cons, List.length_nil] at this
    omega
  · rw [ev]
    exact xi_end Z.T Z.no q a na
theorem pmk_x0 {x f : Str} {C : Addr} {k : Nat} {dvs : List V} {p pos : Pos} (Z : Xcl X.prog X.w X.K X.mg X.base x C k f dvs) (hr : Room (k + 1) X.A) (hg : Gl X x) (hdb : (x == ("__debug__" : Str)) = false := by decide) :
    PMk X (.Call (.Name x p) [] [] pos) (tXmk C f dvs tNil) := by
  obtain ⟨fI, fd, ds, ps, iC, tI, F, hb, hd⟩ := Z.ex
  have M := pmk_oex0 (p := p) (pos := pos) Z.T iC tI F hr hb hd pass0 hg Z.hm hdb
  intro pins s σ H Q I h
  obtain ⟨v, ev, q⟩ := h
  refine M pins s σ H Q I ⟨Nat.zero_le _, fun a na => ?_⟩
  rw [ev]
  exact xi_end Z.T Z.no q a na
/-- such an __init__ -/
theorem ok_xinit {P : Program} {w : World} {K : PySem.W.Frag} {mg : Str → Option Value} {base : Heap} {fI D : Addr} {fd : FuncData} {k : Nat} {qual x f par m : Str} {pa : Arguments} {sc : Scope} {dfl : List V} {kws : List (Str × V)} {j : Nat} {p1 p2 p3 p4 p5 p6 p7 p8 p9 p10 : Pos}
    (F : FunD K "__init__" qual pa [.Expr (.Call (.Attribute (.Name x p1) "__init__" p2) [.Name "self" p3, .Constant (.str m) j p4] [] p5) p6, .Assign [.Attribute (.Name "self" p7) f p8] (.Name par p9) p10] sc dfl kws fI fd) (S : FnScope ["self", par] ["self", par] sc)
    (hm : mg x = some (.ref D)) (hga : PySem.W.specialIn K (.ref D) "__getattribute__" = some (some (.builtin "type.__getattribute__"))) (hrd : PySem.W.readsIn K D (.type "type") = true) (vV : PySem.W.findCls K (.ref D) (.type "type") "__init__" = some (.val (.builtin "ValueError.__init__")))
    (hgl : sc.names.lookup x = some .globalImplicit) (v0 : Vis sc "self") (v1 : Vis sc par)
    (hc : ∀ (L g : Addr) (cd : Value), ∃ pl : Sem Bool, eval (.Call (.Attribute (.Name x p1) "__init__" p2) [.Name "self" p3, .Constant (.str m) j p4] [] p5) (envOfC qual sc L g cd) = (do
      let ov ← eval (.Name x p1) (envOfC qual sc L g cd)
      standAt p2.atName
      let (f, first) ← holding [ov] (getMethod ov "__init__" pl)
      callWith p5 f first (backTo p5 (starEach [.Name "self" p3, .Constant (.str m) j p4] (envOfC qual sc L g cd))) (backToKw p5 (keywordEach [] (envOfC qual sc L g cd)))))
    (hs : ∀ (L g : Addr) (cd : Value), swapsWith (.Name par p9) (some (.Attribute (.Name "self" p7) f p8)) p10.line (envOfC qual sc L g cd) = pure false)
    (hdb : (x == ("__debug__" : Str)) = false) (hd1 : (par == ("__debug__" : Str)) = false) (hcd1 : (par == ("__classdict__" : Str)) = false) : FnOk P w K mg base CX0 (k + 1) fI fd ["self", par] (spXi K f) := by
  refine F.ok S (fun vs H Q E ⟨a, C, v, e, _⟩ => by rw [e]; rfl) (fun cdv A outer s H vs Q E hr h => ?_)
  obtain ⟨pl, hc⟩ := hc s.heap.objs.size fI cdv
  refine ⟨_, pss_cons (ps_expr (pe_wrinit (D := D) (pl := pl) hgl hm hga hrd vV (pa_cons (pe_var (i := 0) rfl v0 (by decide) (by decide)) (pa_cons pe_str pa_nil)) hdb hc)) (pss_one (ps_ost (pe_var (i := 0) rfl v0 (by decide) (by decide)) (pe_var (i := 1) rfl v1 hd1 hcd1) (hs _ _ _))), ?_⟩
  obtain ⟨a, C, v, rfl, T, no, ha, q⟩ := h
  exact ⟨.ref a, rfl, a, C, [.str m], rfl, (by simp), T, ha, v, rfl, .ref a, rfl, a, C, rfl, T, no, .inl ⟨ha, q⟩⟩
end
end Bw

namespace Bw
open PySem PySem.Spec PyProof.Rows L2
/-! ### defs that may raise, as their callers want them -/
structure FnX (P : Program) (w : World) (K : PySem.W.Frag) (mg : Str → Option Value) (base : Heap) (x : Str) (k : Nat) (ps : List Str) (sp : Sp) : Prop where
  ex : ∃ (f : Addr) (fd : FuncData), FnOk P w K mg base (L2.CX P w) k f fd ps sp ∧ mg x = some (.ref f) ∧ PySem.W.keepIn K (.ref f) = true ∧ Binds K fd ps []
structure MeX (P : Program) (w : World) (K : PySem.W.Frag) (mg : Str → Option Value) (base : Heap) (C : Addr) (m : Str) (k : Nat) (ps : List Str) (sp : Sp) : Prop where
  ex : ∃ (f : Addr) (fd : FuncData), FnOk P w K mg base (L2.CX P w) k f fd ps sp ∧ Meth K C m f ∧ Binds K fd ps []
structure MkrX (P : Program) (w : World) (K : PySem.W.Frag) (mg : Str → Option Value) (base : Heap) (x : Str) (C : Addr) (k : Nat) (ps : List Str) (dvs : List V) (sp : Sp) : Prop where
  ex : ∃ (f : Addr) (fd : FuncData) (ds : List Value), Mk K C f ∧ FnOk P w K mg base (L2.CX P w) k f fd ps sp ∧ mg x = some (.ref C) ∧ Binds K fd ps ds ∧ Vals dvs ds
section
variable {X : Cx}
/-- what a callee lets out is let out -/
abbrev Lets (X : Cx) (E : XK) : Prop := Passes (L2.CX X.prog X.w) X E
theorem pe_fx {E : XK} {x : Str} {k : Nat} {ps : List Str} {sp : Sp} {e : Expr} {es : List Expr} {t : TA} {p pos : Pos} (F : FnX X.prog X.w X.K X.mg X.base x k ps sp) (hx : Lets X E) (hr : Room k X.A) (hg : Gl X x) (ha : PA X (e :: es) t)
    (hdb : (x == ("__debug__" : Str)) = false := by decide) (he : starEach (e :: es) X.env = (false, eval e X.env) :: starEach es X.env := by rfl) (hpl : (backTo pos (starEach es X.env)).any (·.1) = false := by rfl) :
    PE X (.Call (.Name x p) (e :: es) [] pos) (tCall sp [] E t) := by
  obtain ⟨f, fd, G, hm, hk, hb⟩ := F.ex
  exact pe_call G hr hg hm hk hb .nil hx ha hdb he hpl
theorem pe_mex {E : XK} {pl : Sem Bool} {C : Addr} {m : Str} {k : Nat} {ps : List Str} {sp : Sp} {o e : Expr} {es : List Expr} {t : TA} {ta : TE} {apos pos : Pos} (he : PE X o ta) (c : Cls X.K C) (M : MeX X.prog X.w X.K X.mg X.base C m k ps sp) (hx : Lets X E) (hr : Room k X.A) (ha : PA X (e :: es) t)
    (hst : starEach (e :: es) X.env = (false, eval e X.env) :: starEach es X.env := by rfl) (hpl : (backTo pos (starEach es X.env)).any (·.1) = false := by rfl)
    (ht : eval (.Call (.Attribute o m apos) (e :: es) [] pos) X.env = (do
      let ov ← eval o X.env
      standAt apos.atName
      let (f, first) ← holding [ov] (getMethod ov m pl)
      callWith pos f first (backTo pos (starEach (e :: es) X.env)) (backToKw pos (keywordEach [] X.env))) := by rfl) :
    PE X (.Call (.Attribute o m apos) (e :: es) [] pos) (tMeth C m sp [] E ta t) := by
  obtain ⟨f, fd, G, hm, hb⟩ := M.ex
  exact pe_meth he c hm G hr hb .nil hx ha hst hpl ht
theorem pe_mex0 {E : XK} {pl : Sem Bool} {C : Addr} {m : Str} {k : Nat} {ps : List Str} {sp : Sp} {o : Expr} {ta : TE} {apos pos : Pos} (he : PE X o ta) (c : Cls X.K C) (M : MeX X.prog X.w X.K X.mg X.base C m k ps sp) (hx : Lets X E) (hr : Room k X.A)
    (ht : eval (.Call (.Attribute o m apos) [] [] pos) X.env = (do
      let ov ← eval o X.env
      standAt apos.atName
      let (f, first) ← holding [ov] (getMethod ov m pl)
      callWith pos f first (backTo pos (starEach [] X.env)) (backToKw pos (keywordEach [] X.env))) := by rfl) :
    PE X (.Call (.Attribute o m apos) [] [] pos) (tMeth C m sp [] E ta tNil) := by
  obtain ⟨f, fd, G, hm, hb⟩ := M.ex
  exact pe_meth0 he c hm G hr hb .nil hx ht
theorem pe_mkx {E : XK} {x : Str} {C : Addr} {k : Nat} {ps : List Str} {dvs : List V} {sp : Sp} {e : Expr} {es : List Expr} {t : TA} {p pos : Pos} (M : MkrX X.prog X.w X.K X.mg X.base x C k ps dvs sp) (hx : Lets X E) (hr : Room (k + 1) X.A) (hg : Gl X x) (ha : PA X (e :: es) t)
    (hdb : (x == ("__debug__" : Str)) = false := by decide) (he : starEach (e :: es) X.env = (false, eval e X.env) :: starEach es X.env := by rfl) (hpl : (backTo pos (starEach es X.env)).any (·.1) = false := by rfl) :
    PE X (.Call (.Name x p) (e :: es) [] pos) (tMake C sp dvs E t) := by
  obtain ⟨f, fd, ds, M, G, hm, hb, hd⟩ := M.ex
  exact pe_make M G hr hg hm hb hd hx ha hdb he hpl
theorem pe_gcls {x : Str} {C : Addr} {p : Pos} (h : X.mg x = some (.ref C)) (hg : Gl X x) (hd : (x == ("__debug__" : Str)) = false := by decide) : PE X (.Name x p) (tC (.ref C)) := pe_glob (v := .ref C) hg h rfl hd
/-- X(), X an own exception class without own __init__ that stands above ValueError -/
structure XpV (K : PySem.W.Frag) (C : Addr) : Prop where
  q : PySem.W.excIn K C PySem.HandSPX.veTail "ValueError.__new__" = true
  kp : PySem.W.keepIn K (.ref C) = true
  h1 : PySem.W.subIn K (.ref C) (.type "BaseException") = some true
  h2 : PySem.W.typeIn K (.ref C) = some (.type "type")
theorem pmk_ownV {C : Addr} {x : Str} {p pos : Pos} (h : XpV X.K C) (gC : X.mg x = some (.ref C)) (hg : Gl X x) (hdb : (x == ("__debug__" : Str)) = false := by decide) : PMk X (.Call (.Name x p) [] [] pos) (fun _ H Q => Q (.ref C) none H) :=
  pmk_own0 F.excBase_ValueError h.q gC h.kp (raises_own h.h1 h.h2) hg hdb
theorem huH {k : Nat} {A : Around} (r : L2H.RoomH k A) : A.units + 65 < cLine := by have := r.un; omega
theorem lets0 : Lets X E0 := passL
theorem lets_of {E : XK} (tk : Takes X (fun cls d _ H => E cls d H)) : Lets X E := passes_call tk fun _ _ _ _ h => h
end
/-- a def's own wish -/
theorem takesX {P : Program} {w : World} {K : PySem.W.Frag} {mg : Str → Option Value} {base : Heap} {N : List Str} {qual : Str} {scope : Scope} {f : Addr} {cdv : Value} {A : Around} {outer : List Env} {s : Shared} {H : Hp} {E : XK} :
    Takes (cxOf (L2.CX P w) P w K mg base N qual scope f cdv A outer s H E) (fun cls d _ H => E cls d H) := takes_of rfl rfl rfl rfl
theorem takesLam {X : Cx} {A : Around} {outer : List Env} {s : Shared} {H : Hp} {E : XK} {scope : Scope} {f c' : Addr} : Takes (LamX.lamCx X A outer s H E scope f c') (fun cls d _ H => E cls d H) := takes_of rfl rfl rfl rfl
/-- what is never reached -/
theorem pss_no {X : Cx} {b : List Stmt} : PSs X b (fun _ _ _ => False) := ⟨fun _ _ _ _ _ _ h => h.elim⟩
/-! ### l.count(x) -/
section
variable {X : Cx}
def rCountD (K : PySem.W.Frag) : V → List V → Hp → VK → Prop := fun x xs H Q => ∃ (a : Addr) (y : V) (d : PyData) (ds : List PyData), x = V.ref a ∧ xs = [y] ∧ Dp K H (V.ref a) (.list ds) ∧ Dp K H y d ∧
  SeqAt.shaped (.list ds) = true ∧ SeqAt.shaped d = true ∧ Q (.int ((ds.countP fun z => PyData.eqv z d : Nat) : Int)) H
theorem mt_countD (hu : X.A.units + 65 < cLine) : MtR X "list.count" (rCountD X.K) := by
  intro pins s σ H x xs v us Q I rx rxs h
  obtain ⟨a, y, d, ds, rfl, rfl, hl, hy, sl, sd, q⟩ := h
  cases rx
  cases rxs with
  | cons ry rt =>
    rename_i uy ut
    cases rt
    obtain ⟨bs, r1⟩ := Dp.reads I d y uy hy ry
    have hroom : X.A.units + 1 + min (PyData.depthAll ds) d.depth < cLine := room_in_shaped sd hu
    have cl : PyData.canLayAll0 ds = true := SeqAt.canLay_of_shaped sl
    cases hl with
    | lst hs ha =>
      obtain ⟨its, rv, ⟨⟨cls, dd, data, sls⟩, n, ho, hc, hdn, hdt⟩, hlen⟩ := I.list hs
      simp only at hc hdt
      subst hc hdt
      obtain ⟨as, h4⟩ := Dp.readsAll I ds _ its ha rv
      have hmap : its.map (SeqAt.readOf s.heap) = ds := SeqAt.readsAll_map ds its as cl h4
      have ec : (ds.countP fun z => PyData.eqv z d) = its.toArray.toList.countP (fun u => PyData.eqv (SeqAt.readOf s.heap u) d) := by
        rw [← hmap, List.countP_map]
        rfl
      rw [ec] at q
      exact call_meets PySem.F.slot_list_count ⟨_, ho, rfl⟩ PySem.F.entry_list_count (PySem.F.args_list_count_2 _ _) (SeqAt.list_countAt a its.toArray n dd sls uy (fun u => PyData.eqv (SeqAt.readOf s.heap u) d))
        ⟨ho, SeqAt.items_eqAt (vs := its.toArray) (show ReadsAll s.heap its.toArray.toList ds as from h4) r1 cl (SeqAt.canLay_of_shaped sd) hroom, ⟨.int _, H, I.tok _, ⟨_, rfl⟩, q⟩⟩
end
/-! ### the caught exception within an except suite and the defs that are called there -/
/-- its dict, where it has one, is known -/
def XdOk (d : Option Addr) (H : Hp) : Prop := ∀ dd, d = some dd → ∃ fs, H dd = some (.xd fs)
section
variable {X : Cx}
theorem inst_pin {pins : List (Addr × Obj)} {σ : L2.St} {H : Hp} {s : Shared} {a D : Addr} {d : Option Addr} {oe : Obj} (I : Inv X pins σ H s) (hp : (a, oe) ∈ X.pn) (hz : Zc (.ref D) d oe) (hf : ∃ vs, oe.data = .fields vs) (hd : XdOk d H) : ∃ od, PySem.W.InstAt s.heap a oe D od := by
  obtain ⟨hget, _⟩ := I.pin (a, oe) (List.mem_append.mpr (.inl hp))
  obtain ⟨vs, hv⟩ := hf
  obtain ⟨z1, z2⟩ := hz
  have nc : PySem.W.notCls oe = true := by unfold PySem.W.notCls; rw [hv] <;> rfl
  cases d with
  | none => exact ⟨none, hget, z1, nc, by rw [z2]; trivial⟩
  | some dd =>
    obtain ⟨fs, e⟩ := hd dd rfl
    have hx : ObjOk X.prog X.w H s.heap dd (.xd fs) := I.hok dd _ e
    obtain ⟨mA, hns, hr⟩ := hx
    obtain ⟨od, ho, hl⟩ := lookIn_ns hns
    exact ⟨some od, hget, z1, nc, by rw [z2]; exact ho⟩
/-- isinstance(e, C) -/
def rIsP (K : PySem.W.Frag) (a : Addr) (cls : Value) (d : Option Addr) : List V → Hp → VK → Prop := fun xs H Q => ∃ (D : Addr) (c : V) (cv : Value) (b : Bool), cls = .ref D ∧ ExcC K D ∧ xs = [.ref a, c] ∧ ClsV c cv ∧ PySem.W.kitOne K (.ref D) cv = some b ∧ XdOk d H ∧ Q (.bl b) H
theorem kit_pin {a D : Addr} {oe : Obj} {od : Option Obj} (C : ExcC X.K D) : PySem.W.KitX X.K (.ref a) (.ref D) (fun h => PySem.W.InstAt h a oe D od) :=
  PySem.W.kitx_exc (by obtain ⟨cd, hc, _⟩ := PySem.W.any_some C.hd; rw [hc]; rfl) C.hg C.hk C.hs C.ha C.hn C.ht C.hm
theorem call_isP {a : Addr} {cls : Value} {d : Option Addr} {oe : Obj} (hp : (a, oe) ∈ X.pn) (hz : Zc cls d oe) (hf : ∃ vs, oe.data = .fields vs) : CallR X (.builtin "isinstance") (rIsP X.K a cls d) := by
  intro pins s σ H xs us Q I r h
  obtain ⟨D, c, cv, b, rfl, C, rfl, hcv, e, hx, q⟩ := h
  obtain ⟨od, J⟩ := inst_pin I hp hz hf hx
  obtain ⟨u1, u2, rfl, r1, r2⟩ := vals2 r
  cases (show u1 = Value.ref a from r1)
  have ec := hcv.eq r2
  subst ec
  exact PySem.W.kia_one (kit_pin C) I.kIn J e (fun z => nomatch z) fun tk => ⟨.bl b, H, I.tok tk, rfl, q⟩
/-- isinstance(e, (C1, C2, ..)) -/
def rIsPT (K : PySem.W.Frag) (a : Addr) (cls : Value) (d : Option Addr) : List V → Hp → VK → Prop := fun xs H Q => ∃ (D tp : Addr) (cs : List V) (us : List Value) (b : Bool), cls = .ref D ∧ ExcC K D ∧ xs = [.ref a, .ref tp] ∧ H tp = some (.tup cs) ∧ Paired ClsV cs us ∧ PySem.W.kitAny K (.ref D) us = some b ∧ XdOk d H ∧ Q (.bl b) H
theorem call_isPT {a : Addr} {cls : Value} {d : Option Addr} {oe : Obj} (hp : (a, oe) ∈ X.pn) (hz : Zc cls d oe) (hf : ∃ vs, oe.data = .fields vs) : CallR X (.builtin "isinstance") (rIsPT X.K a cls d) := by
  intro pins s σ H xs us Q I r h
  obtain ⟨D, tp, cs, ws, b, rfl, C, rfl, hT, k, e, hx, q⟩ := h
  obtain ⟨od, J⟩ := inst_pin I hp hz hf hx
  obtain ⟨u1, u2, rfl, r1, r2⟩ := vals2 r
  cases (show u1 = Value.ref a from r1)
  cases (show u2 = Value.ref tp from r2)
  obtain ⟨_, its, rv, o, h1, h2, n, h3⟩ := (show ObjOk X.prog X.w H s.heap tp (.tup cs) from I.hok tp _ hT)
  have e3 := ClsV.all k rv
  subst e3
  obtain ⟨oc, od', dt, sl⟩ := o
  simp only at h2 h3
  subst h2 h3
  exact PySem.W.kia_tup (kit_pin C) I.kIn J h1 e (fun z => nomatch z) fun tk => ⟨.bl b, H, I.tok tk, rfl, q⟩
/-- e.f -/
def tXfc (K : PySem.W.Frag) (a : Addr) (cls : Value) (d : Option Addr) (f : Str) (te : TE) : TE := fun σ H Q => te σ H fun x H1 => ∃ (D dd : Addr) (fs : List (Str × V)) (v : V), x = .ref a ∧ cls = .ref D ∧ ExcC K D ∧ PySem.W.findIn K (.ref D) f = some none ∧ d = some dd ∧ H1 dd = some (.xd fs) ∧ fs.lookup f = some v ∧ Q v H1
theorem pe_xfc {a : Addr} {oe : Obj} {cls : Value} {d : Option Addr} {e : Expr} {te : TE} {pos : Pos} {n : Str} (hp : (a, oe) ∈ X.pn) (hz : Zc cls d oe) (hf : ∃ vs, oe.data = .fields vs) (he : PE X e te) (hb : attributeBase e n X.env (eval e X.env) = eval e X.env := by rfl) :
    PE X (.Attribute e n pos) (tXfc X.K a cls d n te) := by
  refine ⟨fun pins s σ H Q I h => ?_⟩
  refine attr_of hb (thn (he.run pins s σ H _ I h) fun u s1 hh => ?_)
  obtain ⟨x, H1, I1, rx, D, dd, fs, v, ex, ec, C, no, ed, ea, l, q⟩ := hh
  subst ex ec ed
  cases (show u = Value.ref a from rx)
  obtain ⟨ha, _⟩ := I1.pin (a, oe) (List.mem_append_left _ hp)
  obtain ⟨vs, hd⟩ := hf
  obtain ⟨mA, hns, hr⟩ := (show ObjOk X.prog X.w H1 s1.heap dd (.xd fs) from I1.hok dd _ ea)
  obtain ⟨od, ho, hl⟩ := lookIn_ns hns
  obtain ⟨u, hu, ru⟩ := RelO.some_of (v := v) (o := mA n) (by rw [← l]; exact hr n)
  have J : PySem.W.InstAt s1.heap a oe D (some od) := ⟨ha, hz.1, by unfold PySem.W.notCls; rw [hd] <;> rfl, by rw [hz.2]; exact ho⟩
  exact HandSPX.exc_get I1.kIn J C.hg C.hk C.hs (PySem.W.findObj_own C.hd no rfl (by rw [hl, hu])) (handed_of ru) ⟨v, H1, I1.tok _, ru, q⟩
end
/-! ### a def that is called with the caught exception -/
abbrev SpP := Addr × Obj → List V → Hp → VK → Prop
structure FnP0 (P : Program) (w : World) (K : PySem.W.Frag) (mg : Str → Option Value) (base : Heap) (k : Nat) (f : Addr) (fd : FuncData) (ps : List Str) (sp : SpP) : Prop where
  len : ∀ p vs H Q, sp p vs H Q → vs.length = ps.length
  run : ∀ (A : Around) (outer : List Env) (s : Shared) (H : Hp) (args : Args) (us : List Value) (vs : List V) (Q : VK) (p : Addr × Obj), L2H.RoomH k A → L2H.PinOk outer H s p → Env0 P w K mg base A outer s H → BindsTo s fd args (ps.zip us) → Vals vs us → sp p vs H Q →
    codeAny (model P w) A (.call (.ref f) args) (CR CX0 outer P w H s Q E0) s
theorem Fun.okP {P : Program} {w : World} {K : PySem.W.Frag} {mg : Str → Option Value} {base : Heap} {x qual : Str} {st : Stmt} {f : Addr} {fd : FuncData} {N ps : List Str} {k : Nat} {sp : SpP} (F : Fun K x qual st f fd) (S : FnScope N ps (defScope st)) (len : ∀ p vs H Q, sp p vs H Q → vs.length = ps.length)
    (hbody : ∀ (cdv : Value) (A : Around) (outer : List Env) (s : Shared) (H : Hp) (vs : List V) (Q : VK) (p : Addr × Obj), L2H.RoomH k (A.deeper (envOfC qual (defScope st) s.heap.objs.size f cdv)) → sp p vs H Q →
      ∃ t, PSs (L2H.cxH CX0 P w K mg base N qual (defScope st) f cdv A outer s H E0 p).nox (defBody st) t ∧ t { nx := fun _ H' => Q .non H', rt := Q } (L2.start N vs) H) : FnP0 P w K mg base (k + 1) f fd ps sp := by
  obtain ⟨oc, od, kV, doc, pm, an, cdv, ct, osl, rfl, lk, hcd⟩ := F.ex
  refine ⟨len, fun A outer s H args us vs Q p hr hpin e0 hb r hsp => ?_⟩
  have hl := len _ _ _ _ hsp
  have KX : K.In s.heap := e0.mod.kin.keeps fun b o e => (e0.bs b o e).1
  refine codeAny_call_function hr.depth (KX _ _ lk) rfl S.co S.gen rfl (PySem.W.codeRec_of KX hcd) (hb _ _ _ _ ?_)
  have hkind : ∀ y ∈ ps.zip us, (defScope st).names.lookup y.1 = some .local ∨ ((defScope st).names.lookup y.1 = some .cell ∧ ((cellsFrom (s.heap.objs.size + 1) (defScope st).names []).lookup y.1).isSome = true) := by
    intro y hy
    obtain ⟨n, v⟩ := y
    exact (S.par n (List.of_mem_zip hy).1).imp id fun q => ⟨q, PySem.W.cellsFrom_some _ _ _ (.inl q)⟩
  refine wpAny_newFunctionEnv_cells S.kind hkind fun env he s1 x => ?_
  subst he
  refine ⟨(e0.mod.nolimit.keeps fun b o e => (e0.bs b o e).1).keeps x.toInCall.keep, codeAny_func ?_⟩
  obtain ⟨t, ht, hq⟩ := hbody cdv A outer s H vs Q p (hr.deeper _) hsp
  refine wpAny_mono (ht.nox.run [] s1 (L2.start N vs) H _ (L2H.inv_startH S hpin e0 hl r x) hq) (fun fl s' hs => ?_) fun e s' hs => hs
  have fin : ∀ {σ' : L2.St} {H' : Hp} {v : V} {u : Value}, Inv (L2H.cxH CX0 P w K mg base N qual (defScope st) f cdv A outer s H E0 p) [] σ' H' s' → RelV v u → Q v H' → CE outer P w H s Q u s' :=
    fun {σ' H' v u} J rv q => ⟨v, H', J.os, J.bare, J.base, J.hok, rv, q⟩
  match fl, hs with
  | .ret u, ⟨v, σ', H', J, rv, q⟩ => exact fin J rv q
  | .next, ⟨σ', H', J, q⟩ => exact fin (v := V.non) (u := Value.none) J rfl q
  | .brk, ⟨_, _, _, q⟩ => exact q.elim
  | .cont, ⟨_, _, _, q⟩ => exact q.elim
structure FnP (P : Program) (w : World) (K : PySem.W.Frag) (mg : Str → Option Value) (base : Heap) (x : Str) (k : Nat) (ps : List Str) (sp : SpP) : Prop where
  ex : ∃ (f : Addr) (fd : FuncData), FnP0 P w K mg base k f fd ps sp ∧ mg x = some (.ref f) ∧ PySem.W.keepIn K (.ref f) = true ∧ Binds K fd ps []
def tCallP (sp : SpP) (a : Addr) (cls : Value) (d : Option Addr) (t : TA) : TE := fun σ H Q => t σ H fun vs H1 => ∀ oe : Obj, Zc cls d oe → (∃ vs, oe.data = .fields vs) → sp (a, oe) vs H1 Q
theorem pe_fp {X : Cx} {x : Str} {k : Nat} {ps : List Str} {sp : SpP} {e : Expr} {es : List Expr} {t : TA} {q pos : Pos} {a : Addr} {oe : Obj} {cls : Value} {d : Option Addr} (F : FnP X.prog X.w X.K X.mg X.base x k ps sp) (hp : (a, oe) ∈ X.pn) (hz : Zc cls d oe) (hf : ∃ vs, oe.data = .fields vs) (hr : L2H.RoomH k X.A) (hg : Gl X x) (ha : PA X (e :: es) t)
    (hdb : (x == ("__debug__" : Str)) = false := by decide) (he : starEach (e :: es) X.env = (false, eval e X.env) :: starEach es X.env := by rfl) (hpl : (backTo pos (starEach es X.env)).any (·.1) = false := by rfl) :
    PE X (.Call (.Name x q) (e :: es) [] pos) (tCallP sp a cls d t) := by
  obtain ⟨f, fd, G, hm, hk, hb⟩ := F.ex
  refine ⟨fun pins s σ H Q I h => ?_⟩
  refine wpAny_Call_Name_kw (ld_glob I hg hm ?_ hdb)
  refine PySem.W.callWith_K (h₀ := X.base) I.ok.mod.kin hk (thn (ha.run pos pins s σ H _ I h) fun us s1 ⟨vs, H1, I1, r, q⟩ => ⟨I1.kIn, ?_⟩) he hpl
  have q := q oe hz hf
  have hl : us.length = ps.length := by rw [← r.length]; exact G.len _ _ _ _ q
  have b := hb s1 us I1.kIn (by rw [List.append_nil]; exact hl)
  rw [List.append_nil] at b
  have P1 := I1.pin (a, oe) (List.mem_append_left _ hp)
  have hpin : L2H.PinOk X.stack H1 s1 (a, oe) := ⟨P1.1, P1.2.1, fun hm => (List.mem_cons.mp (I1.stkSub a hm)).elim P1.2.2.1 P1.2.2.2.1, P1.2.2.2.2⟩
  show wpAny _ _ (call (.ref f) us) _ _ _
  refine wpAny_call (codeAny_mono (G.run X.A X.stack s1 H1 ⟨us, []⟩ us vs Q (a, oe) hr hpin I1.env0 b r q) fun r s' hq => ?_)
  match r, hq with
  | .error e, hq => exact False.elim hq
  | .ok (.ret u), hq => exact I1.after hq
  | .ok .next, hq => exact False.elim hq
  | .ok .brk, hq => exact False.elim hq
  | .ok .cont, hq => exact False.elim hq
theorem roomH_mark {k : Nat} {A : Around} {v : Option Value} (r : L2.Room k A) : L2H.RoomH k (A.mark v) := ⟨r.dp, r.un⟩
end Bw

namespace Bw
open PySem PySem.Spec PyProof.Rows L2
/-! ### the classes of the errors; what is told of one -/
structure Zs where
  (Wrong NoWord NoText NoNumber NoSize NoLengths NoQuery NoCode NoRow NoEntries NoQueryText NoPages NoName NoQueries NoShelf NoDeed Taken NoPlace NoSlot : Addr)
def Zs.sixteen (Z : Zs) : List Addr := [Z.NoCode, Z.NoDeed, Z.NoEntries, Z.NoLengths, Z.NoName, Z.NoNumber, Z.NoPages, Z.NoQueries, Z.NoQuery, Z.NoQueryText, Z.NoRow, Z.NoShelf, Z.NoSize, Z.NoText, Z.NoWord, Z.Taken]
def kindNames : List Str := ["code", "deed", "entries", "lengths", "name", "number", "pages", "queries", "query", "text of query", "row", "shelf", "size", "text", "word", "taken"]
def Zs.five (Z : Zs) : List Value := [.ref Z.NoCode, .ref Z.NoEntries, .ref Z.NoPages, .ref Z.NoQueryText, .ref Z.NoRow]
def excB (K : PySem.W.Frag) (D : Addr) : Bool :=
  decide (PySem.W.findIn K (.ref D) "__getattribute__" = some (some (.builtin "BaseException.__getattribute__"))) && (decide (PySem.W.findIn K (.ref D) "__getattr__" = some none) && (decide (PySem.W.subIn K (.ref D) (.type "BaseException") = some true) && (PySem.W.hasDictIn K D && (
  decide (PySem.W.findIn K (.ref D) "__class__" = some (some (.builtin "object.__class__"))) && (decide (PySem.W.specialIn K (.builtin "object.__class__") "__get__" = some (some (.builtin "getset_descriptor.__get__"))) && (decide (PySem.W.takesIn K (.builtin "object.__class__") = some true) && decide (PySem.W.mroIn K D (.type "object") = some true)))))))
theorem excB_ok {K : PySem.W.Frag} {D : Addr} (h : excB K D = true) : ExcC K D := by
  unfold excB at h
  simp only [Bool.and_eq_true, decide_eq_true_eq] at h
  obtain ⟨h1, h2, h3, h4, h5, h6, h7, h8⟩ := h
  exact ⟨h1, h2, h3, h4, h5, h6, h7, h8⟩
/-- one of the sixteen, and which -/
def kindB (K : PySem.W.Frag) (Z : Zs) (D : Addr) (i : Nat) : Bool :=
  excB K D && ((Z.sixteen.zipIdx.all fun x => decide (PySem.W.kitOne K (.ref D) (.ref x.1) = some (decide (x.2 = i)))) && (decide (PySem.W.kitOne K (.ref D) (.type "ValueError") = some true) && decide (PySem.W.kitAny K (.ref D) [.ref Z.NoPlace, .ref Z.NoSlot] = some false)))
structure KindOk (K : PySem.W.Frag) (Z : Zs) (D : Addr) (i : Nat) : Prop where
  ex : ExcC K D
  is : ∀ (j : Nat) (C : Addr), Z.sixteen[j]? = some C → PySem.W.kitOne K (.ref D) (.ref C) = some (decide (j = i))
  ve : PySem.W.kitOne K (.ref D) (.type "ValueError") = some true
  ix : PySem.W.kitAny K (.ref D) [.ref Z.NoPlace, .ref Z.NoSlot] = some false
theorem kindB_ok {K : PySem.W.Frag} {Z : Zs} {D : Addr} {i : Nat} (h : kindB K Z D i = true) : KindOk K Z D i := by
  unfold kindB at h
  simp only [Bool.and_eq_true, decide_eq_true_eq, List.all_eq_true] at h
  obtain ⟨h1, h2, h3, h4⟩ := h
  refine ⟨excB_ok h1, fun j C e => ?_, h3, h4⟩
  exact h2 (C, j) (by
    rw [List.mem_iff_getElem?]
    exact ⟨j, by simp [List.getElem?_zipIdx, e]⟩)
/-- by the first clause: with its place -/
def howAtB (K : PySem.W.Frag) (Z : Zs) (D : Addr) (i : Nat) : Bool := kindB K Z D i && (decide (PySem.W.findIn K (.ref D) "at" = some none) && decide (PySem.W.exmAny K (.ref D) Z.five = some true))
structure HowAt (K : PySem.W.Frag) (Z : Zs) (D : Addr) (i : Nat) : Prop where
  k : KindOk K Z D i
  no : PySem.W.findIn K (.ref D) "at" = some none
  c1 : PySem.W.exmAny K (.ref D) Z.five = some true
theorem howAtB_ok {K : PySem.W.Frag} {Z : Zs} {D : Addr} {i : Nat} (h : howAtB K Z D i = true) : HowAt K Z D i := by
  unfold howAtB at h
  simp only [Bool.and_eq_true, decide_eq_true_eq] at h
  exact ⟨kindB_ok h.1, h.2.1, h.2.2⟩
/-- by the second clause -/
def howPlB (K : PySem.W.Frag) (Z : Zs) (D : Addr) (i : Nat) : Bool := kindB K Z D i && (decide (PySem.W.exmAny K (.ref D) Z.five = some false) && decide (PySem.W.exmAny K (.ref D) [.ref Z.Wrong] = some true))
structure HowPl (K : PySem.W.Frag) (Z : Zs) (D : Addr) (i : Nat) : Prop where
  k : KindOk K Z D i
  c1 : PySem.W.exmAny K (.ref D) Z.five = some false
  c2 : PySem.W.exmAny K (.ref D) [.ref Z.Wrong] = some true
theorem howPlB_ok {K : PySem.W.Frag} {Z : Zs} {D : Addr} {i : Nat} (h : howPlB K Z D i = true) : HowPl K Z D i := by
  unfold howPlB at h
  simp only [Bool.and_eq_true, decide_eq_true_eq] at h
  exact ⟨kindB_ok h.1, h.2.1, h.2.2⟩
/-- by the third clause: no place (b), no slot (not b) -/
def howIxB (K : PySem.W.Frag) (Z : Zs) (D : Addr) (b : Bool) : Bool := excB K D && (decide (PySem.W.exmAny K (.ref D) Z.five = some false) && (decide (PySem.W.exmAny K (.ref D) [.ref Z.Wrong] = some false) && (decide (PySem.W.exmAny K (.ref D) [.ref Z.NoPlace, .ref Z.NoSlot] = some true) &&
  (decide (PySem.W.kitOne K (.ref D) (.type "IndexError") = some true) && (decide (PySem.W.kitOne K (.ref D) (.ref Z.NoPlace) = some b) && decide (PySem.W.kitOne K (.ref D) (.ref Z.NoSlot) = some (!b)))))))
structure HowIx (K : PySem.W.Frag) (Z : Zs) (D : Addr) (b : Bool) : Prop where
  ex : ExcC K D
  c1 : PySem.W.exmAny K (.ref D) Z.five = some false
  c2 : PySem.W.exmAny K (.ref D) [.ref Z.Wrong] = some false
  c3 : PySem.W.exmAny K (.ref D) [.ref Z.NoPlace, .ref Z.NoSlot] = some true
  ie : PySem.W.kitOne K (.ref D) (.type "IndexError") = some true
  np : PySem.W.kitOne K (.ref D) (.ref Z.NoPlace) = some b
  ns : PySem.W.kitOne K (.ref D) (.ref Z.NoSlot) = some (!b)
theorem howIxB_ok {K : PySem.W.Frag} {Z : Zs} {D : Addr} {b : Bool} (h : howIxB K Z D b = true) : HowIx K Z D b := by
  unfold howIxB at h
  simp only [Bool.and_eq_true, decide_eq_true_eq] at h
  obtain ⟨h1, h2, h3, h4, h5, h6, h7⟩ := h
  exact ⟨excB_ok h1, h2, h3, h4, h5, h6, h7⟩
/-! ### what the teller of the kind promises -/
def spKind (K : PySem.W.Frag) (Z : Zs) : SpP := fun p vs H Q => ∃ (D : Addr) (d : Option Addr) (i : Nat) (nm : Str), vs = [.ref p.1] ∧ Zc (.ref D) d p.2 ∧ (∃ vs, p.2.data = .fields vs) ∧ KindOk K Z D i ∧ XdOk d H ∧ kindNames[i]? = some nm ∧ ∀ H', Same H H' → Q (.str nm) H'
/-- what the asker makes of a raised one -/
def howE (K : PySem.W.Frag) (Z : Zs) (Q : VK) : XK := fun cls d H => ∃ D : Addr, cls = .ref D ∧
  ((∃ (i : Nat) (nm : Str), HowPl K Z D i ∧ kindNames[i]? = some nm ∧ XdOk d H ∧ ∀ H', Same H H' → Q (.str nm) H') ∨
   (∃ (i : Nat) (nm : Str) (dd : Addr) (v : V) (tv : String), HowAt K Z D i ∧ kindNames[i]? = some nm ∧ d = some dd ∧ H dd = some (.xd [("at", v)]) ∧ TyX K H v (.type tv) ∧ kitB tv "bool" = some false ∧ ∀ p H', H p = none → Same H H' → H' p = some (.tup [.str nm, v]) → Q (.ref p) H') ∨
   (∃ b : Bool, HowIx K Z D b ∧ XdOk d H ∧ ∀ H', Same H H' → Q (.str (if b then "no place" else "no slot")) H'))
def TTHow (K : PySem.W.Frag) (Z : Zs) : (XK → Hp → VK → Prop) → Hp → VK → Prop := fun tl H Q => tl (howE K Z Q) H (fun _ H' => Q (.str "told") H')
theorem cnt16 {i : Nat} (h : i < 16) : ((([decide (0 = i), decide (1 = i), decide (2 = i), decide (3 = i), decide (4 = i), decide (5 = i), decide (6 = i), decide (7 = i), decide (8 = i), decide (9 = i), decide (10 = i), decide (11 = i), decide (12 = i), decide (13 = i), decide (14 = i), decide (15 = i)] : List Bool).count true : Nat) : Int) = 1 := by
  have : ∀ i, i < 16 → ((([decide (0 = i), decide (1 = i), decide (2 = i), decide (3 = i), decide (4 = i), decide (5 = i), decide (6 = i), decide (7 = i), decide (8 = i), decide (9 = i), decide (10 = i), decide (11 = i), decide (12 = i), decide (13 = i), decide (14 = i), decide (15 = i)] : List Bool).count true : Nat) : Int) = 1 := by decide
  exact this i h
theorem idx16 {i : Nat} (h : i < 16) : ([decide (0 = i), decide (1 = i), decide (2 = i), decide (3 = i), decide (4 = i), decide (5 = i), decide (6 = i), decide (7 = i), decide (8 = i), decide (9 = i), decide (10 = i), decide (11 = i), decide (12 = i), decide (13 = i), decide (14 = i), decide (15 = i)] : List Bool)[i]? = some true := by
  have : ∀ i, i < 16 → ([decide (0 = i), decide (1 = i), decide (2 = i), decide (3 = i), decide (4 = i), decide (5 = i), decide (6 = i), decide (7 = i), decide (8 = i), decide (9 = i), decide (10 = i), decide (11 = i), decide (12 = i), decide (13 = i), decide (14 = i), decide (15 = i)] : List Bool)[i]? = some true := by decide
  exact this i h
theorem bef16 {i : Nat} (h : i < 16) (m : Nat) (hm : m < i) : ([decide (0 = i), decide (1 = i), decide (2 = i), decide (3 = i), decide (4 = i), decide (5 = i), decide (6 = i), decide (7 = i), decide (8 = i), decide (9 = i), decide (10 = i), decide (11 = i), decide (12 = i), decide (13 = i), decide (14 = i), decide (15 = i)] : List Bool)[m]? ≠ some true := by
  have : ∀ i, i < 16 → ∀ m, m < i → ([decide (0 = i), decide (1 = i), decide (2 = i), decide (3 = i), decide (4 = i), decide (5 = i), decide (6 = i), decide (7 = i), decide (8 = i), decide (9 = i), decide (10 = i), decide (11 = i), decide (12 = i), decide (13 = i), decide (14 = i), decide (15 = i)] : List Bool)[m]? ≠ some true := by decide
  exact this i h m hm
theorem nam16 {i : Nat} {nm : Str} (h : kindNames[i]? = some nm) : atI (kindNames.map V.str) (i : Int) = some (.str nm) := atI_nat (by rw [List.getElem?_map, h]; rfl)
theorem takes_len {X : Cx} {W : WX} (tk : Takes X W) : Takes X (fun cls d σ H => σ.length = X.N.length → W cls d σ H) := fun u s' x => by
  obtain ⟨a, B, sI, pins, σ, H, cls, d, e, I, nb, up, sky, na, os, ag, w⟩ := x
  exact tk u s' ⟨a, B, sI, pins, σ, H, cls, d, e, I, nb, up, sky, na, os, ag, w I.len⟩
theorem two_of {σ : L2.St} (h : σ.length = 2) : ∃ x y, σ = [x, y] := by
  match σ, h with
  | [x, y], _ => exact ⟨x, y, rfl⟩
/-- a suite, by any reading of it -/
def tAny (X : Cx) (b : List Stmt) (a : Addr) (cls : Value) (d : Option Addr) : TS := fun D σ H => ∀ (oe : Obj) (pn : List (Addr × Obj)), Zc cls d oe → (∃ vs, oe.data = .fields vs) → ∃ t : TS, PSs (X.suite a ((a, oe) :: pn)) b t ∧ t D σ H
theorem pss_any {X : Cx} {b : List Stmt} (a : Addr) (oe : Obj) (cls : Value) (d : Option Addr) (pn : List (Addr × Obj)) (hz : Zc cls d oe) (hf : ∃ vs, oe.data = .fields vs) : PSs (X.suite a ((a, oe) :: pn)) b (tAny X b a cls d) :=
  ⟨fun pins s σ H D I h => by
    obtain ⟨t, ht, hq⟩ := h oe pn hz hf
    exact ht.run pins s σ H D I hq⟩
theorem same_free {H H' : Hp} {p : Addr} (e : Same H H') (n : H' p = none) : H p = none := by
  cases h : H p with
  | none => rfl
  | some o => rw [e p o h] at n; cases n
theorem iteT' {A B : Prop} {b : Bool} (hb : b = true) (h : A) : if b = true then A else B := by rw [if_pos hb]; exact h
theorem iteF' {A B : Prop} {b : Bool} (hb : b = false) (h : B) : if b = true then A else B := by rw [if_neg (by rw [hb]; exact Bool.false_ne_true)]; exact h
/-! ### steps -/
section
variable {K : PySem.W.Frag} {H H' : Hp} {Q : VK} {σ : L2.St} {a : Addr} {cls : Value} {d : Option Addr}
theorem XdOk.same (h : XdOk d H) (e : Same H H') : XdOk d H' := fun dd q => by
  obtain ⟨fs, w⟩ := h dd q
  exact ⟨fs, e dd _ w⟩
theorem xdOk_at {dd : Addr} {fs : List (Str × V)} (h : H dd = some (.xd fs)) : XdOk (some dd) H := fun d' q => by
  cases q
  exact ⟨fs, h⟩
theorem xdOk_none : XdOk none H := fun d' q => by cases q
theorem w_isP {D C : Addr} {b : Bool} (hE : ExcC K D) (hk : PySem.W.kitOne K (.ref D) (.ref C) = some b) (hx : XdOk d H) (q : Q (.bl b) H) : rIsP K a (.ref D) d [.ref a, .ref C] H Q := ⟨D, .ref C, .ref C, b, rfl, hE, rfl, .own C, hk, hx, q⟩
theorem w_isPt {D : Addr} {n : String} {b : Bool} (hE : ExcC K D) (hk : PySem.W.kitOne K (.ref D) (.type n) = some b) (hx : XdOk d H) (q : Q (.bl b) H) : rIsP K a (.ref D) d [.ref a, .ty n] H Q := ⟨D, .ty n, .type n, b, rfl, hE, rfl, .ty n, hk, hx, q⟩
theorem w_isPT {D tp C1 C2 : Addr} {b : Bool} (hE : ExcC K D) (hT : H tp = some (.tup [.ref C1, .ref C2])) (hk : PySem.W.kitAny K (.ref D) [.ref C1, .ref C2] = some b) (hx : XdOk d H) (q : Q (.bl b) H) : rIsPT K a (.ref D) d [.ref a, .ref tp] H Q :=
  ⟨D, tp, _, _, b, rfl, hE, rfl, hT, .cons (.own C1) (.cons (.own C2) .nil), hk, hx, q⟩
theorem w_bmL {T : String} {r : V → List V → Hp → VK → Prop} {to : TE} {t : TA} (h : to σ H fun x H1 => tyV K T x H1 ∧ t σ H1 fun xs H2 => r x xs H2 Q) : tBM K T r to t σ H Q := h
theorem w_bm0 {T : String} {r : V → List V → Hp → VK → Prop} {to : TE} (h : to σ H fun x H1 => tyV K T x H1 ∧ r x [] H1 Q) : tBM0 K T r to σ H Q := h
theorem w_tyL {R : Prop} {xs : List V} (h : SqL K H a xs) (q : R) : tyV K "list" (.ref a) H ∧ R := ⟨.inl ⟨rfl, xs, h⟩, q⟩
theorem dpAll_bl : ∀ bs : List Bool, DpAll K H (bs.map V.bl) (bs.map PyData.bool)
  | [] => .nil
  | b :: r => .cons (.bl b) (dpAll_bl r)
theorem depth_bl : ∀ bs : List Bool, PyData.depthAll (bs.map PyData.bool) = 0
  | [] => rfl
  | b :: r => by simp [PyData.depthAll, PyData.depth, depth_bl r]
theorem lay_bl : ∀ bs : List Bool, PyData.canLayAll0 (bs.map PyData.bool) = true
  | [] => by simp [PyData.canLayAll0]
  | b :: r => by simp [PyData.canLayAll0, PyData.canLay0, lay_bl r]
theorem shaped_bl (bs : List Bool) : SeqAt.shaped (.list (bs.map PyData.bool)) = true := by
  simp [SeqAt.shaped, PyData.canLay0, lay_bl, PyData.depth, depth_bl]
theorem count_bl : ∀ bs : List Bool, (bs.map PyData.bool).countP (fun z => PyData.eqv z (.bool true)) = bs.count true
  | [] => rfl
  | b :: r => by
    rw [List.map_cons, List.countP_cons, List.count_cons, count_bl r]
    cases b <;> simp [PyData.eqv]
theorem w_countT {xs : List V} {n : Int} (bs : List Bool) (e : xs = bs.map V.bl) (h : SqL K H a xs) (hn : ((bs.count true : Nat) : Int) = n) (q : Q (.int n) H) : rCountD K (.ref a) [.bl true] H Q := by
  subst e
  refine ⟨a, .bl true, .bool true, bs.map PyData.bool, rfl, rfl, .lst h (dpAll_bl bs), .bl true, shaped_bl bs, by simp [SeqAt.shaped, PyData.canLay0, PyData.depth], ?_⟩
  rw [count_bl, hn]
  exact q
theorem w_indexT {xs : List V} {j : Nat} (bs : List Bool) (e : xs = bs.map V.bl) (h : SqL K H a xs) (hj : bs[j]? = some true) (hm : ∀ m, m < j → bs[m]? ≠ some true) (q : Q (.int j) H) : rIndexD K (.ref a) [.bl true] H Q := by
  subst e
  refine ⟨a, .bl true, .bool true, bs.map PyData.bool, j, .bool true, rfl, rfl, .lst h (dpAll_bl bs), .bl true, shaped_bl bs, by simp [SeqAt.shaped, PyData.canLay0, PyData.depth], by simp [hj], by simp [PyData.eqv], fun m z hlt hz => ?_, q⟩
  rw [List.getElem?_map] at hz
  cases eb : bs[m]? with
  | none => rw [eb] at hz; cases hz
  | some b =>
    rw [eb] at hz
    cases hz
    have := hm m hlt
    rw [eb] at this
    cases b <;> simp_all [PyData.eqv]
theorem w_cat {p1 p2 : Addr} {xs zs : List V} (h1 : H p1 = some (.lst xs)) (h2 : H p2 = some (.lst zs)) (hl : xs.length + zs.length ≤ sizeLine) (k : ∀ p H2, H p = none → Same H H2 → H2 p = some (.lst (xs ++ zs)) → Q (.ref p) H2) : rCat (.ref p1) (.ref p2) H Q :=
  ⟨p1, p2, xs, zs, rfl, rfl, h1, h2, hl, fun p n => k p _ n (same_new n) upd_same⟩
theorem w_callP {sp : SpP} {t : TA} (h : t σ H fun vs H1 => ∀ oe : Obj, Zc cls d oe → (∃ vs, oe.data = .fields vs) → sp (a, oe) vs H1 Q) : tCallP sp a cls d t σ H Q := h
theorem w_xfE {f : Str} {te : TE} (h : te σ H fun x H1 => ∃ (D dd : Addr) (fs : List (Str × V)) (v : V), x = .ref a ∧ cls = .ref D ∧ ExcC K D ∧ PySem.W.findIn K (.ref D) f = some none ∧ d = some dd ∧ H1 dd = some (.xd fs) ∧ fs.lookup f = some v ∧ Q v H1) : tXfc K a cls d f te σ H Q := h
theorem w_xf {D dd : Addr} {f : Str} {fs : List (Str × V)} {v : V} {R : V → Prop} (hE : ExcC K D) (no : PySem.W.findIn K (.ref D) f = some none) (hd : H dd = some (.xd fs)) (hl : fs.lookup f = some v) (q : R v) :
    ∃ (D' dd' : Addr) (fs : List (Str × V)) (v : V), V.ref a = .ref a ∧ Value.ref D = .ref D' ∧ ExcC K D' ∧ PySem.W.findIn K (.ref D') f = some none ∧ some dd = some dd' ∧ H dd' = some (.xd fs) ∧ fs.lookup f = some v ∧ R v := ⟨D, dd, fs, v, rfl, rfl, hE, no, rfl, hd, hl, q⟩
end
end Bw

namespace Bw
open PySem PySem.Spec PyProof.Rows L2
/-! ### loops and comprehensions over a known number of things -/
structure Fini (J : It) (n : Nat) (ok : Hp → Prop) (it : Nat → V → Hp → Hp → Prop) : Prop where
  go : ∀ i H, i < n → ok H → J.go i H
  yl : ∀ i H x H', i < n → ok H → J.yld i H x H' → it i x H H'
  st : ∀ H, ok H → J.stop n H
section
variable {K : PySem.W.Frag}
theorem fin_rng {lo : Int} {n : Nat} : Fini (Itr lo n) n (fun _ => True) (fun i x H H' => H' = H ∧ x = .int (lo + i)) := ⟨fun _ _ h _ => h, fun _ _ _ _ _ _ h => h, fun _ _ => Nat.le_refl _⟩
theorem fin_list {a : Addr} {xs : List V} : Fini (Itl K a) xs.length (fun H => SqL K H a xs) (fun i x H H' => H' = H ∧ xs[i]? = some x) :=
  ⟨fun i H h o => ⟨xs, xs[i], o, by simp [h]⟩, fun i H x H' h o y => ⟨y.1, y.2 xs o⟩, fun H o => ⟨xs, o, Nat.le_refl _⟩⟩
theorem fin_tup {a : Addr} {xs : List V} : Fini (Itt K a) xs.length (fun H => SqT K H a xs) (fun i x H H' => H' = H ∧ xs[i]? = some x) :=
  ⟨fun i H h o => ⟨xs, xs[i], o, by simp [h]⟩, fun i H x H' h o y => ⟨y.1, y.2 xs o⟩, fun H o => ⟨xs, o, Nat.le_refl _⟩⟩
theorem fin_str {x : Str} : Fini (Its x) x.cps.size (fun _ => True) (fun i v H H' => H' = H ∧ ∃ c, x.cps[i]? = some c ∧ v = .str ⟨#[c]⟩) := ⟨fun _ _ h _ => h, fun _ _ _ _ _ _ h => h, fun _ _ => Nat.le_refl _⟩
theorem fin_enum {a : Addr} {xs : List V} : Fini (Ite K a) xs.length (fun H => SqL K H a xs) (fun i v H H' => ∃ T x, v = .ref T ∧ H T = none ∧ Same H H' ∧ H' T = some (.tup [.int (i : Nat), x]) ∧ xs[i]? = some x) :=
  ⟨fun i H h o => ⟨xs, xs[i], o, by simp [h]⟩, fun i H v H' h o y => by
    obtain ⟨T, x, e, n, e', q⟩ := y
    subst e'
    exact ⟨T, x, e, n, same_new n, upd_same, q xs o⟩, fun H o => ⟨xs, o, Nat.le_refl _⟩⟩
/-- a for loop -/
theorem for_fin {J : It} {n : Nat} {ok : Hp → Prop} {it : Nat → V → Hp → Hp → Prop} {g : TG} {tb : TS} {D : Ends} {σ : L2.St} {H : Hp} (F : Fini J n ok it) (Pv : Nat → L2.St → Hp → Prop) (h0 : Pv 0 σ H) (hl : ∀ i σ H, i ≤ n → Pv i σ H → ok H)
    (hs : ∀ i x σ H H1, i < n → Pv i σ H → it i x H H1 → g x σ H1 fun σ2 H2 => tb { D with nx := Pv (i + 1), ct := Pv (i + 1), bk := D.nx } σ2 H2) (hd : ∀ σ H, Pv n σ H → D.nx σ H) :
    ∃ W : Nat → Nat → L2.St → Hp → Prop, (∃ m, W 0 m σ H) ∧ ∀ i m σ H, W i m σ H →
      (J.stop i H ∧ D.nx σ H) ∨ (J.go i H ∧ ∃ N : L2.St → Hp → Prop, (∀ σ' H', N σ' H' → ∃ m', m' < m ∧ W (i + 1) m' σ' H') ∧ ∀ x H', J.yld i H x H' → g x σ H' fun σ2 H2 => tb { D with nx := N, ct := N, bk := D.nx } σ2 H2) := by
  refine ⟨fun i m σ H => m = n - i ∧ i ≤ n ∧ Pv i σ H, ⟨n, by simp, Nat.zero_le _, h0⟩, ?_⟩
  rintro i m σ H ⟨rfl, hi, p⟩
  have o := hl i σ H hi p
  rcases Nat.lt_or_ge i n with hlt | hge
  · exact .inr ⟨F.go i H hlt o, Pv (i + 1), fun σ' H' p' => ⟨n - (i + 1), by omega, rfl, hlt, p'⟩, fun x H' y => hs i x σ H H' hlt p (F.yl i H x H' hlt o y)⟩
  · obtain rfl : i = n := Nat.le_antisymm hi hge
    exact .inl ⟨F.st H o, hd σ H p⟩
/-- the next turn of a comprehension -/
def NxI (D : Addr) (i : Nat) (Iv : Nat → List V → Hp → Prop) : Hp → Prop := fun H' => ∃ acc', acc'.length ≤ i + 1 ∧ H' D = some (.lst acc') ∧ Iv (i + 1) acc' H'
theorem take_succ {α : Type} {xs : Array α} {i : Nat} {c : α} (h : xs[i]? = some c) : xs.toList.take (i + 1) = xs.toList.take i ++ [c] := by
  rw [List.take_add_one]
  congr 1
  rw [Array.getElem?_toList, h]
  rfl
theorem take_succL {α : Type} {xs : List α} {i : Nat} {c : α} (h : xs[i]? = some c) : xs.take (i + 1) = xs.take i ++ [c] := by
  rw [List.take_add_one, h]
  rfl
theorem take_size {α : Type} {xs : Array α} : xs.toList.take xs.size = xs.toList := by
  rw [← Array.length_toList, List.take_length]
theorem w_acc {D : Addr} {i n : Nat} {Iv : Nat → List V → Hp → Prop} {acc : List V} {y : V} {H4 : Hp} (hD : H4 D = some (.lst acc)) (ha : acc.length ≤ i) (hi : i < n) (hn : n ≤ sizeLine) (k : ∀ H5, KB D H4 H5 → H5 D = some (.lst (acc ++ [y])) → Iv (i + 1) (acc ++ [y]) H5) :
    ∃ acc, H4 D = some (.lst acc) ∧ acc.length < sizeLine ∧ NxI D i Iv (upd H4 D (.lst (acc ++ [y]))) :=
  ⟨acc, hD, by omega, acc ++ [y], by rw [List.length_append]; simp; omega, upd_same, k _ kb_upd upd_same⟩
theorem w_skip {D : Addr} {i : Nat} {Iv : Nat → List V → Hp → Prop} {acc : List V} {H3 : Hp} (hD : H3 D = some (.lst acc)) (ha : acc.length ≤ i) (k : Iv (i + 1) acc H3) : NxI D i Iv H3 := ⟨acc, by omega, hD, k⟩
/-- a comprehension: Iv by the turn, what is gathered and the heap -/
theorem lc_fin {J : It} {n : Nat} {ok : Hp → Prop} {it : Nat → V → Hp → Hp → Prop} {g : TG} {tt : TT} {te : TE} {vs : List Nat} {σ : L2.St} {H1 : Hp} {Qd : Addr → Hp → Prop} (F : Fini J n ok it) (Iv : Nat → List V → Hp → Prop)
    (h0 : ∀ D H2, H1 D = none → Same H1 H2 → H2 D = some (.lst []) → Iv 0 [] H2) (hl : ∀ i acc H, i ≤ n → Iv i acc H → ok H)
    (hs : ∀ D i x acc H H', H1 D = none → i < n → acc.length ≤ i → Iv i acc H → H D = some (.lst acc) → it i x H H' → g x (wipe σ vs) H' fun σ2 H2 => wipe σ2 vs = wipe σ vs ∧ tt σ2 H2 fun b H3 =>
      if b = true then te σ2 H3 fun y H4 => ∃ acc, H4 D = some (.lst acc) ∧ acc.length < sizeLine ∧ NxI D i Iv (upd H4 D (.lst (acc ++ [y]))) else NxI D i Iv H3)
    (hd : ∀ D acc H, H1 D = none → Iv n acc H → acc.length ≤ n → H D = some (.lst acc) → Qd D H) :
    ∀ D, H1 D = none → ∃ W : Nat → Nat → Hp → Prop, (∃ m, W 0 m (upd H1 D (.lst []))) ∧ ∀ i m H, W i m H →
      (J.stop i H ∧ Qd D H) ∨ (J.go i H ∧ ∃ Nx : Hp → Prop, (∀ H', Nx H' → ∃ m', m' < m ∧ W (i + 1) m' H') ∧ ∀ x H', J.yld i H x H' → g x (wipe σ vs) H' fun σ2 H2 => wipe σ2 vs = wipe σ vs ∧ tt σ2 H2 fun b H3 =>
        if b = true then te σ2 H3 fun y H4 => ∃ acc, H4 D = some (.lst acc) ∧ acc.length < sizeLine ∧ Nx (upd H4 D (.lst (acc ++ [y]))) else Nx H3) := by
  intro D nD
  refine ⟨fun i m H => m = n - i ∧ i ≤ n ∧ ∃ acc, acc.length ≤ i ∧ H D = some (.lst acc) ∧ Iv i acc H, ⟨n, by simp, Nat.zero_le _, [], Nat.le_refl _, upd_same, h0 D _ nD (same_new nD) upd_same⟩, ?_⟩
  rintro i m H ⟨rfl, hi, acc, hacc, hD, p⟩
  have o := hl i acc H hi p
  rcases Nat.lt_or_ge i n with hlt | hge
  · exact .inr ⟨F.go i H hlt o, NxI D i Iv, fun H' p' => ⟨n - (i + 1), by omega, rfl, hlt, p'⟩, fun x H' y => hs D i x acc H H' nD hlt hacc p hD (F.yl i H x H' hlt o y)⟩
  · obtain rfl : i = n := Nat.le_antisymm hi hge
    exact .inl ⟨F.st H o, hd D acc H nD p hacc hD⟩
theorem w_lcE {wi : TI} {g : TG} {tt : TT} {te : TE} {vs : List Nat} {σ : L2.St} {H : Hp} {Q : VK} (h : wi σ H fun J H1 => ∀ D, H1 D = none → ∃ W : Nat → Nat → Hp → Prop, (∃ m, W 0 m (upd H1 D (.lst []))) ∧ ∀ i m H, W i m H →
  (J.stop i H ∧ Q (.ref D) H) ∨ (J.go i H ∧ ∃ Nx : Hp → Prop, (∀ H', Nx H' → ∃ m', m' < m ∧ W (i + 1) m' H') ∧ ∀ x H', J.yld i H x H' → g x (wipe σ vs) H' fun σ2 H2 => wipe σ2 vs = wipe σ vs ∧ tt σ2 H2 fun b H3 =>
    if b = true then te σ2 H3 fun y H4 => ∃ acc, H4 D = some (.lst acc) ∧ acc.length < sizeLine ∧ Nx (upd H4 D (.lst (acc ++ [y]))) else Nx H3)) : tLc wi g tt te vs σ H Q := h
theorem w_iStr {te : TE} {σ : L2.St} {H : Hp} {R : It → Hp → Prop} (h : te σ H fun v H1 => ∃ x, v = .str x ∧ R (Its x) H1) : iStr te σ H R := h
theorem w_strE {x : Str} {R : Str → Prop} (q : R x) : ∃ y, V.str x = .str y ∧ R y := ⟨x, rfl, q⟩
theorem w_iEnum {ta : TA} {σ : L2.St} {H : Hp} {R : It → Hp → Prop} (h : ta σ H fun vs H1 => ∃ a xs, vs = [.ref a] ∧ SqL K H1 a xs ∧ R (Ite K a) H1) : iEnum K ta σ H R := h
theorem w_enum {a : Addr} {xs : List V} {H : Hp} {R : Addr → Prop} (h : SqL K H a xs) (q : R a) : ∃ (a' : Addr) (xs : List V), [V.ref a] = [.ref a'] ∧ SqL K H a' xs ∧ R a' := ⟨a, xs, rfl, h, q⟩
theorem w_yes {σ : L2.St} {H : Hp} {QB : Bool → Hp → Prop} (q : QB true H) : tYes σ H QB := q
theorem w_inS {c : Nat} {z : Str} {H : Hp} {Q : VK} (q : Q (.bl (decide (c ∈ z.cps.toList))) H) : rInS (.str ⟨#[c]⟩) (.str z) H Q := ⟨c, z, rfl, rfl, q⟩
theorem w_all {bs : List Bool} {a : Addr} {xs : List V} {H : Hp} {Q : VK} (e : xs = bs.map V.bl) (h : SqL K H a xs) (q : Q (.bl (bs.all id)) H) : rAll K [.ref a] H Q := ⟨a, bs, rfl, e ▸ h, q⟩
theorem w_m1 {r : V → List V → Hp → VK → Prop} {to te : TE} {σ : L2.St} {H : Hp} {Q : VK} (h : to σ H fun x H1 => (∃ a, x = .str a) ∧ te σ H1 fun y H2 => r x [y] H2 Q) : tM1 r to te σ H Q := h
theorem w_m0 {r : V → List V → Hp → VK → Prop} {to : TE} {σ : L2.St} {H : Hp} {Q : VK} (h : to σ H fun x H1 => (∃ a, x = .str a) ∧ r x [] H1 Q) : tM0 r to σ H Q := h
theorem w_append {l : Addr} {xs : List V} {y : V} {H : Hp} {Q : VK} (h : H l = some (.lst xs)) (hl : xs.length < sizeLine) (k : ∀ H2, KB l H H2 → H2 l = some (.lst (xs ++ [y])) → Q .non H2) : rAppend (.ref l) [y] H Q := ⟨l, xs, y, rfl, rfl, h, hl, k _ kb_upd upd_same⟩
theorem txt_join (y : Str) (ps : List Str) : Txt.join y ps = Str.join y ps := beq_iff_eq.mp (PyProof.Rows.join_plain_closes y ps)
theorem w_sl {r : V → Option Int → Option Int → Hp → VK → Prop} {te : TE} {tl th : TO} {σ : L2.St} {H : Hp} {Q : VK} (h : te σ H fun x H1 => tl σ H1 fun l H2 => th σ H2 fun u H3 => r x l u H3 Q) : L2.tSl r te tl th σ H Q := h
theorem w_noPart {σ : L2.St} {H : Hp} {Q : Option Int → Hp → Prop} (q : Q none H) : tNoPart σ H Q := q
theorem w_part {te : TE} {σ : L2.St} {H : Hp} {Q : Option Int → Hp → Prop} (h : te σ H fun v H1 => ∃ i, v = .int i ∧ Q (some i) H1) : tPart te σ H Q := h
theorem w_intE {i : Int} {R : Int → Prop} (q : R i) : ∃ j, V.int i = .int j ∧ R j := ⟨i, rfl, q⟩
theorem w_slS {z : Str} {lo hi : Option Int} {H : Hp} {Q : VK} (hl : z.length ≤ sizeLine) (q : Q (.str (cutS z lo hi)) H) : rSlS (.str z) lo hi H Q := ⟨z, rfl, hl, q⟩
theorem w_slL {a : Addr} {xs : List V} {lo hi : Option Int} {H : Hp} {Q : VK} (h : SqL K H a xs) (k : ∀ p H2, H p = none → Same H H2 → H2 p = some (.lst (cutV xs lo hi)) → Q (.ref p) H2) : rSlL K (.ref a) lo hi H Q := ⟨a, xs, rfl, h, fun p n => k p _ n (same_new n) upd_same⟩
theorem w_addS {x y : Str} {H : Hp} {Q : VK} (hl : x.length + y.length ≤ sizeLine) (q : Q (.str (x ++ y)) H) : rAddS (.str x) (.str y) H Q := ⟨x, y, rfl, rfl, hl, q⟩
theorem w_isS {x : Str} {R : Prop} (q : R) : (∃ a, V.str x = .str a) ∧ R := ⟨⟨x, rfl⟩, q⟩
theorem w_split {x y : Str} {H : Hp} {Q : VK} (hy : (y.length == 0) = false) (hl : x.length + 2 ≤ sizeLine) (k : ∀ p H2, H p = none → Same H H2 → H2 p = some (.lst ((Txt.split x y).map V.str)) → Q (.ref p) H2) :
    ∃ a b, V.str x = .str a ∧ [V.str y] = [.str b] ∧ (b.length == 0) = false ∧ a.length + 2 ≤ sizeLine ∧ rNewStrs (Txt.split a b) H Q := ⟨x, y, rfl, rfl, hy, hl, fun p n => k p _ n (same_new n) upd_same⟩
theorem w_join {x : Str} {p : Addr} {ys : List Str} {zs : List V} {H : Hp} {Q : VK} (e : zs = ys.map V.str) (h : SqL K H p zs) (hl : (ys.map (·.length)).sum + ys.length * x.length ≤ 16777216) (q : Q (.str (Txt.join x ys)) H) :
    ∃ a p', ∃ ys : List Str, V.str x = .str a ∧ [V.ref p] = [.ref p'] ∧ (SqL K H p' (ys.map V.str) ∨ SqT K H p' (ys.map V.str)) ∧ (ys.map (·.length)).sum + ys.length * a.length ≤ 16777216 ∧ Q (.str (Txt.join a ys)) H := ⟨x, p, ys, rfl, rfl, .inl (e ▸ h), hl, q⟩
/-! ### pieces of a text -/
theorem le_sum {x : Nat} : ∀ {l : List Nat}, x ∈ l → x ≤ l.sum
  | y :: r, h => by
    rcases List.mem_cons.mp h with rfl | h
    · simp
    · have := le_sum h
      simp
      omega
end
end Bw

namespace Bw
open PySem PySem.Spec PyProof.Rows L2 LamX
/-- a def whose code object is known -/
structure FunC (K : PySem.W.Frag) (x qual : Str) (st : Stmt) (f : Addr) (fd : FuncData) (c : Addr) : Prop where
  ex : ∃ (oc : Value) (od : Option Addr) (kV doc pm : Value) (an : Option Addr) (ct : Value) (osl : Array (Option Value)),
    fd = PySem.W.fnOf x qual (defArgs st) (defBody st) (defScope st) .none kV doc pm an (.ref c) ct ∧ K.lookup f = some ⟨oc, od, .func fd, osl⟩ ∧ PySem.W.codeIn K (.ref c) qual = true
  kp : PySem.W.keepIn K (.ref f) = true
section
variable {P : Program} {w : World} {K : PySem.W.Frag} {mg : Str → Option Value} {base : Heap}
theorem FunC.ok {x qual : Str} {st : Stmt} {f c : Addr} {fd : FuncData} {N ps : List Str} {k : Nat} {sp : Sp} (F : FunC K x qual st f fd c) (S : FnScope N ps (defScope st)) (len : ∀ vs H Q E, sp vs H Q E → vs.length = ps.length)
    (hbody : ∀ (A : Around) (outer : List Env) (s : Shared) (H : Hp) (vs : List V) (Q : VK) (E : XK), Room k (A.deeper (envOfC qual (defScope st) s.heap.objs.size f (.ref c))) → sp vs H Q E →
      ∃ t, PSs (cxOf CX0 P w K mg base N qual (defScope st) f (.ref c) A outer s H E).nox (defBody st) t ∧ t { nx := fun _ H' => Q .non H', rt := Q } (L2.start N vs) H) : FnOk P w K mg base CX0 (k + 1) f fd ps sp := by
  obtain ⟨oc, od, kV, doc, pm, an, ct, osl, rfl, lk, hcd⟩ := F.ex
  refine fn_of lk hcd S len fun A outer s H vs Q E hr hsp => ?_
  obtain ⟨t, h, q⟩ := hbody A outer s H vs Q E hr hsp
  exact ⟨t, h.nox, q⟩
theorem FunC.fun_ {x qual : Str} {st : Stmt} {f c : Addr} {fd : FuncData} (F : FunC K x qual st f fd c) : Fun K x qual st f fd := by
  obtain ⟨oc, od, kV, doc, pm, an, ct, osl, e, lk, hcd⟩ := F.ex
  exact ⟨⟨oc, od, kV, doc, pm, an, .ref c, ct, osl, e, lk, hcd⟩, F.kp⟩
theorem funC_mk {x qual : Str} {st : Stmt} {f c : Addr} {oc : Value} {od an : Option Addr} {osl : Array (Option Value)} {kV doc pm ct : Value} (l : K.lookup f = some ⟨oc, od, .func (PySem.W.fnOf x qual (defArgs st) (defBody st) (defScope st) .none kV doc pm an (.ref c) ct), osl⟩)
    (hc : PySem.W.codeIn K (.ref c) qual = true) (k : PySem.W.keepIn K (.ref f) = true) : FunC K x qual st f (PySem.W.fnOf x qual (defArgs st) (defBody st) (defScope st) .none kV doc pm an (.ref c) ct) c := ⟨⟨oc, od, kV, doc, pm, an, ct, osl, rfl, l, hc⟩, k⟩
/-- the def x is handed a lambda without parameters, and calls it -/
structure Asks (P : Program) (w : World) (K : PySem.W.Frag) (mg : Str → Option Value) (base : Heap) (x a : Str) (N : List Str) (st : Stmt) (k : Nat) (TT : (XK → Hp → VK → Prop) → Hp → VK → Prop) : Prop where
  ex : ∃ (g : Addr) (fd : FuncData), Fun K x x st g fd ∧ mg x = some (.ref g) ∧ Binds K fd [a] []
  sc : FnScope N [a] (defScope st)
  n0 : N[0]? = some a
  va : Vis (defScope st) a
  gives : ∀ X : Cx, X.prog = P → X.w = w → X.K = K → X.mg = mg → X.base = base → Room k X.A → ∀ (g : Addr) (cdg : Value) (q : Str), GivesTo X N x (defScope st) g cdg (defBody st) a q TT
end
abbrev lamN (x : Str) : Str := (x ++ ".<locals>.") ++ "<lambda>"
theorem pe_asks {X : Cx} {x a : Str} {N : List Str} {st : Stmt} {k j : Nat} {TT : (XK → Hp → VK → Prop) → Hp → VK → Prop} {T : List (Addr × Str)} {c P : Addr} {params : Arguments} {body : Expr} {scope : Scope} {t : XK → TE} {p lpos pos : Pos}
    (A : Asks X.prog X.w X.K X.mg X.base x a N st k TT) (hg : Gl X x) (TB : TabB X.base X.mg c P) (hcode : X.env.code = .ref c) {ql : Str} (hql : X.env.qual = ql) (hmT : (P, ql ++ "<lambda>") ∈ T) (hu : ∀ p ∈ T, p.1 = P → p.2 = ql ++ "<lambda>") (hr1 : Room k X.A) (hr : Room (j + 2) X.A) (L : lamSB X.env.scope scope = true) (hdef : defaultsOf params X.env = ([], []))
    (hbind : ∀ (q : Str) (cl : List (Str × Addr)) (pm cv ctv : Value), bindArgs (PySem.W.kla_fn "<lambda>" q params body scope cl pm cv ctv) ⟨[], []⟩ = pure [])
    (hbody : ∀ (A : Around) (outer : List Env) (s : Shared) (H : Hp) (E : XK) (f c' : Addr), Room j (A.deeper (lamEnv X scope s.heap.objs.size f c')) → PE (lamCx X A outer s H E scope f c') body (t E))
    (hdb : (x == ("__debug__" : Str)) = false := by decide) (hd : (a == ("__debug__" : Str)) = false := by decide) (hcd : (a == ("__classdict__" : Str)) = false := by decide) :
    PE X (.Call (.Name x p) [.Lambda params body scope lpos] [] pos) (tLam T TT t) := by
  subst hql
  obtain ⟨g, fd, F, hm, hb⟩ := A.ex
  have kp := F.kp
  obtain ⟨oc, od, kV, doc, pm, an, cdv, ct, osl, rfl, lk, hcd'⟩ := F.ex
  exact pe_lamcall hg hm kp lk hcd' hb A.sc A.n0 A.va (A.gives X rfl rfl rfl rfl rfl hr1 g cdv _) TB hcode hmT hu hr (lamS_by L) hdef hbind hbody hdb hd hcd
/-! ### steps -/
section
variable {H H' H1 : Hp} {σ : L2.St} {Q : VK} {K : PySem.W.Frag}
theorem w_lam {T : List (Addr × Str)} {TT : (XK → Hp → VK → Prop) → Hp → VK → Prop} {t : XK → TE} (hT : Tabs T H) (h : ∀ H1, ExtN H H1 → Tabs T H1 → TT (fun E H' Q' => t E σ H' Q') H1 Q) : tLam T TT t σ H Q := ⟨hT, h⟩
theorem w_how {Z : Zs} {tl : XK → Hp → VK → Prop} (h : tl (howE K Z Q) H (fun _ H' => Q (.str "told") H')) : TTHow K Z tl H Q := h
theorem extn_at {a : Addr} {o : HO} (e : ExtN H H') (h : H a = some o) (n : ∀ ps, o ≠ .tbl ps) : H' a = some o := e a o h n
theorem extn_same (e : Same H H') : ExtN H H' := fun b o h _ => e b o h
theorem extn_seq {a : Addr} {xs : List V} (e : ExtN H H') (h : SqL K H a xs) : SqL K H' a xs := by
  rcases h with (h | ⟨o, h⟩) | h
  · exact .inl (.inl (e _ _ h (fun _ z => by cases z)))
  · exact .inl (.inr ⟨o, e _ _ h (fun _ z => by cases z)⟩)
  · exact .inr h
theorem extn_tup {a : Addr} {xs : List V} (e : ExtN H H') (h : SqT K H a xs) : SqT K H' a xs := by
  rcases h with (h | ⟨o, h⟩) | h
  · exact .inl (.inl (e _ _ h (fun _ z => by cases z)))
  · exact .inl (.inr ⟨o, e _ _ h (fun _ z => by cases z)⟩)
  · exact .inr h
mutual
theorem Dp.extn (e : ExtN H H') : ∀ {v : V} {d : PyData}, Dp K H v d → Dp K H' v d
  | _, _, .non => .non
  | _, _, .bl b => .bl b
  | _, _, .int i => .int i
  | _, _, .str x => .str x
  | _, _, .lst h r => .lst (extn_seq e h) (DpAll.extn e r)
  | _, _, .tup h r => .tup (extn_tup e h) (DpAll.extn e r)
theorem DpAll.extn (e : ExtN H H') : ∀ {vs : List V} {ds : List PyData}, DpAll K H vs ds → DpAll K H' vs ds
  | _, _, .nil => .nil
  | _, _, .cons h r => .cons (Dp.extn e h) (DpAll.extn e r)
end
/-- two heaps, the tables may have grown -/
structure Grown (T : List (Addr × Str)) (H H' : Hp) : Prop where
  e : ExtN H H'
  t : Tabs T H'
theorem Grown.trans {T : List (Addr × Str)} (a : Grown T H H1) (b : Grown T H1 H') : Grown T H H' := ⟨a.e.trans b.e, b.t⟩
theorem Grown.same {T : List (Addr × Str)} (a : Grown T H H1) (b : Same H1 H') : Grown T H H' := ⟨a.e.trans (extn_same b), a.t.ext b⟩
theorem Grown.of {T : List (Addr × Str)} (t : Tabs T H) (b : Same H H') : Grown T H H' := ⟨extn_same b, t.ext b⟩
theorem tabs_kb {T : List (Addr × Str)} {p : Addr} {xs : List V} (t : Tabs T H) (hp : H p = some (.lst xs)) (e : KB p H H') : Tabs T H' := by
  intro x hx
  obtain ⟨ps, h1, h2, h3⟩ := t x hx
  have ne : ∀ {b o}, H b = some o → (o ≠ .lst xs) → b ≠ p := fun {b o} hb no z => no (Option.some.inj (hb.symm.trans (z ▸ hp)))
  refine ⟨ps, e _ _ h1 (ne h1 (fun z => by cases z)), h2, fun pos cv hc => ?_⟩
  obtain ⟨c, e1, e2⟩ := h3 pos cv hc
  exact ⟨c, e1, e _ _ e2 (ne e2 (fun z => by unfold CodeO at z; cases z))⟩
end
/-! ### things that are no texts -/
inductive Odd (H : Hp) : V → Prop
  | non : Odd H .non
  | int (i : Int) : Odd H (.int i)
  | bl (b : Bool) : Odd H (.bl b)
  | lst {a : Addr} {xs : List V} : H a = some (.lst xs) → Odd H (.ref a)
  | tup {a : Addr} {xs : List V} : H a = some (.tup xs) → Odd H (.ref a)
theorem kit_non_str : kitB "NoneType" "str" = some false := by decide +kernel
theorem kit_lst_str : kitB "list" "str" = some false := by decide +kernel
theorem kit_tup_str : kitB "tuple" "str" = some false := by decide +kernel
theorem Odd.ty {K : PySem.W.Frag} {H : Hp} {v : V} (h : Odd H v) : (∀ x, v ≠ .str x) ∧ ∃ tv, TyX K H v (.type tv) ∧ kitB tv "str" = some false := by
  cases h with
  | non => exact ⟨fun x z => (by cases z), _, tyx_non, kit_non_str⟩
  | int i => exact ⟨fun x z => (by cases z), _, tyx_int, kit_int_str⟩
  | bl b => exact ⟨fun x z => (by cases z), _, tyx_bl, kit_bool_str⟩
  | lst e => exact ⟨fun x z => (by cases z), _, tyx_lst e, kit_lst_str⟩
  | tup e => exact ⟨fun x z => (by cases z), _, tyx_tup e, kit_tup_str⟩
theorem Odd.ext {H H' : Hp} {v : V} (h : Odd H v) (e : ExtN H H') : Odd H' v := by
  cases h with
  | non => exact .non
  | int i => exact .int i
  | bl b => exact .bl b
  | lst q => exact .lst (e _ _ q (fun _ z => by cases z))
  | tup q => exact .tup (e _ _ q (fun _ z => by cases z))
/-- a text, or no text -/
def TxtV (H : Hp) (v : V) : Prop := (∃ x : Str, v = .str x ∧ x.length ≤ 100000) ∨ Odd H v
theorem TxtV.ext {H H' : Hp} {v : V} (h : TxtV H v) (e : ExtN H H') : TxtV H' v := h.imp id fun q => q.ext e
theorem TxtV.same {H H' : Hp} {v : V} (h : TxtV H v) (e : Same H H') : TxtV H' v := h.ext (extn_same e)
/-! ### lists of texts -/
section
variable {K : PySem.W.Frag} {H : Hp}
theorem dpAll_str : ∀ bs : List Str, DpAll K H (bs.map V.str) (bs.map PyData.str)
  | [] => .nil
  | b :: r => .cons (.str b) (dpAll_str r)
theorem depth_str : ∀ bs : List Str, PyData.depthAll (bs.map PyData.str) = 0
  | [] => rfl
  | b :: r => by simp [PyData.depthAll, PyData.depth, depth_str r]
theorem lay_str : ∀ {bs : List Str}, (∀ b ∈ bs, PyData.strOk b = true) → PyData.canLayAll0 (bs.map PyData.str) = true
  | [], _ => by simp [PyData.canLayAll0]
  | b :: r, h => by simp [PyData.canLayAll0, PyData.canLay0, h b List.mem_cons_self, lay_str (fun x hx => h x (List.mem_cons_of_mem _ hx))]
theorem shaped_str {bs : List Str} (h : ∀ b ∈ bs, PyData.strOk b = true) : SeqAt.shaped (.list (bs.map PyData.str)) = true := by
  simp [SeqAt.shaped, PyData.canLay0, lay_str h, PyData.depth, depth_str]
theorem eqvAll_str : ∀ bs cs : List Str, PyData.eqvAll (bs.map PyData.str) (cs.map PyData.str) = decide (bs = cs)
  | [], [] => by simp [PyData.eqvAll]
  | [], c :: s => by simp [PyData.eqvAll]
  | b :: r, [] => by simp [PyData.eqvAll]
  | b :: r, c :: s => by
    simp only [List.map_cons, PyData.eqvAll, PyData.eqv, eqvAll_str r s, List.cons.injEq]
    by_cases h1 : b = c <;> by_cases h2 : r = s <;> simp [h1, h2]
theorem eqv_strs (bs cs : List Str) : PyData.eqv (.list (bs.map PyData.str)) (.list (cs.map PyData.str)) = decide (bs = cs) := by
  simp only [PyData.eqv, eqvAll_str]
end
end Bw

/-! Starred targets: a, *b = e for a tuple or a list e. -/
namespace Bw
open PySem PySem.Spec L2
section
variable {prog : Program} {w : World} {A : Around} {E : Value → Shared → Prop} {I : Addr} {fp wr : List Addr} {G : Array GenState → Array GenState → Prop} {n : Nat} {P : Nat → Value → Prop} {St : Nat → Shared → Prop}
theorem moved_refl (hg : ∀ a, G a a) (s : Shared) : Moved wr G s s := Moved.refl hg
theorem moved_trans (ht : ∀ a b c, G a b → G b c → G a c) {s s' s'' : Shared} (x : Moved wr G s s') (y : Moved wr G s' s'') : Moved wr G s s'' :=
  ⟨fun b o hb e => y.heap b o hb (x.heap b o hb e), ht _ _ _ x.gens y.gens, y.drawn.trans x.drawn, y.os.trans x.os, Nat.le_trans x.toks y.toks⟩
theorem draw_S (W : WalksS prog w A I fp wr G n P St) : ∀ (m i : Nat) (s : Shared) (Q : List Value → Shared → Prop), St i s → i + m ≤ n →
    (∀ s' vs, Moved wr G s s' → St (i + m) s' → vs.length = m → (∀ j v, vs[j]? = some v → P (i + j) v) → Q vs s') → wpAny (model prog w) A (draw (.ref I) m) Q E s
  | 0, i, s, Q, st, _, hQ => by
    show wpAny _ _ (pure []) Q E s
    exact wpAny_pure (hQ s [] (moved_refl W.grefl s) st rfl fun j v h => by simp at h)
  | m + 1, i, s, Q, st, hle, hQ => by
    show wpAny _ _ (pyNext (.ref I) >>= _) Q E s
    refine wpAny_bind (W.item i s _ _ (by omega) st fun v s1 hP st1 mv => ?_)
    refine wpAny_bind (wpAny_holding (draw_S W m (i + 1) s1 _ st1 (by omega) fun s2 vs mv2 st2 hl hv => wpAny_pure ?_))
    refine hQ s2 (v :: vs) (moved_trans W.gtrans mv mv2) (by rw [show i + (m + 1) = i + 1 + m by omega]; exact st2) (by simp [hl]) fun j u h => ?_
    cases j with
    | zero =>
      simp at h
      subst h
      exact hP
    | succ j =>
      have := hv j u (by simpa using h)
      rw [show i + (j + 1) = i + 1 + j by omega]
      exact this
theorem shift_S (W : WalksS prog w A I fp wr G n P St) (k : Nat) (hk : k ≤ n) : WalksS prog w A I fp wr G (n - k) (fun i => P (k + i)) (fun i s => St (k + i) s) where
  sub := W.sub
  grefl := W.grefl
  gtrans := W.gtrans
  frame := fun i s h' tk st ht hb => W.frame (k + i) s h' tk st ht hb
  item := fun i s Q E hi st hQ => W.item (k + i) s Q E (by omega) st fun v s' hP st' mv => hQ v s' hP st' mv
  done := fun s Q E st hQ => W.done s Q E (by rw [show k + (n - k) = n by omega] at st; exact st) hQ
  self := fun i s Q E st hQ => W.self (k + i) s Q E st hQ
/-- the items, the starred ones as a new list at the heap's end -/
theorem star_S {v : Value} {s s0 : Shared} {T : String} {k after : Nat} {Q : List Value → Shared → Prop} (hTm : T = "list_iterator" ∨ T = "tuple_iterator")
    (W : WalksS prog w A.in1 I fp wr G n P St) (hT : ∀ i s, St i s → s.TypeIs (.ref I) T) (hn : n ≤ sizeLine) (hk : k + after ≤ n) (hI : I ∈ fp) (hfp : ∀ i s, St i s → ∀ b ∈ fp, b < s.heap.objs.size) (st0 : St 0 s0)
    (hit : ∀ (Q : Bool → Shared → Prop), Q false s → wpAny (model prog w) A (notIterableAtAll v) Q E s)
    (hiter : ∀ (Q : Value → Shared → Prop), Q (.ref I) s0 → wpAny (model prog w) A (pyIter v) Q E s)
    (hQ : ∀ (s' : Shared) (first rest : List Value), Moved wr G s0 s' → first.length = k → (∀ j u, first[j]? = some u → P j u) → rest.length = n - k → (∀ j u, rest[j]? = some u → P (k + j) u) →
      wpAny (model prog w) A (newList (rest.take (rest.length - after))) (fun l s'' => Q (first ++ [l] ++ rest.drop (rest.length - after)) s'') E s') :
    wpAny (model prog w) A (unpackItems v (k + 1 + after) (some k)) Q E s := by
  have W' : WalksS prog w A I fp wr G n P St := WalksS.of_in1 W
  unfold unpackItems
  refine wpAny_bind (hit _ ?_)
  simp only [Bool.false_eq_true, if_false]
  refine wpAny_bind (wpAny_holding (hiter _ ?_))
  refine wpAny_bind (wpAny_holding (draw_S W' k 0 s0 _ st0 (by omega) fun s1 first mv1 st1 hl1 hv1 => ?_))
  rw [if_neg (by omega)]
  rw [Nat.zero_add] at st1
  refine wpAny_bind (wpAny_holding (wpAny_collect_iter (T := T) (by rcases hTm with h | h <;> simp [h]) (shift_S W k (by omega)) (fun i s st => hT (k + i) s st) (by simpa using st1) (hfp k s1 st1) hI (fun s2 acc mv2 hacc => ?_) (by omega)))
  have hal : acc.toList.length = n - k := by rw [Array.length_toList]; exact hacc.1
  rw [show k + 1 + after - 1 - k = after by omega]
  rw [if_neg (by omega)]
  refine wpAny_bind ?_
  refine wpAny_mono (hQ s2 first acc.toList (moved_trans W.gtrans mv1 mv2) hl1 (fun j u h => by simpa using hv1 j u h) hal fun j u h => ?_) (fun l s3 q => wpAny_pure q) fun _ _ h => h
  exact hacc.2 j u (by simpa using h)
end
/-! ### over the layer -/
/-- a, .., *b, .., c = e: k ahead, after behind the star -/
def gStar (K : PySem.W.Frag) (k after : Nat) (t : TGs) : TG := fun v σ H Q => ∃ a xs, v = .ref a ∧ (SqT K H a xs ∨ SqL K H a xs) ∧ k + after ≤ xs.length ∧
  ∀ p, H p = none → t (xs.take k ++ [.ref p] ++ (xs.drop k).drop (xs.length - k - after)) σ (upd H p (.lst ((xs.drop k).take (xs.length - k - after)))) Q
section
variable {X : Cx} {pos : Pos}
theorem pgs_star {e : Expr} {es : List Expr} {t : TG} {u : TGs} {p : Pos} (h1 : PG X e t) (h2 : PGs X es u)
    (hs : (assignEach (.Starred e p :: es) X.env).map (·.2) = assign e X.env :: (assignEach es X.env).map (·.2) := by rfl) : PGs X (.Starred e p :: es) (gCons t u) := by
  refine ⟨fun pins s σ H vs us Q I r h => ?_⟩
  obtain ⟨v, vr, e1, h⟩ := h
  subst e1
  cases r with
  | cons r rr =>
    rw [hs]
    refine PyProof.Rows.assignInOrder_cons (thn (h1.run pins s σ H _ _ _ I r h) fun _ s1 ⟨σ1, H1, I1, q1⟩ => ?_)
    exact h2.run pins s1 σ1 H1 _ _ Q I1 rr q1
theorem pg_star {es : List Expr} {ky : Nat} {t : TGs} {k after : Nat} (hc : X.calm = true) (h : PGs X es t)
    (hn : (assignEach es X.env).length = k + 1 + after := by rfl) (hst : (assignEach es X.env).findIdx? (·.1) = some k := by rfl) : PG X (.Tuple es ky pos) (gStar X.K k after t) := by
  refine ⟨fun pins s σ H v u Q I r hw => ?_⟩
  obtain ⟨a, xs, e1, hq, hl, hw⟩ := hw
  subst e1
  obtain rfl : u = Value.ref a := r
  rw [PyProof.Rows.assign_Tuple]
  refine wpAny_bind (wpAny_standAt ?_)
  unfold unpack
  rw [hn, hst]
  have hh : X.A.handled = none := I.ok.hd hc
  have fin : ∀ (its : List Value) (s' : Shared) (first rest : List Value), Vals xs its → xs.length ≤ sizeLine → (∀ b o, s.heap.get? b = some o → s'.heap.get? b = some o) → s'.gens = s.gens → s'.drawn = s.drawn → s'.os = s.os → first.length = k → (∀ (j : Nat) u, first[j]? = some u → its[j]? = some u) → rest.length = its.length - k → (∀ (j : Nat) u, rest[j]? = some u → its[k + j]? = some u) →
      wpAny (model X.prog X.w) X.A (newList (rest.take (rest.length - after))) (fun l s'' => wpAny (model X.prog X.w) X.A (assignInOrder ((assignEach es X.env).map (·.2)) (first ++ [l] ++ rest.drop (rest.length - after))) (fun _ s' => ∃ σ' H', Inv X pins σ' H' s' ∧ Q σ' H') X.xe s'') X.xe s' := by
    intro its s' first rest rv z kp e1 e2 e3 l1 g1 l2 g2
    have lx := rv.length
    have hr : rest = its.drop k := by
      apply List.ext_getElem?
      intro j
      rw [List.getElem?_drop]
      cases e : rest[j]? with
      | some u => exact (g2 j u e).symm
      | none =>
        have := List.getElem?_eq_none_iff.mp e
        exact (List.getElem?_eq_none_iff.mpr (by omega)).symm
    have hf : first = its.take k := by
      apply List.ext_getElem?
      intro j
      cases e : first[j]? with
      | some u =>
        have hj := (List.getElem?_eq_some_iff.mp e).1
        rw [List.getElem?_take, if_pos (by omega)]
        exact (g1 j u e).symm
      | none =>
        have := List.getElem?_eq_none_iff.mp e
        exact (List.getElem?_eq_none_iff.mpr (by rw [List.length_take]; omega)).symm
    subst hr hf
    have I1 : Inv X pins σ H { s with heap := s'.heap, toks := s'.toks } := I.kept (t' := s'.toks) kp
    have es' : { s with heap := s'.heap, toks := s'.toks } = s' := by
      cases s'
      simp_all
    rw [es'] at I1
    have hfr : H s'.heap.objs.size = none := I1.hok.fresh (Nat.le_refl _)
    have r1 : Vals ((xs.drop k).take (xs.length - k - after)) ((its.drop k).take ((its.drop k).length - after)) := by
      rw [List.length_drop, ← lx]
      exact (rv.drop k).take _
    have z1 : ((xs.drop k).take (xs.length - k - after)).length ≤ sizeLine := by
      rw [List.length_take, List.length_drop]
      omega
    refine wpAny_newObj_type ?_ (by
      show (_ : Nat) ≤ _
      rw [List.size_toArray, ← r1.length]
      exact z1)
    have I2 : Inv X pins σ (upd H s'.heap.objs.size (.lst ((xs.drop k).take (xs.length - k - after)))) { s' with heap := s'.heap.push { cls := .type "list", dict := none, data := .seq ((its.drop k).take ((its.drop k).length - after)).toArray } } :=
      I1.laid (t' := s'.toks) (fun b u e => Heap.get?_push_of_some _ e) (Nat.le_refl _) ⟨z1, _, 0, r1, Heap.get?_push_size _ rfl⟩
    refine h.run pins _ σ _ _ _ Q I2 ?_ (hw _ hfr)
    have r2 : Vals ((xs.drop k).drop (xs.length - k - after)) ((its.drop k).drop ((its.drop k).length - after)) := by
      rw [List.length_drop, ← lx]
      exact (rv.drop k).drop _
    exact Vals.append (Vals.append (rv.take k) (.cons rfl .nil)) r2
  rcases hq with hq | hq
  · obtain ⟨its, rv, ht, hz⟩ := I.tuple hq
    have lx := rv.length
    have hlt : a ≠ s.heap.objs.size := by obtain ⟨o, ho, _⟩ := ht; exact Nat.ne_of_lt (Heap.lt_size ho)
    refine wpAny_bind (wpAny_holding (star_S (T := "tuple_iterator") (n := its.toArray.size) (P := fun i v => its.toArray[i]? = some v) (s0 := { s with heap := s.heap.push { cls := .type "tuple_iterator", data := .fields #[.ref a, .int 0 0] } })
      (.inr rfl) (Walks.toS (Walks.tuple (A := X.A.in1) hh s.heap.objs.size a hlt its.toArray)) (fun i s st => ?_) (by simp; omega) (by simp; omega) (by simp) (fun i s st b hb => ?_) ?_ (fun Q q => ?_) (fun Q q => ?_) (fun s' first rest mv l1 g1 l2 g2 => ?_)))
    · obtain ⟨o, ho, hcl, _⟩ := st.1
      exact ⟨o, ho, hcl⟩
    · simp at hb
      rcases hb with rfl | rfl
      · obtain ⟨o, ho, _⟩ := st.1
        exact Heap.lt_size ho
      · obtain ⟨o, ho, _⟩ := st.2
        exact Heap.lt_size ho
    · exact ⟨⟨_, Heap.get?_push_size _ rfl, rfl, rfl⟩, ht.push _⟩
    · unfold notIterableAtAll
      exact wpAny_bind (wpAny_specialOf ht.typeIs PyProof.Rows.slot_tuple_iter.lookup (wpAny_pure q))
    · exact wpAny_pyIter_tuple ht q
    · refine fin its s' first rest rv hz (fun b o e => mv.heap b o ?_ (Heap.get?_push_of_some _ e)) mv.gens mv.drawn mv.os l1 (fun j u e => by simpa using g1 j u e) (by simpa using l2) (fun j u e => by simpa using g2 j u e)
      simp
      exact Nat.ne_of_lt (Heap.lt_size e)
  · obtain ⟨its, rv, ht, hz⟩ := I.list hq
    have ht : s.heap.IsList a its.toArray := by
      obtain ⟨o, n, h1, h2, h3, h4⟩ := ht
      exact ⟨o, h1, h2, n, h4⟩
    have lx := rv.length
    have hlt : a ≠ s.heap.objs.size := by obtain ⟨o, ho, _⟩ := ht; exact Nat.ne_of_lt (Heap.lt_size ho)
    refine wpAny_bind (wpAny_holding (star_S (T := "list_iterator") (n := its.toArray.size) (P := fun i v => its.toArray[i]? = some v) (s0 := { s with heap := s.heap.push { cls := .type "list_iterator", data := .fields #[.ref a, .int 0 0] } })
      (.inl rfl) (Walks.toS (Walks.list (A := X.A.in1) hh s.heap.objs.size a hlt its.toArray)) (fun i s st => ?_) (by simp; omega) (by simp; omega) (by simp) (fun i s st b hb => ?_) ?_ (fun Q q => ?_) (fun Q q => ?_) (fun s' first rest mv l1 g1 l2 g2 => ?_)))
    · obtain ⟨o, ho, hcl, _⟩ := st.1
      exact ⟨o, ho, hcl⟩
    · simp at hb
      rcases hb with rfl | rfl
      · obtain ⟨o, ho, _⟩ := st.1
        exact Heap.lt_size ho
      · obtain ⟨o, ho, _⟩ := st.2
        exact Heap.lt_size ho
    · exact ⟨⟨_, Heap.get?_push_size _ rfl, rfl, rfl⟩, ht.push _⟩
    · unfold notIterableAtAll
      exact wpAny_bind (wpAny_specialOf ht.typeIs slot_list_iter.lookup (wpAny_pure q))
    · exact wpAny_pyIter_list ht q
    · refine fin its s' first rest rv hz (fun b o e => mv.heap b o ?_ (Heap.get?_push_of_some _ e)) mv.gens mv.drawn mv.os l1 (fun j u e => by simpa using g1 j u e) (by simpa using l2) (fun j u e => by simpa using g2 j u e)
      simp
      exact Nat.ne_of_lt (Heap.lt_size e)
end
end Bw

namespace Bw
open PySem PySem.Spec PyProof.Rows L2 LamX
/-! list(x), tuple(x), xs.insert -/
section
variable {X : Cx}
def rListOf (K : PySem.W.Frag) : List V → Hp → VK → Prop := fun xs H Q => ∃ p ys, xs = [.ref p] ∧ (SqL K H p ys ∨ SqT K H p ys) ∧ ∀ l, H l = none → Q (.ref l) (upd H l (.lst ys))
theorem cl_list : CallR X (.type "list") (rListOf X.K) := call_list_of
def rTupOf (K : PySem.W.Frag) : List V → Hp → VK → Prop := fun xs H Q => ∃ p ys, xs = [.ref p] ∧ ((SqL K H p ys ∧ ∀ l, H l = none → Q (.ref l) (upd H l (.tup ys))) ∨ (SqT K H p ys ∧ Q (.ref p) H))
theorem cl_tuple : CallR X (.type "tuple") (rTupOf X.K) := call_tuple_of
def rInsert : V → List V → Hp → VK → Prop := fun x vs H Q => ∃ (l : Addr) (xs : List V) (i : Int) (y : V), x = .ref l ∧ vs = [.int i, y] ∧ H l = some (.lst xs) ∧ xs.length < sizeLine ∧ 0 ≤ i ∧ i < 2 ^ 63 ∧ Q .non (upd H l (.lst (xs.take i.toNat ++ [y] ++ xs.drop i.toNat)))
theorem mt_insertN : MtR X "list.insert" rInsert := mt_insert
end
section
variable {K : PySem.W.Frag} {H : Hp} {Q : VK}
theorem w_listOf {p : Addr} {ys : List V} (h : SqL K H p ys) (k : ∀ l H2, H l = none → Same H H2 → H2 l = some (.lst ys) → Q (.ref l) H2) : rListOf K [.ref p] H Q := ⟨p, ys, rfl, .inl h, fun l n => k l _ n (same_new n) upd_same⟩
theorem w_tupOf {p : Addr} {ys : List V} (h : SqL K H p ys) (k : ∀ l H2, H l = none → Same H H2 → H2 l = some (.tup ys) → Q (.ref l) H2) : rTupOf K [.ref p] H Q := ⟨p, ys, rfl, .inl ⟨h, fun l n => k l _ n (same_new n) upd_same⟩⟩
theorem w_tupT {p : Addr} {ys : List V} (h : SqT K H p ys) (q : Q (.ref p) H) : rTupOf K [.ref p] H Q := ⟨p, ys, rfl, .inr ⟨h, q⟩⟩
theorem w_insert {l : Addr} {xs : List V} {i : Int} {y : V} (h : H l = some (.lst xs)) (hl : xs.length ≤ 60000) (h0 : 0 ≤ i) (hi : i ≤ 60000) (k : ∀ H2, KB l H H2 → H2 l = some (.lst (xs.take i.toNat ++ [y] ++ xs.drop i.toNat)) → Q .non H2) : rInsert (.ref l) [.int i, y] H Q :=
  ⟨l, xs, i, y, rfl, rfl, h, Nat.lt_of_le_of_lt hl (by decide), h0, by omega, k _ kb_upd upd_same⟩
end
/-- an if without else, what is behind it once -/
theorem w_decR {c A : Prop} {dc : Decidable c} {D : Ends} {σ : L2.St} {H : Hp} (Inv : L2.St → Hp → Prop) (h2 : ¬ c → Inv σ H) (h1 : (∀ σ H, Inv σ H → D.nx σ H) → c → A) (hi : ∀ σ H, Inv σ H → D.nx σ H) : if decide c = true then A else tNext D σ H := by
  by_cases h : c
  · rw [if_pos (decide_eq_true h)]
    exact h1 hi h
  · rw [if_neg (fun e => h (of_decide_eq_true e))]
    exact hi _ _ (h2 h)
/-! what is a list stays one -/
def Kinds (H H' : Hp) : Prop := (∀ a xs, H a = some (.lst xs) → ∃ ys, H' a = some (.lst ys)) ∧ ∀ a xs, H a = some (.tup xs) → H' a = some (.tup xs)
theorem Kinds.of {H H' : Hp} (e : Same H H') : Kinds H H' := ⟨fun a xs h => ⟨xs, e _ _ h⟩, fun a xs h => e _ _ h⟩
theorem Kinds.kb {p : Addr} {H H' : Hp} {xs ys : List V} (e : KB p H H') (h0 : H p = some (.lst xs)) (h : H' p = some (.lst ys)) : Kinds H H' := by
  refine ⟨fun a zs ha => ?_, fun a zs ha => ?_⟩
  · by_cases ea : a = p
    · exact ⟨ys, ea ▸ h⟩
    · exact ⟨zs, e _ _ ha ea⟩
  · by_cases ea : a = p
    · rw [ea, h0] at ha
      cases ha
    · exact e _ _ ha ea
theorem Kinds.trans {H H1 H' : Hp} (a : Kinds H H1) (b : Kinds H1 H') : Kinds H H' := ⟨fun p xs h => by
  obtain ⟨ys, h1⟩ := a.1 p xs h
  exact b.1 p ys h1, fun p xs h => b.2 p xs (a.2 p xs h)⟩
theorem TxtV.kinds {H H' : Hp} {v : V} (h : TxtV H v) (e : Kinds H H') : TxtV H' v := h.imp id fun q => by
  cases q with
  | non => exact .non
  | int i => exact .int i
  | bl b => exact .bl b
  | lst q => obtain ⟨ys, h1⟩ := e.1 _ _ q; exact .lst h1
  | tup q => exact .tup (e.2 _ _ q)
end Bw

namespace Bw
open PySem PySem.Spec PyProof.Rows L2 LamX
/-! ### own exceptions: the handed value -/
abbrev MonoA (ta : TA) : Prop := ∀ σ H (Q Q' : List V → Hp → Prop), (∀ vs H, Q vs H → Q' vs H) → ta σ H Q → ta σ H Q'
theorem monoV {i : Nat} : MonoA (tCons (tVar i) tNil) := fun σ H Q Q' hq h => by
  obtain ⟨v, e, q⟩ := h
  exact ⟨v, e, hq _ _ q⟩
theorem monoF {K : PySem.W.Frag} {i : Nat} {f : Str} : MonoA (tCons (tFld K (tVar i) f) tNil) := fun σ H Q Q' hq h => by
  obtain ⟨v, e, a, C, dx, fs, u, h1, h2, h3, h4, h5, q⟩ := h
  exact ⟨v, e, a, C, dx, fs, u, h1, h2, h3, h4, h5, hq _ _ q⟩
section
variable {K : PySem.W.Frag} {H : Hp} {Q : VK} {σ : L2.St} {D : Ends}
theorem w_xmk {C : Addr} {f : Str} {dvs : List V} {ta : TA} {QX : XK} (h : ta σ H fun vs H1 => ∃ v, vs ++ dvs = [v] ∧ ∀ d H2, H1 d = none → Same H1 H2 → H2 d = some (.xd [(f, v)]) → QX (.ref C) (some d) H2) : tXmk C f dvs ta σ H QX := h
theorem w_xv {v : V} {R : V → Prop} (h : R v) : ∃ v', [v] ++ [] = [v'] ∧ R v' := ⟨v, rfl, h⟩
theorem w_xv0 {v : V} {R : V → Prop} (h : R v) : ∃ v', [] ++ [v] = [v'] ∧ R v' := ⟨v, rfl, h⟩
/-! ### augmented stores -/
theorem w_aug {i : Nat} {te : TE} {ti : TIp} {x : V} (hx : σ[i]? = some (some x)) (h : te σ H fun y H1 => ti x y H1 fun z H2 => D.nx (σ.set i (some z)) H2) : tAug i te ti D σ H := ⟨x, hx, h⟩
theorem w_ipI {f : Int → Int → Int} {i j : Int} (q : Q (.int (f i j)) H) : ipI f (.int i) (.int j) H Q := ⟨i, j, rfl, rfl, q⟩
theorem w_rAdd {i j : Int} (q : Q (.int (i + j)) H) : L2.rAdd (.int i) (.int j) H Q := ⟨i, j, rfl, rfl, q⟩
theorem w_faug {ta tv : TE} {rd : V → V → Hp → VK → Prop} {f : Str} (h : ta σ H fun x H1 => ∃ a C dx fs v, x = .ref a ∧ H1 a = some (.ins C dx fs) ∧ Cls K C ∧ NoAttr K C f ∧ fs.lookup f = some v ∧
  tv σ H1 fun y H2 => rd v y H2 fun z H3 => ∃ dx' fs', H3 a = some (.ins C dx' fs') ∧ fs'.length < 1000 ∧ D.nx σ (upd H3 a (.ins C dx' (putF f z fs')))) : sFldAug K ta tv rd f D σ H := h
theorem w_faug1 {a C dx : Addr} {fs : List (Str × V)} {f : Str} {v : V} {R : Addr → Addr → V → Prop} (ho : H a = some (.ins C dx fs)) (hc : Cls K C) (hn : NoAttr K C f) (hl : fs.lookup f = some v) (q : R a C v) :
    ∃ a' C dx fs v, V.ref a = .ref a' ∧ H a' = some (.ins C dx fs) ∧ Cls K C ∧ NoAttr K C f ∧ fs.lookup f = some v ∧ R a' C v := ⟨a, C, dx, fs, v, rfl, ho, hc, hn, hl, q⟩
theorem w_faug2 {a C dx : Addr} {fs : List (Str × V)} {R : Addr → List (Str × V) → Prop} (ho : H a = some (.ins C dx fs)) (hl : fs.length < 1000) (q : R dx fs) :
    ∃ dx' fs', H a = some (.ins C dx' fs') ∧ fs'.length < 1000 ∧ R dx' fs' := ⟨dx, fs, ho, hl, q⟩
theorem w_notInS {c : Nat} {z : Str} (q : Q (.bl (!decide (c ∈ z.cps.toList))) H) : rNotInS (.str ⟨#[c]⟩) (.str z) H Q := ⟨c, z, rfl, rfl, q⟩
end
section
variable {X : Cx}
theorem ip_addS : PIp X .Add Bw.rAddS := fun pins s σ H x y v u Q I rx ry h => iop_add_str pins s σ H x y v u Q I rx ry h
theorem iop_mulU : OpR X (inplaceOp .Mult) (rI CMulU fun i j => .int (i * j)) := opI fun _ _ _ _ _ _ _ hc q => imul_int q hc
theorem ip_mulU : PIp X .Mult (rI CMulU fun i j => .int (i * j)) := fun pins s σ H x y v u Q I rx ry h => iop_mulU pins s σ H x y v u Q I rx ry h
theorem ip_modU : PIp X .Mod (rI (fun _ j => 0 < j) fun i j => .int (i % j)) := fun pins s σ H x y v u Q I rx ry h => iop_mod pins s σ H x y v u Q I rx ry h
/-! ### divmod, str.index -/
def rDivmod : List V → Hp → VK → Prop := fun xs H Q => ∃ i j, xs = [.int i, .int j] ∧ CDivP i j ∧ ∀ p, H p = none → Q (.ref p) (upd H p (.tup [.int (i / j), .int (i % j)]))
theorem cl_divmod : CallR X (.builtin "divmod") rDivmod := call_divmodW
def rSIdx : V → List V → Hp → VK → Prop := fun x xs H Q => ∃ a b i rest, x = .str a ∧ xs = [.str b] ∧ Builtin.Str.occurrences a b 0 a.length 1 = i :: rest ∧ Q (.int (i : Nat)) H
theorem mt_sidx : MtR X "str.index" rSIdx := mt_sindex
end
section
variable {H : Hp} {Q : VK}
theorem w_divmod {i j : Int} (h0 : 0 < j) (hb : j.natAbs < 2 ^ 64) (k : ∀ p H2, H p = none → Same H H2 → H2 p = some (.tup [.int (i / j), .int (i % j)]) → Q (.ref p) H2) : rDivmod [.int i, .int j] H Q :=
  ⟨i, j, rfl, ⟨h0, PyProof.noPylong_of_log2 (Nat.lt_of_lt_of_le (PySem.Flt.log2_lt_of (by decide) hb) (by decide : 64 ≤ 9000))⟩, fun p n => k p _ n (same_new n) upd_same⟩
theorem w_sidx {a b : Str} {i : Nat} {rest : List Nat} (e : Builtin.Str.occurrences a b 0 a.length 1 = i :: rest) (q : Q (.int (i : Nat)) H) : rSIdx (.str a) [.str b] H Q := ⟨a, b, i, rest, rfl, rfl, e, q⟩
end
/-! ### any thing of the plain kinds -/
inductive Thg (H : Hp) : V → Prop
  | non : Thg H .non
  | int (i : Int) : Thg H (.int i)
  | bl (b : Bool) : Thg H (.bl b)
  | str (x : Str) : Thg H (.str x)
  | lst {a : Addr} {xs : List V} : H a = some (.lst xs) → Thg H (.ref a)
  | tup {a : Addr} {xs : List V} : H a = some (.tup xs) → Thg H (.ref a)
theorem Thg.ext {H H' : Hp} {v : V} (h : Thg H v) (e : ExtN H H') : Thg H' v := by
  cases h with
  | non => exact .non
  | int i => exact .int i
  | bl b => exact .bl b
  | str x => exact .str x
  | lst q => exact .lst (e _ _ q (fun _ z => by cases z))
  | tup q => exact .tup (e _ _ q (fun _ z => by cases z))
theorem Thg.same {H H' : Hp} {v : V} (h : Thg H v) (e : Same H H') : Thg H' v := h.ext (extn_same e)
theorem Thg.kinds {H H' : Hp} {v : V} (h : Thg H v) (e : Kinds H H') : Thg H' v := by
  cases h with
  | non => exact .non
  | int i => exact .int i
  | bl b => exact .bl b
  | str x => exact .str x
  | lst q => obtain ⟨ys, h1⟩ := e.1 _ _ q; exact .lst h1
  | tup q => exact .tup (e.2 _ _ q)
/-- no list -/
inductive NoL (H : Hp) : V → Prop
  | non : NoL H .non
  | int (i : Int) : NoL H (.int i)
  | bl (b : Bool) : NoL H (.bl b)
  | str (x : Str) : NoL H (.str x)
  | tup {a : Addr} {xs : List V} : H a = some (.tup xs) → NoL H (.ref a)
theorem NoL.ty {K : PySem.W.Frag} {H : Hp} {v : V} (h : NoL H v) : ∃ tv, TyX K H v (.type tv) ∧ kitB tv "list" = some false := by
  cases h with
  | non => exact ⟨_, tyx_non, kit_NoneType_list⟩
  | int i => exact ⟨_, tyx_int, kit_int_list⟩
  | bl b => exact ⟨_, tyx_bl, kit_bool_list⟩
  | str x => exact ⟨_, tyx_str, kit_str_list⟩
  | tup e => exact ⟨_, tyx_tup e, kit_tuple_list⟩
theorem NoL.ext {H H' : Hp} {v : V} (h : NoL H v) (e : ExtN H H') : NoL H' v := by
  cases h with
  | non => exact .non
  | int i => exact .int i
  | bl b => exact .bl b
  | str x => exact .str x
  | tup q => exact .tup (e _ _ q (fun _ z => by cases z))
theorem NoL.thg {H : Hp} {v : V} (h : NoL H v) : Thg H v := by
  cases h with
  | non => exact .non
  | int i => exact .int i
  | bl b => exact .bl b
  | str x => exact .str x
  | tup q => exact .tup q
/-- refused with C, the field is v -/
def Raz (E : XK) (H : Hp) (C : Addr) (v : V) : Prop := ∀ d H', H d = none → Same H H' → H' d = some (.xd [("at", v)]) → E (.ref C) (some d) H'
theorem Raz.same {E : XK} {H H1 : Hp} {C : Addr} {v : V} (h : Raz E H C v) (s : Same H H1) : Raz E H1 C v := fun d H' n s' e => h d H' (same_free s n) (s.trans s') e
theorem kb_newD {p q : Addr} {H H' : Hp} {o : HO} (k : KB p H H') (hp : H' p = some o) (n : H' q = none) : H q = none := by
  cases e : H q with
  | none => rfl
  | some u =>
    have ne : q ≠ p := fun z => by rw [z, hp] at n; cases n
    rw [k q u e ne] at n
    cases n
theorem kb2 {p D : Addr} {H H4 H5 : Hp} (a : KB p H H4) (b : KB D H4 H5) (n : H D = none) : KB p H H5 := fun c o h nc => b c o (a c o h nc) (ne_of_none h n)
/-! ### texts by their signs -/
theorem str_ext {x y : Str} (h : x.cps.toList = y.cps.toList) : x = y := by
  obtain ⟨⟨a⟩⟩ := x
  obtain ⟨⟨b⟩⟩ := y
  congr 2
theorem cps_append (x y : Str) : (x ++ y).cps.toList = x.cps.toList ++ y.cps.toList := TL.tl_append x y
def S (l : List Nat) : Str := ⟨l.toArray⟩
theorem cps_S (l : List Nat) : (S l).cps.toList = l := rfl
theorem len_S (l : List Nat) : (S l).length = l.length := by
  show l.toArray.size = l.length
  simp
theorem len_cps (x : Str) : x.cps.toList.length = x.length := Array.length_toList
/-! ### lists of ints -/
section
variable {K : PySem.W.Frag} {H : Hp}
theorem dpAll_int : ∀ bs : List Int, DpAll K H (bs.map V.int) (bs.map PyData.int)
  | [] => .nil
  | b :: r => .cons (.int b) (dpAll_int r)
theorem depth_int : ∀ bs : List Int, PyData.depthAll (bs.map PyData.int) = 0
  | [] => rfl
  | b :: r => by simp [PyData.depthAll, PyData.depth, depth_int r]
theorem lay_int : ∀ {bs : List Int}, PyData.canLayAll0 (bs.map PyData.int) = true
  | [] => by simp [PyData.canLayAll0]
  | b :: r => by simp [PyData.canLayAll0, PyData.canLay0, lay_int (bs := r)]
theorem shaped_int {bs : List Int} : SeqAt.shaped (.list (bs.map PyData.int)) = true := by
  simp [SeqAt.shaped, PyData.canLay0, lay_int, PyData.depth, depth_int]
theorem eqvAll_int : ∀ bs cs : List Int, PyData.eqvAll (bs.map PyData.int) (cs.map PyData.int) = decide (bs = cs)
  | [], [] => by simp [PyData.eqvAll]
  | [], c :: s => by simp [PyData.eqvAll]
  | b :: r, [] => by simp [PyData.eqvAll]
  | b :: r, c :: s => by
    simp only [List.map_cons, PyData.eqvAll, PyData.eqv, eqvAll_int r s, List.cons.injEq]
    by_cases h1 : b = c <;> by_cases h2 : r = s <;> simp [h1, h2]
theorem eqv_ints (bs cs : List Int) : PyData.eqv (.list (bs.map PyData.int)) (.list (cs.map PyData.int)) = decide (bs = cs) := by
  simp only [PyData.eqv, eqvAll_int]
end
end Bw

namespace Bw
open PySem PySem.Spec PyProof.Rows L2 LamX
abbrev selfAt : List Str := ["self", "at"]
/-- an own exception with the field at, from what K holds -/
theorem xcl_of {P : Program} {w : World} {K : PySem.W.Frag} {mg : Str → Option Value} {base : Heap} {x qual : Str} {C fI T : Addr} {st : Stmt} {oc ocT kV doc pm cd ct : Value} {od odT an : Option Addr} {sl slT : Array (Option Value)} {nT : Nat}
    (T0 : OexC K C) (no : PySem.W.findIn K (.ref C) "at" = some none) (hm : mg x = some (.ref C)) (iC : PySem.W.findIn K (.ref C) "__init__" = some (some (.ref fI))) (tI : PySem.W.typeIn K (.ref fI) = some (.type "function"))
    (l : K.lookup fI = some ⟨oc, od, .func (PySem.W.fnOf "__init__" qual (defArgs st) (defBody st) (defScope st) (.ref T) kV doc pm an cd ct), sl⟩) (hc : PySem.W.codeIn K cd qual = true) (kp : PySem.W.keepIn K (.ref fI) = true)
    (lT : K.lookup T = some ⟨ocT, odT, .seq (List.toArray [.none]) nT, slT⟩)
    (F0 : ∀ fd, FunD K "__init__" qual (defArgs st) (defBody st) (defScope st) [.non] [] fI fd → FnOk P w K mg base CX0 1 fI fd selfAt (spXi K "at"))
    (b0 : ∀ (T : Addr) (kV doc pm : Value) (an : Option Addr) (cdv ct : Value) (us its : List Value), us.length = 1 → its.length = 1 →
      ∃ k, bindArgs (PySem.W.fnOf "__init__" qual (defArgs st) (defBody st) (defScope st) (.ref T) kV doc pm an cdv ct) ⟨us, []⟩ = seqItems? (.ref T) >>= k ∧ k (some its.toArray) = pure (selfAt.zip (us ++ its.drop 0)))
    (b1 : ∀ (T : Addr) (kV doc pm : Value) (an : Option Addr) (cdv ct : Value) (us its : List Value), us.length = 2 → its.length = 1 →
      ∃ k, bindArgs (PySem.W.fnOf "__init__" qual (defArgs st) (defBody st) (defScope st) (.ref T) kV doc pm an cdv ct) ⟨us, []⟩ = seqItems? (.ref T) >>= k ∧ k (some its.toArray) = pure (selfAt.zip (us ++ its.drop 1))) :
    Xcl P w K mg base x C 1 "at" [.non] ∧ Xcl P w K mg base x C 1 "at" [] := by
  have F : FunD K "__init__" qual (defArgs st) (defBody st) (defScope st) [.non] [] fI _ := ⟨⟨_, _, _, _, _, _, _, _, _, _, rfl, l, hc, .inr ⟨by simp, _, _, _, _, rfl, lT, rfl, .cons rfl .nil⟩, .inl rfl⟩, kp⟩
  obtain ⟨d0, h0, e0⟩ := F.binds1 (ps := selfAt) 1 0 (by simp) rfl b0
  obtain ⟨d1, h1, e1⟩ := F.binds1 (ps := selfAt) 2 1 (by simp) rfl b1
  exact ⟨⟨T0, no, hm, fI, _, d0, _, iC, tI, F0 _ F, e0, h0⟩, ⟨T0, no, hm, fI, _, d1, _, iC, tI, F0 _ F, e1, h1⟩⟩
theorem oex_mk {K : PySem.W.Frag} {C : Addr} {nm q : Str} {N : Addr} {bs bm : List Value} {sn : List Str} {sub : List Value} {ab : Bool} {col : Option Bool} {dd : Option Addr} {k0 k1 k2 k3 k5 : Option Value}
    (l : K.lookup C = some (excClassObj nm q C N bs bm true sn sub ab col dd k0 k1 k2 k3 k5 "ValueError.__new__")) (r : PySem.HandSPX.refsVE bm = true) (sa : PySem.W.findIn K (.ref C) "__setattr__" = some (some (.builtin "object.__setattr__")))
    (exC : PySem.W.subIn K (.ref C) (.type "BaseException") = some true) (tyC : PySem.W.typeIn K (.ref C) = some (.type "type")) (kC : PySem.W.keepIn K (.ref C) = true) : OexC K C := ⟨⟨nm, q, N, bs, bm, sn, sub, ab, col, dd, k0, k1, k2, k3, k5, l, r⟩, sa, exC, tyC, kC⟩
/-! ### data that can be compared -/
structure GoodD (d : PyData) (n : Nat) : Prop where
  lay : PyData.canLay0 d = true
  dep : PyData.depth d ≤ n
  refl : PyData.eqv d d = true
theorem GoodD.shaped {d : PyData} {n : Nat} (h : GoodD d n) (hn : n ≤ 64) : SeqAt.shaped d = true := by
  unfold SeqAt.shaped
  rw [h.lay, decide_eq_true (Nat.le_trans h.dep hn)]
  rfl
theorem GoodD.mono {d : PyData} {n m : Nat} (h : GoodD d n) (l : n ≤ m) : GoodD d m := ⟨h.lay, Nat.le_trans h.dep l, h.refl⟩
theorem good_int {i : Int} {n : Nat} : GoodD (.int i) n := ⟨by simp [PyData.canLay0], by simp [PyData.depth], by simp [PyData.eqv]⟩
theorem good_bool {b : Bool} {n : Nat} : GoodD (.bool b) n := ⟨by simp [PyData.canLay0], by simp [PyData.depth], by simp [PyData.eqv]⟩
theorem good_none {n : Nat} : GoodD .none n := ⟨by simp [PyData.canLay0], by simp [PyData.depth], by simp [PyData.eqv]⟩
theorem good_str {x : Str} {n : Nat} (h : PyData.strOk x = true) : GoodD (.str x) n := ⟨by simp [PyData.canLay0, h], by simp [PyData.depth], by simp [PyData.eqv]⟩
theorem good_all {n : Nat} : ∀ {ds : List PyData}, (∀ d ∈ ds, GoodD d n) → PyData.canLayAll0 ds = true ∧ PyData.depthAll ds ≤ n ∧ PyData.eqvAll ds ds = true
  | [], _ => by simp [PyData.canLayAll0, PyData.depthAll, PyData.eqvAll]
  | d :: r, h => by
    obtain ⟨h1, h2, h3⟩ := good_all (ds := r) (fun x hx => h x (List.mem_cons_of_mem _ hx))
    have h0 := h d List.mem_cons_self
    refine ⟨by simp [PyData.canLayAll0, h0.lay, h1], ?_, by simp [PyData.eqvAll, h0.refl, h3]⟩
    have := h0.dep
    simp only [PyData.depthAll]
    omega
theorem good_list {n : Nat} {ds : List PyData} (h : ∀ d ∈ ds, GoodD d n) : GoodD (.list ds) (n + 1) := by
  obtain ⟨h1, h2, h3⟩ := good_all h
  exact ⟨by simp [PyData.canLay0, h1], by simp only [PyData.depth]; omega, by simp [PyData.eqv, h3]⟩
theorem good_tuple {n : Nat} {ds : List PyData} (h : ∀ d ∈ ds, GoodD d n) : GoodD (.tuple ds) (n + 1) := by
  obtain ⟨h1, h2, h3⟩ := good_all h
  exact ⟨by simp [PyData.canLay0, h1], by simp only [PyData.depth]; omega, by simp [PyData.eqv, h3]⟩
section
variable {K : PySem.W.Frag} {H : Hp} {Q : VK}
/-- one thing equals the like -/
theorem w_eqG {x y : V} {d : PyData} {n : Nat} (hx : Dp K H x d) (hy : Dp K H y d) (g : GoodD d n) (hn : n ≤ 64) (q : Q (.bl true) H) : rEqD K x y H Q := w_eqD hx hy (g.shaped hn) (g.shaped hn) g.refl q
theorem w_neG {x y : V} {d : PyData} {n : Nat} (hx : Dp K H x d) (hy : Dp K H y d) (g : GoodD d n) (hn : n ≤ 64) (q : Q (.bl false) H) : rNeD K x y H Q := w_neD hx hy (g.shaped hn) (g.shaped hn) g.refl q
theorem DpAll.append : ∀ {xs ys : List V} {ds es : List PyData}, DpAll K H xs ds → DpAll K H ys es → DpAll K H (xs ++ ys) (ds ++ es)
  | _, _, _, _, .nil, h => h
  | _, _, _, _, .cons h r, h2 => .cons h (DpAll.append r h2)
def nD (n : Nat) : PyData := .int n
theorem dpAll_nat {f : Nat → V} (hf : ∀ n, f n = .int n) : ∀ ns : List Nat, DpAll K H (ns.map f) (ns.map nD)
  | [] => .nil
  | n :: r => .cons (by rw [hf n]; exact .int _) (dpAll_nat hf r)
theorem good_nats (ns : List Nat) : ∀ d ∈ ns.map nD, GoodD d 0 := fun d hd => by
  obtain ⟨n, _, rfl⟩ := List.mem_map.mp hd
  exact good_int
theorem same_dp {H' : Hp} {v : V} {d : PyData} (s : Same H H') (h : Dp K H v d) : Dp K H' v d := Dp.extn (extn_same s) h
theorem same_dpAll {H' : Hp} {vs : List V} {ds : List PyData} (s : Same H H') (h : DpAll K H vs ds) : DpAll K H' vs ds := DpAll.extn (extn_same s) h
end
end Bw

namespace Bw
open PySem PySem.Spec PyProof.Rows L2 LamX
section
variable {K : PySem.W.Frag} {H : Hp} {Q : VK} {σ : L2.St}
theorem w_revE {te : TE} (h : te σ H fun x H1 => ∃ a xs, x = .ref a ∧ SqL K H1 a xs ∧ ∀ p, H1 p = none → Q (.ref p) (upd H1 p (.lst xs.reverse))) : tRevL K te σ H Q := h
theorem w_rev {a : Addr} {xs : List V} (h : SqL K H a xs) (k : ∀ p H2, H p = none → Same H H2 → H2 p = some (.lst xs.reverse) → Q (.ref p) H2) : ∃ a' xs, V.ref a = .ref a' ∧ SqL K H a' xs ∧ ∀ p, H p = none → Q (.ref p) (upd H p (.lst xs.reverse)) := ⟨a, xs, rfl, h, fun p n => k p _ n (same_new n) upd_same⟩
end
end Bw

namespace Bw
open PySem PySem.Spec PyProof.Rows L2 LamX
/-! ### d.setdefault(k, v); classes made by keywords -/
section
variable {H : Hp} {Q : VK} {σ : L2.St}
theorem w_dsetd {td ty tx : TE} (h : td σ H fun x H1 => ∃ a, x = .ref a ∧ IsD H1 a ∧ ty σ H1 fun y H2 => tx σ H2 fun z H3 => ∃ (kvs : List (Key × V)) (k : Key), H3 a = some (.dK kvs) ∧ y = kV k ∧ kvs.length < sizeLine ∧
  (∀ v, valV kvs k = some v → Q v H3) ∧ (valV kvs k = none → Q z (upd H3 a (.dK (putK kvs k z))))) : tDSetd td ty tx σ H Q := h
theorem w_dset1 {a : Addr} {kvs : List (Key × V)} {R : Addr → Prop} (h : H a = some (.dK kvs)) (q : R a) : ∃ a', V.ref a = .ref a' ∧ IsD H a' ∧ R a' := ⟨a, rfl, .inl ⟨kvs, .inl h⟩, q⟩
theorem w_dnewK (k : ∀ p H2, H p = none → Same H H2 → H2 p = some (.dK []) → Q (.ref p) H2) : tDNewK σ H Q := fun p n => k p _ n (same_new n) upd_same
end
def rRepS : R2 := fun x y H Q => ∃ z n, x = .str z ∧ y = .int n ∧ MulOk z n ∧ Q (.str (Txt.mul z n)) H
theorem op_repS {X : Cx} : OpR X (binaryOp .Mult) rRepS := by
  intro pins s σ H x y v u Q I rx ry h
  obtain ⟨i, j, rfl, rfl, hz, q⟩ := h
  obtain ⟨t, rfl⟩ := rx
  obtain ⟨t', rfl⟩ := ry
  exact SB.mul hz fun t' tk => ⟨.str _, H, I.tok _, ⟨_, rfl⟩, q⟩
theorem w_repS {z : Str} {n : Int} {H : Hp} {Q : VK} (h : MulOk z n) (q : Q (.str (Txt.mul z n)) H) : rRepS (.str z) (.int n) H Q := ⟨z, n, rfl, rfl, h, q⟩
theorem ip_fdivU {X : Cx} : PIp X .FloorDiv (rI CDiv fun i j => .int (i / j)) := fun pins s σ H x y v u Q I rx ry h => iop_fdiv pins s σ H x y v u Q I rx ry h
theorem w_fdivI {i j : Int} {H : Hp} {Q : VK} (h : CDiv i j) (q : Q (.int (i / j)) H) : rI CDiv (fun i j => .int (i / j)) (.int i) (.int j) H Q := ⟨i, j, rfl, rfl, h, q⟩
structure MkrXK (P : Program) (w : World) (K : PySem.W.Frag) (mg : Str → Option Value) (base : Heap) (x : Str) (C : Addr) (k : Nat) (ps : List Str) (ks : List Str) (gV : List V → List V → List V) (sp : Sp) : Prop where
  ex : ∃ (f : Addr) (fd : FuncData) (g : List Value → List Value → List Value), Mk K C f ∧ FnOk P w K mg base (L2.CX P w) k f fd ps sp ∧ mg x = some (.ref C) ∧ KBn K fd ps 1 ks g gV
section
variable {X : Cx}
theorem pe_mkxk {E : XK} {x : Str} {C : Addr} {k : Nat} {ps ks : List Str} {gV : List V → List V → List V} {sp : Sp} {kws : List Keyword} {tk : TA} {p pos : Pos} (M : MkrXK X.prog X.w X.K X.mg X.base x C k ps ks gV sp) (hx : Lets X E) (hr : Room (k + 1) X.A) (hg : Gl X x) (hkw : PK X kws tk)
    (hall : (backToKw pos (keywordEach kws X.env)).all (·.1.isSome) = true := by rfl) (hks : (backToKw pos (keywordEach kws X.env)).filterMap (·.1) = ks := by rfl) (hdb : (x == ("__debug__" : Str)) = false := by decide)
    (hpl : ((backTo pos (starEach [] X.env)).any (·.1) || (backToKw pos (keywordEach kws X.env)).any (·.1.isNone)) = false := by rfl) :
    PE X (.Call (.Name x p) [] kws pos) (tMakeK C 0 ks.length sp gV E tNil tk) := by
  obtain ⟨f, fd, g, M, G, hm, hb⟩ := M.ex
  exact pe_makeK0 M G hr hg hm hb hx hkw hall hks hdb hpl
end
end Bw

namespace CM
/-! codes of numbers, as lists of signs -/
def eIx (c : Nat) : Option Nat := if 97 ≤ c ∧ c ≤ 112 then some (c - 97) else none
def fIx (c : Nat) : Option Nat := if 65 ≤ c ∧ c ≤ 80 then some (c - 65) else none
theorem eIx_end {d : Nat} (h : d < 16) : eIx (97 + d) = some d := by
  unfold eIx
  rw [if_pos ⟨by omega, by omega⟩]
  congr 1
  omega
theorem eIx_fur {d : Nat} (h : d < 16) : eIx (65 + d) = none := by
  unfold eIx
  rw [if_neg (fun z => by omega)]
theorem fIx_fur {d : Nat} (h : d < 16) : fIx (65 + d) = some d := by
  unfold fIx
  rw [if_pos ⟨by omega, by omega⟩]
  congr 1
  omega
theorem eIx_some {c d : Nat} (h : eIx c = some d) : c = 97 + d ∧ d < 16 := by
  unfold eIx at h
  split at h
  · cases h
    omega
  · cases h
theorem fIx_some {c d : Nat} (h : fIx c = some d) : c = 65 + d ∧ d < 16 := by
  unfold fIx at h
  split at h
  · cases h
    omega
  · cases h
def codeL (n : Nat) : List Nat := if n < 16 then [97 + n] else (65 + n % 16) :: codeL (n / 16)
termination_by n
decreasing_by omega
theorem codeL_lt {n : Nat} (h : n < 16) : codeL n = [97 + n] := by rw [codeL, if_pos h]
theorem codeL_ge {n : Nat} (h : 16 ≤ n) : codeL n = (65 + n % 16) :: codeL (n / 16) := by rw [codeL, if_neg (by omega)]
theorem codeL_len {k : Nat} : ∀ {n : Nat}, n < 16 ^ (k + 1) → (codeL n).length ≤ k + 1 := by
  induction k with
  | zero => intro n h; rw [codeL_lt (by simpa using h)]; simp
  | succ k ih =>
    intro n h
    rcases Nat.lt_or_ge n 16 with h1 | h1
    · rw [codeL_lt h1]; simp
    · rw [codeL_ge h1, List.length_cons]
      have : n / 16 < 16 ^ (k + 1) := by
        rw [Nat.div_lt_iff_lt_mul (by decide)]
        rw [Nat.pow_succ] at h
        exact h
      have := ih this
      omega
theorem codeL_ne {n : Nat} : codeL n ≠ [] := by
  rw [codeL]
  split <;> simp
theorem codeL_signs : ∀ {n : Nat}, ∀ c ∈ codeL n, c < 128 := by
  intro n
  induction n using Nat.strongRecOn with
  | ind n ih =>
    intro c hc
    rcases Nat.lt_or_ge n 16 with h1 | h1
    · rw [codeL_lt h1] at hc
      simp at hc
      omega
    · rw [codeL_ge h1] at hc
      rcases List.mem_cons.mp hc with h | h
      · omega
      · exact ih _ (by omega) c h
/-- the digits, the least one first -/
def digs (n : Nat) : List Nat := if n < 16 then [n] else (n % 16) :: digs (n / 16)
termination_by n
decreasing_by omega
theorem digs_lt {n : Nat} (h : n < 16) : digs n = [n] := by rw [digs, if_pos h]
theorem digs_ge {n : Nat} (h : 16 ≤ n) : digs n = (n % 16) :: digs (n / 16) := by rw [digs, if_neg (by omega)]
theorem digs_ne {n : Nat} : digs n ≠ [] := by
  rw [digs]
  split <;> simp
theorem digs_16 : ∀ {n : Nat}, ∀ d ∈ digs n, d < 16 := by
  intro n
  induction n using Nat.strongRecOn with
  | ind n ih =>
    intro c hc
    rcases Nat.lt_or_ge n 16 with h1 | h1
    · rw [digs_lt h1] at hc
      simp at hc
      omega
    · rw [digs_ge h1] at hc
      rcases List.mem_cons.mp hc with h | h
      · omega
      · exact ih _ (by omega) c h
def finL : List Nat → List Nat
  | [] => []
  | [d] => [97 + d]
  | d :: e :: r => (65 + d) :: finL (e :: r)
theorem codeL_fin : ∀ {n : Nat}, codeL n = finL (digs n) := by
  intro n
  induction n using Nat.strongRecOn with
  | ind n ih =>
    rcases Nat.lt_or_ge n 16 with h1 | h1
    · rw [codeL_lt h1, digs_lt h1]
      rfl
    · rw [codeL_ge h1, digs_ge h1, ih _ (by omega)]
      cases h : digs (n / 16) with
      | nil => exact absurd h digs_ne
      | cons d r => rfl
theorem digs_len {n : Nat} : (digs n).length = (codeL n).length := by
  rw [codeL_fin]
  generalize digs n = l
  induction l with
  | nil => rfl
  | cons d r ih =>
    cases r with
    | nil => rfl
    | cons e s => simpa [finL] using ih
theorem finL_last : ∀ {ds : List Nat} {i d : Nat}, ds[i]? = some d → i + 1 = ds.length → finL ds = (ds.take i).map (65 + ·) ++ [97 + d]
  | [], i, d, h, _ => by simp at h
  | [x], i, d, h, hl => by
    have : i = 0 := by simp at hl; omega
    subst this
    simp at h
    subst h
    rfl
  | x :: y :: r, 0, d, h, hl => by simp at hl
  | x :: y :: r, i + 1, d, h, hl => by
    have := finL_last (ds := y :: r) (i := i) (d := d) (by simpa using h) (by simpa using hl)
    simp only [finL, this, List.take_succ_cons, List.map_cons, List.cons_append]
/-- a number's code is read; i: the place -/
def rdNum : List Nat → Nat → Nat → Nat → Bool → Except Nat (Nat × Nat)
  | [], i, _, _, _ => .error i
  | c :: r, i, told, scale, fst => match eIx c with
    | some d => if d = 0 ∧ fst = false then .error i else .ok (told + scale * d, i + 1)
    | none => match fIx c with
      | some d => rdNum r (i + 1) (told + scale * d) (scale * 16) false
      | none => .error i
/-- all codes of a text are read -/
def sc : List Nat → Nat → Nat → Nat → List Nat → Except Nat (List Nat)
  | [], i, _, scale, acc => if scale = 1 then .ok acc else .error i
  | c :: r, i, num, scale, acc => match eIx c with
    | some d => if d = 0 ∧ scale ≠ 1 then .error i else sc r (i + 1) 0 1 (acc ++ [num + scale * d])
    | none => match fIx c with
      | some d => sc r (i + 1) (num + scale * d) (scale * 16) acc
      | none => .error i
theorem sc_cons (c : Nat) (r : List Nat) (i num scale : Nat) (acc : List Nat) : sc (c :: r) i num scale acc = match eIx c with
    | some d => if d = 0 ∧ scale ≠ 1 then .error i else sc r (i + 1) 0 1 (acc ++ [num + scale * d])
    | none => match fIx c with
      | some d => sc r (i + 1) (num + scale * d) (scale * 16) acc
      | none => .error i := rfl
theorem rd_cons (c : Nat) (r : List Nat) (i told scale : Nat) (fst : Bool) : rdNum (c :: r) i told scale fst = match eIx c with
    | some d => if d = 0 ∧ fst = false then .error i else .ok (told + scale * d, i + 1)
    | none => match fIx c with
      | some d => rdNum r (i + 1) (told + scale * d) (scale * 16) false
      | none => .error i := rfl
theorem rd_le : ∀ {cs : List Nat} {i told scale : Nat} {fst : Bool} {n j : Nat}, rdNum cs i told scale fst = .ok (n, j) → i < j ∧ j ≤ i + cs.length
  | [], i, told, scale, fst, n, j, h => by simp [rdNum] at h
  | c :: r, i, told, scale, fst, n, j, h => by
    unfold rdNum at h
    split at h
    · split at h
      · cases h
      · cases h
        simp
    · split at h
      · have := rd_le h
        simp only [List.length_cons]
        omega
      · cases h
theorem drop_next {t : List Nat} {i : Nat} {c : Nat} {r : List Nat} (h : t.drop i = c :: r) : t.drop (i + 1) = r := by
  rw [← List.drop_drop, h]
  rfl
theorem sc_rd {t : List Nat} : ∀ {cs : List Nat} {i num scale : Nat} {fst : Bool} {acc : List Nat}, t.drop i = cs → 0 < scale → (fst = true ↔ scale = 1) → (cs ≠ [] ∨ fst = false) →
    sc cs i num scale acc = match rdNum cs i num scale fst with
      | .error k => .error k
      | .ok (n, j) => sc (t.drop j) j 0 1 (acc ++ [n])
  | [], i, num, scale, fst, acc, ht, hs, hf, hn => by
    have h : ¬ scale = 1 := fun z => by
      have := hf.mpr z
      rcases hn with h | h
      · exact h rfl
      · rw [h] at this
        cases this
    simp [sc, rdNum, h]
  | c :: r, i, num, scale, fst, acc, ht, hs, hf, hn => by
    rw [sc_cons, rd_cons]
    cases he : eIx c with
    | some d =>
      have e : (d = 0 ∧ scale ≠ 1) ↔ (d = 0 ∧ fst = false) := by
        constructor
        · intro ⟨a, b⟩
          refine ⟨a, ?_⟩
          cases fst with
          | true => exact absurd (hf.mp rfl) b
          | false => rfl
        · intro ⟨a, b⟩
          exact ⟨a, fun z => by rw [b] at hf; exact absurd (hf.mpr z) Bool.noConfusion⟩
      by_cases hd : d = 0 ∧ fst = false
      · simp only [if_pos hd, if_pos (e.mpr hd)]
      · simp only [if_neg hd, if_neg (fun z => hd (e.mp z)), drop_next ht]
    | none =>
      cases hfx : fIx c with
      | some d =>
        simp only
        exact sc_rd (drop_next ht) (by omega) ⟨fun h => Bool.noConfusion h, fun h => by omega⟩ (.inr rfl)
      | none => rfl
theorem sc_step {t : List Nat} {i : Nat} {acc : List Nat} (h : i < t.length) : sc (t.drop i) i 0 1 acc = match rdNum (t.drop i) i 0 1 true with
      | .error k => .error k
      | .ok (n, j) => sc (t.drop j) j 0 1 (acc ++ [n]) :=
  sc_rd rfl (by omega) (by simp) (.inl (fun z => by
    have := congrArg List.length z
    simp at this
    omega))
theorem sc_end {t : List Nat} {i : Nat} {acc : List Nat} (h : t.length ≤ i) : sc (t.drop i) i 0 1 acc = .ok acc := by
  rw [List.drop_eq_nil_of_le h]
  rfl
/-- a code ahead -/
theorem sc_code {rest : List Nat} : ∀ {n i num scale : Nat} {acc : List Nat}, 0 < scale → (scale = 1 ∨ 0 < n) → sc (codeL n ++ rest) i num scale acc = sc rest (i + (codeL n).length) 0 1 (acc ++ [num + scale * n]) := by
  intro n
  induction n using Nat.strongRecOn with
  | ind n ih =>
    intro i num scale acc hs hn
    rcases Nat.lt_or_ge n 16 with h1 | h1
    · rw [codeL_lt h1]
      show sc ((97 + n) :: rest) i num scale acc = _
      rw [sc_cons, eIx_end h1]
      have : ¬ (n = 0 ∧ scale ≠ 1) := fun z => by omega
      simp only [if_neg this]
      rfl
    · rw [codeL_ge h1]
      show sc ((65 + n % 16) :: (codeL (n / 16) ++ rest)) i num scale acc = _
      rw [sc_cons, eIx_fur (by omega), fIx_fur (by omega)]
      simp only
      rw [ih (n / 16) (by omega) (by omega) (.inr (by omega)), List.length_cons]
      have e1 : i + 1 + (codeL (n / 16)).length = i + ((codeL (n / 16)).length + 1) := by omega
      have e2 : num + scale * (n % 16) + scale * 16 * (n / 16) = num + scale * n := by
        have : scale * n = scale * (16 * (n / 16) + n % 16) := by rw [Nat.div_add_mod]
        rw [this, Nat.mul_add, Nat.mul_assoc]
        omega
      rw [e1, e2]
theorem sc_all : ∀ {ns : List Nat} {i : Nat} {acc : List Nat}, sc (ns.map codeL).flatten i 0 1 acc = .ok (acc ++ ns)
  | [], i, acc => by simp [sc]
  | n :: r, i, acc => by
    rw [List.map_cons, List.flatten_cons, sc_code (by decide) (.inl rfl), sc_all]
    simp
/-- what is read is the code of what was told: pre, the signs of the number under way -/
theorem sc_only : ∀ {cs : List Nat} {i num k : Nat} {pre acc ns : List Nat}, num < 16 ^ k → (∀ m, codeL (num + 16 ^ k * m) = pre ++ codeL m ∨ (m = 0 ∧ k ≠ 0)) → sc cs i num (16 ^ k) acc = .ok ns →
    (acc.map codeL).flatten ++ pre ++ cs = (ns.map codeL).flatten
  | [], i, num, k, pre, acc, ns, hk, hp, h => by
    unfold sc at h
    split at h
    · rename_i hs
      have k0 : k = 0 := by
        rcases Nat.eq_zero_or_pos k with h | h
        · exact h
        · have : 16 ^ 1 ≤ 16 ^ k := Nat.pow_le_pow_right (by decide) h
          omega
      subst k0
      have n0 : num = 0 := by simpa using hk
      subst n0
      cases h
      have := hp 1
      rcases this with h | h
      · simp at h
        have : pre = [] := by
          have := congrArg List.length h
          simp at this
          exact this
        simp [this]
      · omega
    · cases h
  | c :: r, i, num, k, pre, acc, ns, hk, hp, h => by
    rw [sc_cons] at h
    cases he : eIx c with
    | some d =>
      rw [he] at h
      obtain ⟨hc, hd⟩ := eIx_some he
      simp only at h
      split at h
      · cases h
      · rename_i hn
        have := sc_only (num := 0) (k := 0) (pre := []) (by simp) (fun m => .inl (by simp)) (by simpa using h)
        rw [← this]
        have hcode : codeL (num + 16 ^ k * d) = pre ++ [c] := by
          rcases hp d with h | h
          · rw [h, codeL_lt hd, hc]
          · exfalso
            refine hn ⟨h.1, fun z => ?_⟩
            have : 16 ^ 1 ≤ 16 ^ k := Nat.pow_le_pow_right (by decide) (by omega)
            omega
        simp [hcode]
    | none =>
      rw [he] at h
      cases hfx : fIx c with
      | none => rw [hfx] at h; cases h
      | some d =>
        rw [hfx] at h
        obtain ⟨hc, hd⟩ := fIx_some hfx
        simp only at h
        have e : 16 ^ k * 16 = 16 ^ (k + 1) := (Nat.pow_succ ..).symm
        rw [e] at h
        have hb : num + 16 ^ k * d < 16 ^ (k + 1) := by
          rw [← e]
          have : 16 ^ k * d ≤ 16 ^ k * 15 := Nat.mul_le_mul_left _ (by omega)
          omega
        have := sc_only (pre := pre ++ [c]) hb (fun m => ?_) h
        · rw [← this]
          simp
        · rcases Nat.eq_zero_or_pos m with h0 | h0
          · exact .inr ⟨h0, by omega⟩
          · refine .inl ?_
            have e2 : num + 16 ^ k * d + 16 ^ (k + 1) * m = num + 16 ^ k * (d + 16 * m) := by
              rw [← e, Nat.mul_add, Nat.mul_assoc]
              omega
            rw [e2]
            rcases hp (d + 16 * m) with h | h
            · rw [h, codeL_ge (by omega), hc]
              have e3 : (d + 16 * m) % 16 = d := by omega
              have e4 : (d + 16 * m) / 16 = m := by omega
              rw [e3, e4]
              simp
            · omega
theorem sc_unique {cs ns : List Nat} (h : sc cs 0 0 1 [] = .ok ns) : cs = (ns.map codeL).flatten := by
  have := sc_only (num := 0) (k := 0) (pre := []) (by simp) (fun m => .inl (by simp)) (by simpa using h)
  simpa using this
end CM

namespace CM
/-! rising lists and their gaps; b: the least number that may come -/
def gapsN : Nat → List Nat → List Nat
  | _, [] => []
  | b, n :: r => (n - b) :: gapsN (n + 1) r
def unGap : Nat → List Nat → List Nat
  | _, [] => []
  | b, g :: r => (b + g) :: unGap (b + g + 1) r
def Rising : Nat → List Nat → Prop
  | _, [] => True
  | b, n :: r => b ≤ n ∧ Rising (n + 1) r
theorem un_gaps : ∀ {b : Nat} {ns : List Nat}, Rising b ns → unGap b (gapsN b ns) = ns
  | _, [], _ => rfl
  | b, n :: r, h => by
    have e : b + (n - b) = n := by have := h.1; omega
    simp only [gapsN, unGap, e, un_gaps h.2]
theorem gaps_un : ∀ {b : Nat} {gs : List Nat}, gapsN b (unGap b gs) = gs
  | _, [] => rfl
  | b, g :: r => by
    have e : b + g - b = g := by omega
    simp only [unGap, gapsN, e, gaps_un]
theorem rising_un : ∀ {b : Nat} {gs : List Nat}, Rising b (unGap b gs)
  | _, [] => trivial
  | b, g :: r => ⟨by omega, rising_un⟩
theorem gaps_le : ∀ {b : Nat} {ns : List Nat} {c : Nat}, (∀ n ∈ ns, n < c) → ∀ g ∈ gapsN b ns, g < c
  | _, [], c, _, g, hg => by simp [gapsN] at hg
  | b, n :: r, c, h, g, hg => by
    rcases List.mem_cons.mp hg with rfl | hg
    · have := h n List.mem_cons_self
      omega
    · exact gaps_le (fun m hm => h m (List.mem_cons_of_mem _ hm)) g hg
theorem gaps_len : ∀ {b : Nat} {ns : List Nat}, (gapsN b ns).length = ns.length
  | _, [] => rfl
  | b, n :: r => by simp [gapsN, gaps_len]
theorem un_len : ∀ {b : Nat} {ns : List Nat}, (unGap b ns).length = ns.length
  | _, [] => rfl
  | b, n :: r => by simp [unGap, un_len]
/-- where the next one begins -/
def nextB (b : Nat) (l : List Nat) : Nat := match l.getLast? with
  | none => b
  | some n => n + 1
theorem nextB_snoc {b : Nat} {l : List Nat} {n : Nat} : nextB b (l ++ [n]) = n + 1 := by
  unfold nextB
  rw [List.getLast?_concat]
theorem nextB_cons {b n : Nat} {l : List Nat} : nextB b (n :: l) = nextB (n + 1) l := by
  unfold nextB
  cases l with
  | nil => rfl
  | cons m r => rw [List.getLast?_cons_cons]; cases h : (m :: r).getLast? with
    | none => simp at h
    | some x => rfl
theorem un_snoc : ∀ {b : Nat} {gs : List Nat} {g : Nat}, unGap b (gs ++ [g]) = unGap b gs ++ [nextB b (unGap b gs) + g]
  | b, [], g => by simp [unGap, nextB]
  | b, h :: r, g => by
    simp only [List.cons_append, unGap, un_snoc (gs := r), nextB_cons]
theorem gaps_snoc : ∀ {b : Nat} {ns : List Nat} {n : Nat}, gapsN b (ns ++ [n]) = gapsN b ns ++ [n - nextB b ns]
  | b, [], n => by simp [gapsN, nextB]
  | b, m :: r, n => by
    simp only [List.cons_append, gapsN, gaps_snoc (ns := r), nextB_cons]
theorem rising_snoc : ∀ {b : Nat} {ns : List Nat} {n : Nat}, Rising b ns → nextB b ns ≤ n → Rising b (ns ++ [n])
  | b, [], n, _, h => ⟨by simpa [nextB] using h, trivial⟩
  | b, m :: r, n, h, h2 => ⟨h.1, rising_snoc h.2 (by rwa [nextB_cons] at h2)⟩
theorem rising_take {b : Nat} : ∀ {ns : List Nat} {i : Nat}, Rising b ns → Rising b (ns.take i) := by
  intro ns
  induction ns generalizing b with
  | nil => intro i _; simp [Rising]
  | cons m r ih =>
    intro i h
    cases i with
    | zero => exact trivial
    | succ i => exact ⟨h.1, ih h.2⟩
theorem rising_at {b : Nat} : ∀ {ns : List Nat} {i n : Nat}, Rising b ns → ns[i]? = some n → nextB b (ns.take i) ≤ n := by
  intro ns
  induction ns generalizing b with
  | nil => intro i n _ h; simp at h
  | cons m r ih =>
    intro i n h hn
    cases i with
    | zero =>
      simp at hn
      subst hn
      exact h.1
    | succ i =>
      rw [List.take_succ_cons, nextB_cons]
      exact ih h.2 (by simpa using hn)
theorem nextB_at {b : Nat} {ns : List Nat} {j n : Nat} (h : ns[j]? = some n) : nextB b (ns.take (j + 1)) = n + 1 := by
  rw [List.take_add_one, h]
  exact nextB_snoc
theorem codeL_bound : ∀ {n : Nat}, n < 16 ^ (codeL n).length := by
  intro n
  induction n using Nat.strongRecOn with
  | ind n ih =>
    rcases Nat.lt_or_ge n 16 with h | h
    · rw [codeL_lt h]
      simpa using h
    · rw [codeL_ge h, List.length_cons, Nat.pow_succ]
      have := ih (n / 16) (by omega)
      omega
theorem len_flat {ns : List Nat} {n : Nat} (h : n ∈ ns) : (codeL n).length ≤ (ns.map codeL).flatten.length := by
  induction ns with
  | nil => cases h
  | cons m r ih =>
    simp only [List.map_cons, List.flatten_cons, List.length_append]
    rcases List.mem_cons.mp h with rfl | h
    · omega
    · have := ih h
      omega
theorem count_flat (ns : List Nat) : ns.length ≤ (ns.map codeL).flatten.length := by
  induction ns with
  | nil => simp
  | cons m r ih =>
    simp only [List.map_cons, List.flatten_cons, List.length_append, List.length_cons]
    have : 0 < (codeL m).length := List.length_pos_iff.mpr codeL_ne
    omega
end CM

namespace Bw
open PySem PySem.Spec PyProof.Rows L2 LamX
/-! ### rpartition, zfill, count, int(x, 16), pop; defs with defaults, called by keywords -/
section
variable {X : Cx}
def rRpart : V → List V → Hp → VK → Prop := fun x xs H Q => ∃ a b, x = .str a ∧ xs = [.str b] ∧ (b.length == 0) = false ∧ a.length ≤ sizeLine ∧
    ∀ p, H p = none → Q (.ref p) (upd H p (.tup [.str (Txt.rpartition a b).1, .str (Txt.rpartition a b).2.1, .str (Txt.rpartition a b).2.2]))
theorem mt_rpartition : MtR X "str.rpartition" rRpart := by
  intro pins s σ H x xs v us Q I rx rs h
  obtain ⟨a, b, rfl, rfl, hb, hz, h⟩ := h
  obtain ⟨t, rfl⟩ := rx
  cases rs with
  | cons r1 rs =>
    cases rs
    obtain ⟨u, rfl⟩ := r1
    refine call_meets F.slot_str_rpartition (typeIs_str _ _ _) F.entry_str_rpartition (F.args_str_rpartition_2 _ _) (meets_str_rpartition a b t u hb hz) ?_
    unfold Txt.rpartition at h
    revert h
    cases Builtin.Str.lastOccurrence a b 0 a.length with
    | none => intro h; exact laid_parts I h
    | some i => intro h; exact laid_parts I h
def rCountS : V → List V → Hp → VK → Prop := fun x xs H Q => ∃ a b, x = .str a ∧ xs = [.str b] ∧ Q (.int (Txt.count a b)) H
theorem mt_countS : MtR X "str.count" rCountS := mt_count
def rZfill : V → List V → Hp → VK → Prop := fun x xs H Q => ∃ (a : Str) (i : Int), x = .str a ∧ xs = [.int i] ∧ PadOk i = true ∧ Q (.str (Txt.zfill a i)) H
theorem mt_zfillS : MtR X "str.zfill" rZfill := mt_zfill
theorem cl_intHex : CallR X (.type "int") rIntHex := call_int_hex
end
section
variable {K : PySem.W.Frag} {H : Hp} {Q : VK}
theorem w_rpart {x y : Str} (hy : (y.length == 0) = false) (hx : x.length ≤ sizeLine) (k : ∀ p H2, H p = none → Same H H2 → H2 p = some (.tup [.str (Txt.rpartition x y).1, .str (Txt.rpartition x y).2.1, .str (Txt.rpartition x y).2.2]) → Q (.ref p) H2) : rRpart (.str x) [.str y] H Q :=
  ⟨x, y, rfl, rfl, hy, hx, fun p n => k p _ n (same_new n) upd_same⟩
theorem w_countS {x y : Str} (q : Q (.int (Txt.count x y)) H) : rCountS (.str x) [.str y] H Q := ⟨x, y, rfl, rfl, q⟩
theorem w_zfill {x : Str} {i : Int} (h : PadOk i = true) (q : Q (.str (Txt.zfill x i)) H) : rZfill (.str x) [.int i] H Q := ⟨x, i, rfl, rfl, h, q⟩
theorem w_intHex {l : List Nat} (h0 : l ≠ []) (hl : l.length ≤ 640) (hx : ∀ c ∈ l, Hx.IsHex c) (q : Q (.int ((Hx.hexNum l : Nat) : Int)) H) : rIntHex [.str (S l), .int 16] H Q := ⟨l, rfl, h0, hl, hx, q⟩
theorem w_pop {l : Addr} {xs : List V} {y : V} (h : H l = some (.lst xs)) (hy : xs[xs.length - 1]? = some y) (k : ∀ H2, KB l H H2 → H2 l = some (.lst xs.dropLast) → Q y H2) : rPop (.ref l) [] H Q := ⟨l, xs, y, rfl, rfl, h, hy, k _ kb_upd upd_same⟩
theorem w_reverse {l : Addr} {xs : List V} (h : H l = some (.lst xs)) (k : ∀ H2, KB l H H2 → H2 l = some (.lst xs.reverse) → Q .non H2) : rReverse (.ref l) [] H Q := ⟨l, xs, rfl, rfl, h, k _ kb_upd upd_same⟩
/-- str(a number) -/
theorem w_strI {i : Int} (h : i.natAbs < 2 ^ 1919) (q : Q (.str (toString i)) H) : rStrI [.int i] H Q := ⟨i, rfl, PySem.Flt.log2_lt_of (by decide) (Nat.lt_of_lt_of_le h (Nat.pow_le_pow_right (by decide) (by decide))), q⟩
end
/-! ### rpartition by one sign -/
theorem at_one {x : Str} {c : Nat} {i : Nat} : StrLaws.At x ⟨#[c]⟩ x.length i ↔ x.cps.toList[i]? = some c := by
  rw [TL.at_iff (y := ⟨#[c]⟩) (by show ([c] : List Nat) ≠ []; simp)]
  show ((x.cps.toList.drop i).take 1 == [c]) = true ↔ _
  rw [beq_iff_eq]
  rcases Nat.lt_or_ge i x.cps.toList.length with h | h
  · rw [List.drop_eq_getElem_cons h, List.getElem?_eq_getElem h]
    simp
  · rw [List.drop_eq_nil_of_le h, List.getElem?_eq_none h]
    simp
theorem rpart_app {a b : List Nat} {c : Nat} (h : c ∉ b) : Txt.rpartition (S (a ++ c :: b)) ⟨#[c]⟩ = (S a, ⟨#[c]⟩, S b) := by
  have hA : ∀ k, a.length < k → ¬ StrLaws.At (S (a ++ c :: b)) ⟨#[c]⟩ (S (a ++ c :: b)).length k := fun k hk z => by
    rw [at_one, cps_S, List.getElem?_append_right (Nat.le_of_lt hk)] at z
    obtain ⟨m, hm⟩ : ∃ m, k - a.length = m + 1 := ⟨k - a.length - 1, by omega⟩
    rw [hm, List.getElem?_cons_succ] at z
    exact h (List.mem_of_getElem? z)
  have hB : StrLaws.At (S (a ++ c :: b)) ⟨#[c]⟩ (S (a ++ c :: b)).length a.length := by
    rw [at_one, cps_S]
    simp
  unfold Txt.rpartition
  rcases StrLaws.last_spec (S (a ++ c :: b)) ⟨#[c]⟩ with ⟨_, hn⟩ | ⟨i, e, hi, hn⟩
  · exact absurd hB (hn _)
  · have hia : i = a.length := by
      rcases Nat.lt_trichotomy i a.length with h1 | h1 | h1
      · exact absurd hB (hn _ h1)
      · exact h1
      · exact absurd hi (hA _ h1)
    subst hia
    rw [e]
    have e1 : Builtin.Str.strSub (S (a ++ c :: b)) 0 a.length = S a := str_ext (by
      show TL.tl _ = _
      rw [TL.tl_strSub]
      show ((a ++ c :: b).drop 0).take _ = a
      simp)
    have e2 : Builtin.Str.strSub (S (a ++ c :: b)) (a.length + 1) (S (a ++ c :: b)).length = S b := str_ext (by
      show TL.tl _ = _
      rw [TL.tl_strSub_end]
      show (a ++ c :: b).drop _ = b
      simp)
    show (_, _, Builtin.Str.strSub (S (a ++ c :: b)) (a.length + 1) (S (a ++ c :: b)).length) = _
    rw [e1, e2]
theorem rpart_none {a : List Nat} {c : Nat} (h : c ∉ a) : Txt.rpartition (S a) ⟨#[c]⟩ = (Str.empty, Str.empty, S a) := by
  unfold Txt.rpartition
  rcases StrLaws.last_spec (S a) ⟨#[c]⟩ with ⟨e, hn⟩ | ⟨i, e, hi, hn⟩
  · rw [e]
  · rw [at_one, cps_S] at hi
    exact absurd (List.mem_of_getElem? hi) h
theorem cnt_ge (c : Nat) : ∀ l : List Nat, 0 ≤ cnt c l
  | [] => Int.le_refl 0
  | n :: r => by
    rw [cnt_cons]
    have := cnt_ge c r
    split <;> omega
theorem cnt_mem {c : Nat} : ∀ {l : List Nat}, c ∈ l → 0 < cnt c l
  | n :: r, h => by
    rw [cnt_cons]
    have := cnt_ge c r
    rcases List.mem_cons.mp h with e | h
    · rw [if_pos e.symm]
      omega
    · have := cnt_mem h
      split <;> omega
/-! ### defs with defaults -/
/-- called by places: dvs are what is told by default behind them -/
structure FnD (P : Program) (w : World) (K : PySem.W.Frag) (mg : Str → Option Value) (base : Heap) (CX : CXT) (x : Str) (k : Nat) (ps : List Str) (dvs : List V) (sp : Sp) : Prop where
  ex : ∃ (f : Addr) (fd : FuncData) (ds : List Value), FnOk P w K mg base CX k f fd ps sp ∧ mg x = some (.ref f) ∧ PySem.W.keepIn K (.ref f) = true ∧ Binds K fd ps ds ∧ Vals dvs ds
/-- n by places, the others by the names ks -/
structure FnK (P : Program) (w : World) (K : PySem.W.Frag) (mg : Str → Option Value) (base : Heap) (CX : CXT) (x : Str) (k : Nat) (ps : List Str) (n : Nat) (ks : List Str) (gV : List V → List V → List V) (sp : Sp) : Prop where
  ex : ∃ (f : Addr) (fd : FuncData) (g : List Value → List Value → List Value), FnOk P w K mg base CX k f fd ps sp ∧ mg x = some (.ref f) ∧ PySem.W.keepIn K (.ref f) = true ∧ KBn K fd ps n ks g gV
section
variable {X : Cx}
theorem pe_fnd {CX : CXT} {E : XK} {x : Str} {k : Nat} {ps : List Str} {dvs : List V} {sp : Sp} {e : Expr} {es : List Expr} {t : TA} {p pos : Pos} (F : FnD X.prog X.w X.K X.mg X.base CX x k ps dvs sp) (hx : Passes CX X E) (hr : Room k X.A) (hg : Gl X x) (ha : PA X (e :: es) t)
    (hdb : (x == ("__debug__" : Str)) = false := by decide) (he : starEach (e :: es) X.env = (false, eval e X.env) :: starEach es X.env := by rfl) (hpl : (backTo pos (starEach es X.env)).any (·.1) = false := by rfl) :
    PE X (.Call (.Name x p) (e :: es) [] pos) (tCall sp dvs E t) := by
  obtain ⟨f, fd, ds, G, hm, hk, hb, hd⟩ := F.ex
  exact pe_call G hr hg hm hk hb hd hx ha hdb he hpl
theorem pe_fnk {CX : CXT} {E : XK} {x : Str} {k n : Nat} {ps ks : List Str} {gV : List V → List V → List V} {sp : Sp} {e : Expr} {es : List Expr} {kws : List Keyword} {t tk : TA} {p pos : Pos} (F : FnK X.prog X.w X.K X.mg X.base CX x k ps n ks gV sp) (hx : Passes CX X E) (hr : Room k X.A) (hg : Gl X x) (ha : PA X (e :: es) t) (hkw : PK X kws tk)
    (hall : (backToKw pos (keywordEach kws X.env)).all (·.1.isSome) = true := by rfl) (hks : (backToKw pos (keywordEach kws X.env)).filterMap (·.1) = ks := by rfl)
    (hdb : (x == ("__debug__" : Str)) = false := by decide) (he : starEach (e :: es) X.env = (false, eval e X.env) :: starEach es X.env := by rfl)
    (hpl : ((backTo pos (starEach (e :: es) X.env)).any (·.1) || (backToKw pos (keywordEach kws X.env)).any (·.1.isNone)) = false := by rfl) :
    PE X (.Call (.Name x p) (e :: es) kws pos) (tCallN n ks.length sp gV E t tk) := by
  obtain ⟨f, fd, g, G, hm, hk, hb⟩ := F.ex
  exact pe_callN G hr hg hm hk hb hx ha hkw hall hks hdb he hpl
end
section
variable {σ : L2.St} {H : Hp} {Q : VK}
theorem w_callD {sp : Sp} {dvs : List V} {tA : TA} {E : XK} (h : tA σ H fun vs H1 => sp (vs ++ dvs) H1 Q E) : tCall sp dvs E tA σ H Q := h
theorem w_callN {n m : Nat} {sp : Sp} {gV : List V → List V → List V} {E : XK} {t tk : TA} (h : t σ H fun vs H1 => tk σ H1 fun zs H2 => vs.length = n ∧ zs.length = m ∧ sp (gV vs zs) H2 Q E) : tCallN n m sp gV E t tk σ H Q := h
theorem w_nlen {xs ys : List V} {n m : Nat} {R : Prop} (h1 : xs.length = n) (h2 : ys.length = m) (q : R) : xs.length = n ∧ ys.length = m ∧ R := ⟨h1, h2, q⟩
end
end Bw

namespace Bw
open PySem PySem.Spec PyProof.Rows L2 LamX
/-! ### texts of whole files, plainly -/
theorem strOk_of {x : Str} (h : ∀ c ∈ x.cps.toList, c < 1114112) : PyData.strOk x = true := by
  unfold PyData.strOk
  rw [Array.all_eq_true']
  intro c hc
  exact decide_eq_true (h c (Array.mem_toList_iff.mpr hc))
/-- four figures -/
def zf (n : Nat) : List Nat := List.replicate (4 - (TL.numL n).length) 48 ++ TL.numL n
theorem num_S (n : Nat) : (Str.ofString (toString ((n : Nat) : Int))) = S (TL.numL n) := str_ext (TL.tl_num n)
theorem numL_len4 {n : Nat} (h : n ≤ 9999) : (TL.numL n).length ≤ 4 := TL.numL_len (by decide) (by omega)
theorem zf_len {n : Nat} (h : n ≤ 9999) : (zf n).length = 4 := by
  have := numL_len4 h
  unfold zf
  rw [List.length_append, List.length_replicate]
  omega
theorem zf_dig {n : Nat} : ∀ c ∈ zf n, 48 ≤ c ∧ c ≤ 57 := fun c hc => by
  unfold zf at hc
  rcases List.mem_append.mp hc with h | h
  · have := (List.mem_replicate.mp h).2
    omega
  · have := TL.numL_digits n c h
    omega
theorem zfill_num {n : Nat} : Txt.zfill (S (TL.numL n)) 4 = S (zf n) := by
  unfold Txt.zfill
  rw [len_S]
  split
  · rename_i h
    unfold zf
    rw [show 4 - (TL.numL n).length = 0 by omega]
    rfl
  · rename_i h
    unfold zfilled
    have key : Builtin.Str.padded (S (TL.numL n)) ((4 : Int).toNat - (TL.numL n).length) 0 48 = S (zf n) := str_ext (by
      show (Array.replicate _ 48 ++ (TL.numL n).toArray ++ Array.replicate 0 48).toList = zf n
      unfold zf
      simp)
    have hne := TL.numL_ne n
    have hd := TL.numL_digits n
    generalize hl : TL.numL n = l at *
    cases l with
    | nil => exact absurd rfl hne
    | cons c r =>
      have hc := hd c List.mem_cons_self
      have e : (S (c :: r)).cps[0]? = some c := rfl
      rw [e]
      split
      · rename_i z
        cases z
        exact absurd hc (by decide)
      · rename_i z
        cases z
        exact absurd hc (by decide)
      · exact key
theorem mul_zero_ok {n : Int} (h : n ≤ 4) (h0 : -10 ≤ n) : MulOk "0" n := by
  have e : ("0" : Str).length = 1 := rfl
  have hn : n = -10 ∨ n = -9 ∨ n = -8 ∨ n = -7 ∨ n = -6 ∨ n = -5 ∨ n = -4 ∨ n = -3 ∨ n = -2 ∨ n = -1 ∨ n = 0 ∨ n = 1 ∨ n = 2 ∨ n = 3 ∨ n = 4 := by omega
  rcases hn with rfl | rfl | rfl | rfl | rfl | rfl | rfl | rfl | rfl | rfl | rfl | rfl | rfl | rfl | rfl <;> (unfold MulOk; decide +kernel)
theorem mul_zero {k : Nat} (h : k ≤ 4) : Txt.mul "0" (k : Int) = S (List.replicate k 48) := by
  have hk : k = 0 ∨ k = 1 ∨ k = 2 ∨ k = 3 ∨ k = 4 := by omega
  rcases hk with rfl | rfl | rfl | rfl | rfl <;> decide +kernel
/-- rows with their ends -/
def sgn (rows : List Str) : List Nat := (rows.map fun r => r.cps.toList ++ [10]).flatten
theorem join_lines (h : Str) : ∀ rows : List Str, (Str.join ("\n" : Str) (h :: rows)).cps.toList ++ [10] = h.cps.toList ++ [10] ++ sgn rows
  | [] => by
    show h.cps.toList ++ [10] = _
    simp [sgn]
  | r :: rs => by
    have e : (Str.join ("\n" : Str) (h :: r :: rs)) = h ++ ("\n" : Str) ++ Str.join ("\n" : Str) (r :: rs) := rfl
    rw [e, cps_append, cps_append, List.append_assoc, join_lines r rs]
    have e2 : ("\n" : Str).cps.toList = [10] := rfl
    rw [e2]
    simp [sgn]
theorem sgn_len {rows : List Str} {m : Nat} (h : ∀ r ∈ rows, r.length ≤ m) : (sgn rows).length ≤ rows.length * (m + 1) := by
  induction rows with
  | nil => simp [sgn]
  | cons r rs ih =>
    have h1 := ih (fun x hx => h x (List.mem_cons_of_mem _ hx))
    have h2 := h r List.mem_cons_self
    have e : sgn (r :: rs) = r.cps.toList ++ [10] ++ sgn rs := by simp [sgn]
    rw [e, List.length_append, List.length_append, len_cps, List.length_cons (a := r), Nat.add_mul]
    simp
    omega
/-- signs ended by line feeds, split -/
theorem split_lines {hd : List Nat} {rows : List Str} (h0 : 10 ∉ hd) (hr : ∀ r ∈ rows, 10 ∉ r.cps.toList) : Txt.split (S (hd ++ [10] ++ sgn rows)) "\n" = S hd :: (rows ++ [("" : Str)]) := by
  have e : S (hd ++ [10] ++ sgn rows) = Txt.join ("\n" : Str) (S hd :: (rows ++ [("" : Str)])) := by
    refine str_ext ?_
    rw [txt_join, cps_S]
    have h1 : ∀ (a : Str) (rs : List Str), (Str.join ("\n" : Str) (a :: (rs ++ [("" : Str)]))).cps.toList = a.cps.toList ++ [10] ++ sgn rs := by
      intro a rs
      induction rs generalizing a with
      | nil =>
        show (a ++ ("\n" : Str) ++ ("" : Str)).cps.toList = _
        rw [cps_append, cps_append]
        show a.cps.toList ++ [10] ++ [] = _
        simp [sgn]
      | cons r rs ih =>
        show (a ++ ("\n" : Str) ++ Str.join ("\n" : Str) (r :: (rs ++ [("" : Str)]))).cps.toList = _
        rw [cps_append, cps_append, ih r]
        show a.cps.toList ++ [10] ++ _ = _
        simp [sgn]
    rw [h1]
    rfl
  rw [e]
  refine TL.split_join (s := 10) (S := []) rfl (by decide +kernel) (by simp) (fun p hp z => ?_)
  rcases List.mem_cons.mp hp with rfl | hp
  · exact h0 z
  · rcases List.mem_append.mp hp with hp | hp
    · exact hr p hp z
    · rw [List.mem_singleton.mp hp] at z
      exact absurd z (by show ¬ 10 ∈ ([] : List Nat); simp)
theorem sum_le {c : Nat} : ∀ {l : List Nat}, (∀ x ∈ l, x ≤ c) → l.sum ≤ l.length * c
  | [], _ => by simp
  | y :: r, h => by
    have h1 := h y List.mem_cons_self
    have h2 := sum_le (l := r) (fun x hx => h x (List.mem_cons_of_mem _ hx))
    simp only [List.sum_cons, List.length_cons, Nat.add_mul, Nat.one_mul]
    omega
theorem join_empty : ∀ rows : List Str, (Str.join ("" : Str) rows).cps.toList = (rows.map fun r => r.cps.toList).flatten
  | [] => rfl
  | [r] => by show r.cps.toList = _; simp
  | r :: s :: rs => by
    show (r ++ ("" : Str) ++ Str.join ("" : Str) (s :: rs)).cps.toList = _
    rw [cps_append, cps_append, join_empty (s :: rs)]
    show r.cps.toList ++ [] ++ _ = _
    simp
theorem sum_ones : ∀ cs : List Nat, ((cs.map fun c => (⟨#[c]⟩ : Str)).map (·.length)).sum = cs.length
  | [] => rfl
  | c :: r => by
    rw [List.map_cons, List.map_cons, List.sum_cons, sum_ones r, List.length_cons]
    show 1 + _ = _
    omega
theorem join_ones (cs : List Nat) : (Txt.join "" (cs.map fun c => (⟨#[c]⟩ : Str))).cps.toList = cs := by
  rw [txt_join, join_empty, List.map_map]
  induction cs with
  | nil => rfl
  | cons c r ih =>
    rw [List.map_cons, List.flatten_cons, ih]
    rfl
end Bw

namespace Bw
open PySem PySem.Spec PyProof.Rows L2 LamX
/-! ### x == y by an own __eq__ that lets nothing out -/
structure EqO (P : Program) (w : World) (K : PySem.W.Frag) (mg : Str → Option Value) (base : Heap) (C : Addr) (k : Nat) (ps : List Str) (sp : Sp) : Prop where
  ex : ∃ (f : Addr) (fd : FuncData), FnOk P w K mg base CX0 k f fd ps sp ∧ PySem.W.findIn K (.ref C) "__eq__" = some (some (.ref f)) ∧ PySem.W.isFn K (.ref f) = true ∧ Binds K fd ps []
/-- what may stand on the other side -/
inductive Side (K : PySem.W.Frag) (H : Hp) (C : Addr) : V → Prop
  | int (i : Int) : PySem.W.notFirst K C (.type "int") = true → Side K H C (.int i)
  | bl (b : Bool) : PySem.W.notFirst K C (.type "bool") = true → Side K H C (.bl b)
  | str (x : Str) : PySem.W.notFirst K C (.type "str") = true → Side K H C (.str x)
  | non : PySem.W.notFirst K C (.type "NoneType") = true → Side K H C .non
  | lst {a : Addr} {xs : List V} : H a = some (.lst xs) → PySem.W.notFirst K C (.type "list") = true → Side K H C (.ref a)
  | tup {a : Addr} {xs : List V} : H a = some (.tup xs) → PySem.W.notFirst K C (.type "tuple") = true → Side K H C (.ref a)
  | own {a dx : Addr} {fs : List (Str × V)} : H a = some (.ins C dx fs) → Side K H C (.ref a)
section
variable {X : Cx}
theorem side_looks {pins : List (Addr × Obj)} {σ : L2.St} {H : Hp} {s : Shared} {C : Addr} {y : V} {u : Value} (I : L2.Inv X pins σ H s) (r : RelV y u) (d : Side X.K H C y) : ∃ tb, PySem.W.Looks (model X.prog X.w) s.heap (typeOf u) tb ∧ PySem.W.notFirst X.K C tb = true := by
  cases d with
  | int i h => obtain ⟨t, rfl⟩ := r; exact ⟨_, PySem.W.Looks.of_pure rfl, h⟩
  | bl b h => cases r; exact ⟨_, PySem.W.Looks.of_pure rfl, h⟩
  | str x h => obtain ⟨t, rfl⟩ := r; exact ⟨_, PySem.W.Looks.of_pure rfl, h⟩
  | non h => cases r; exact ⟨_, PySem.W.Looks.of_pure rfl, h⟩
  | @lst a xs ea h =>
    cases (show u = Value.ref a from r)
    obtain ⟨_, _, n, _, h1⟩ := (show ObjOk X.prog X.w H s.heap a (.lst xs) from I.hok a _ ea)
    exact ⟨.type "list", fun A Q E s k q => wpAny_typeOf_ref (k _ _ h1) q, h⟩
  | @tup a xs ea h =>
    cases (show u = Value.ref a from r)
    obtain ⟨_, _, _, o, h1, h2, _⟩ := (show ObjOk X.prog X.w H s.heap a (.tup xs) from I.hok a _ ea)
    exact ⟨.type "tuple", fun A Q E s k q => wpAny_typeOf_ref (k _ _ h1) (h2 ▸ q), h⟩
  | @own a dx fs ea =>
    cases (show u = Value.ref a from r)
    obtain ⟨mB, J', _⟩ := ins_get I.hok ea
    obtain ⟨od', J', _⟩ := J'.look
    exact ⟨_, J'.type, by simp [PySem.W.notFirst]⟩
def rEqO (K : PySem.W.Frag) (C : Addr) (sp : Sp) : R2 := fun x y H Q => ∃ a dx fs, x = .ref a ∧ H a = some (.ins C dx fs) ∧ Side K H C y ∧ sp [x, y] H (fun v H' => (∃ b, v = .bl b) ∧ Q v H') C8.E0
theorem op_eqO {C : Addr} {k : Nat} {ps : List Str} {sp : Sp} (O : EqO X.prog X.w X.K X.mg X.base C k ps sp) (hr : Room k X.A) : OpR X (compareOp .Eq) (rEqO X.K C sp) := by
  intro pins s σ H x y v u Q I rx ry h
  obtain ⟨a, dx, fs, rfl, ha, hy, hsp⟩ := h
  obtain ⟨f, fd, F, hs, hf, hb⟩ := O.ex
  cases rx
  obtain ⟨tb, lk, nf⟩ := side_looks I ry hy
  obtain ⟨mA, J, _⟩ := ins_get I.hok ha
  obtain ⟨od, J, _⟩ := J.look
  obtain ⟨m, hF⟩ := I.fr
  show wpAny (model X.prog X.w) X.A (richCompare .Eq (.ref a) u) (EP X pins σ Q) X.xe s
  refine PySem.W.cmp_K (op := .Eq) hr.units0 hF I.ok.mod.kin J lk nf hs hf ?_
  have hl := F.len _ _ _ _ hsp
  have r2 : Vals [V.ref a, y] [Value.ref a, u] := .cons rfl (.cons ry .nil)
  refine wpAny_call (codeAny_mono (F.run X.A X.stack s H ⟨[.ref a, u], []⟩ [.ref a, u] [.ref a, y] _ _ hr I.env0 (by
    have := hb s [.ref a, u] I.kIn (by simpa using hl)
    simpa using this) r2 hsp) fun r s' hq => ?_)
  cases r with
  | error e => exact pass0 pins σ H s e s' I hq
  | ok fl =>
    cases fl with
    | ret w =>
      obtain ⟨z, H', I', rz, ⟨b, ez⟩, q⟩ := I.after hq
      subst ez
      cases rz
      exact ⟨.bl b, H', I', rfl, q⟩
    | next => exact False.elim hq
    | brk => exact False.elim hq
    | cont => exact False.elim hq
end
end Bw

namespace Bw
open PySem PySem.Spec PyProof.Rows L2 LamX
open PySem.W (Frag findIn subIn looks_findIn looks_subIn)
section
variable {prog : Program} {w : World} {A : Around} {E : Value → Shared → Prop} {s : Shared} {K : Frag} {x C : Addr} {ox : Obj} {od : Option Obj} {b tb : Value}
theorem ifBound_B {M : Model} {args : List Value} {name : Str} {id B : String} {Q : Option Value → Shared → Prop} (X : K.In s.heap) (I : PySem.W.InstAt s.heap x ox C od) (hs : findIn K (.ref C) name = some (some (.builtin id))) (S : Slot B name id)
    (h : wpAny M A (call (.builtin id) (.ref x :: args)) (fun v => Q (some v)) E s) : wpAny M A (callSpecialIfBound? (.ref x) name args) Q E s := by
  simp only [callSpecialIfBound?, bindSpecialIfBound?]
  refine wpAny_holding (wpAny_bind (wpAny_bind (wpAny_bind (I.type.here ((looks_findIn X hs).here ?_)))))
  simp only [S.bind]
  refine wpAny_bind (wpAny_askSetting (wpAny_ite ?_))
  have fin : wpAny M A (call (.builtin id) ([.ref x] ++ args) >>= fun v => pure (some v)) Q E s := wpAny_bind (wpAny_mono h (fun v s' h' => wpAny_pure h') fun _ _ h' => h')
  split
  · exact wpAny_bind (wpAny_pure (wpAny_pure fin))
  · exact wpAny_tryCatch (wpAny_bind (wpAny_pure (wpAny_pure fin)))
theorem check_B {M : Model} {id owner n : String} {rest : List Value} {Q : Unit → Shared → Prop} (X : K.In s.heap) (I : PySem.W.InstAt s.heap x ox C od) (hk : builtinKind id = some .slot) (hs : splitId id = some (owner, n))
    (ha : argsOk id ⟨.ref x :: rest, []⟩) (hso : subIn K (.ref C) (.type owner) = some true) (hq : Q () s) :
    wpAny M A (checkBuiltinCall id ⟨.ref x :: rest, []⟩) Q E s := by
  simp only [checkBuiltinCall, hk, hs]
  refine wpAny_bind ?_
  unfold isInstance
  refine wpAny_bind (I.type.here ?_)
  refine (looks_subIn X hso).here ?_
  cases hsig : Manifest.signature? id with
  | none => exact wpAny_pure hq
  | some sig =>
    simp only [argsOk, hsig] at ha
    have h2 : Bind.checkArgs id sig ⟨.ref x :: rest, []⟩ = pure () := ha
    show wpAny M A (Bind.checkArgs id sig ⟨.ref x :: rest, []⟩) Q E _
    rw [h2]
    exact wpAny_pure hq
/-- x != y by an own __eq__ -/
theorem ne_entry {Q : Fin → Shared → Prop} {f : Addr} (hu : A.units < cLine) (X : K.In s.heap) (I : PySem.W.InstAt s.heap x ox C od) (hs : findIn K (.ref C) "__eq__" = some (some (.ref f))) (hf : PySem.W.isFn K (.ref f) = true)
    (h : wpAny (model prog w) A (call (.ref f) [.ref x, b]) (fun v s' => ∃ k, v = .bool k ∧ Q (.done (.ret (.bool (!k)))) s') E s) : wpAny (model prog w) A (Builtin.«object.__ne__» ⟨[.ref x, b], []⟩) Q E s := by
  unfold Builtin.«object.__ne__»
  refine wpAny_bind (wpAny_pure ?_)
  refine wpAny_bind (wpAny_cRoomFor hu ?_)
  refine wpAny_bind (PySem.W.ifBound_K X I hs hf ?_)
  refine wpAny_mono h (fun v s' hv => ?_) (fun _ _ e => e)
  obtain ⟨k, rfl, q⟩ := hv
  refine wpAny_bind (wpAny_truthy_bool ?_)
  exact wpAny_pure q
theorem cmp_ne {Q : Value → Shared → Prop} {f : Addr} {m : Str → Option Value} {L : Addr} {h₀ : Heap} (hu : A.units + 1 < cLine) (G : Fr h₀ L s.heap m) (X₀ : K.In h₀) (I : PySem.W.InstAt s.heap x ox C od) (hb : PySem.W.Looks (model prog w) s.heap (typeOf b) tb) (hn : PySem.W.notFirst K C tb = true)
    (hne : findIn K (.ref C) "__ne__" = some (some (.builtin "object.__ne__"))) (hso : subIn K (.ref C) (.type "object") = some true) (hs : findIn K (.ref C) "__eq__" = some (some (.ref f))) (hf : PySem.W.isFn K (.ref f) = true)
    (h : wpAny (model prog w) A.in1 (call (.ref f) [.ref x, b]) (fun v s' => ∃ k, v = .bool k ∧ Q (.bool (!k)) s') E s) : wpAny (model prog w) A (richCompare .NotEq (.ref x) b) Q E s := by
  have X := X₀.keeps G.keep
  have hu0 : A.units < cLine := by omega
  have one : wpAny (model prog w) A (tryCompare (.ref x) (cmpInfo .NotEq).2.1 b) (fun r s' => ∃ v, r = some v ∧ Q v s') E s := by
    unfold tryCompare
    refine wpAny_bind (ifBound_B X I hne PySem.F.slot_object_ne (wpAny_call (codeAny_call_builtin PySem.F.slot_object_ne.plain PySem.F.cmpEntry_ne (check_B X I PySem.F.cmpKind_ne PySem.F.cmpSplit_ne (PySem.F.cmpArgs_ne _ _) hso (ne_entry (A := A.in1) hu X I hs hf ?_)))))
    refine wpAny_mono h (fun v s' hv => ?_) fun _ _ e => e
    obtain ⟨k, rfl, q⟩ := hv
    exact ⟨k, rfl, wpAny_pure ⟨_, rfl, q⟩⟩
  unfold richCompare
  simp only [oneThing_ref]
  refine wpAny_holding (wpAny_bind (wpAny_cRoomFor hu0 ?_))
  refine wpAny_bind (I.type.here (wpAny_bind (hb.here ?_)))
  split
  · rename_i q
    have e : subIn K tb (.ref C) = some false := by
      rcases Bool.or_eq_true_iff.mp hn with e | e
      · rw [beq_iff_eq.mp e] at q; simp at q
      · exact beq_iff_eq.mp e
    refine wpAny_bind ((looks_subIn X e).here ?_)
    simp only [Bool.false_eq_true, if_false]
    refine wpAny_bind (wpAny_mono one (fun r s' z => ?_) fun _ _ e => e)
    obtain ⟨v, rfl, hq⟩ := z
    exact wpAny_pure hq
  · refine wpAny_bind (wpAny_pure ?_)
    simp only [Bool.false_eq_true, if_false]
    refine wpAny_bind (wpAny_mono one (fun r s' z => ?_) fun _ _ e => e)
    obtain ⟨v, rfl, hq⟩ := z
    exact wpAny_pure hq
end
end Bw

/-! == of own objects, and of lists of such: either answer -/
namespace Bw
open PySem PySem.Spec PySem.SeqAt PyProof.Rows L2 LamX
open AutoSeq1 (wpAny_loadPart')
open MeetsSeq MeetsSeq2 MeetsSeq3 SeqRoads2
section
variable {prog : Program} {w : World} {A : Around} {R : Result → Shared → Prop}
/-- at each turn the two lists are read anew -/
def ListB (prog : Program) (w : World) (A : Around) (E : Value → Shared → Prop) (l b : Addr) (N : Nat) (bs : Nat → Bool) (I : Shared → Prop) : Prop :=
  ∀ s, I s → ∃ (items items2 : Array Value) (n n2 : Nat), s.heap.get? l = some { cls := .type "list", data := .seq items n } ∧ s.heap.get? b = some { cls := .type "list", data := .seq items2 n2 } ∧ items.size = N ∧ items2.size = N ∧
    ∀ i (h1 : i < items.size) (h2 : i < items2.size), wpAny (model prog w) A.in1 (eqBool items[i] items2[i]) (fun r s' => r = bs i ∧ I s') E s
theorem eq_loopB (l b : Addr) (N : Nat) (bs : Nat → Bool) (I : Shared → Prop) (hl : ListB prog w A (fun e s' => R (.error e) s') l b N bs I)
    (fin : ∀ s, I s → R (.ok (.ret (.bool ((List.range N).all bs)))) s) (k : Nat) :
    ∀ i : Nat, N - i = k → i ≤ N → (∀ j, j < i → bs j = true) → ∀ s, I s →
      wpAny (model prog w) A.in1 (Builtin.«list.__eq__.loop» ⟨[.ref l, .ref b, rawInt i, rawInt 2], []⟩) (GQ.FinOf prog w A R) (fun e s' => R (.error e) s') s := by
  induction k with
  | zero =>
    intro i hk hi hbs s h
    obtain ⟨items, items2, n, n2, hl1, hb1, hs1, hs2, _⟩ := hl _ h
    have hi' : i = N := by omega
    have hall : (List.range N).all bs = true := by
      rw [List.all_eq_true]
      intro x hx
      exact hbs x (by rw [hi']; exact List.mem_range.mp hx)
    have hR : R (.ok (.ret (.bool true))) s := hall ▸ fin s h
    obtain ⟨hp, g, d, tk, os⟩ := s
    wp_walk using wpAny_loadPart' hl1, wpAny_loadPart' hb1
    have hi1 : items[((i : Nat) : Int).toNat]? = none := by simp; omega
    have hi2 : items2[((i : Nat) : Int).toNat]? = none := by simp; omega
    rw [hi1, hi2]
    wp_walk using wpAny_loadPart' hl1, wpAny_loadPart' hb1
    show R (.ok (.ret (.bool (items.size == items2.size)))) _
    rw [hs1, hs2]
    simpa using hR
  | succ k ih =>
    intro i hk hi hbs s h
    obtain ⟨items, items2, n, n2, hl1, hb1, hs1, hs2, turn⟩ := hl _ h
    have hlt : i < items.size := by omega
    have hlt2 : i < items2.size := by omega
    have ht := turn i hlt hlt2
    obtain ⟨hp, g, d, tk, os⟩ := s
    wp_walk using wpAny_loadPart' hl1, wpAny_loadPart' hb1
    have hi1 : items[((i : Nat) : Int).toNat]? = some items[i] := by simp [hlt]
    have hi2 : items2[((i : Nat) : Int).toNat]? = some items2[i] := by simp [hlt2]
    have hc : ((i : Int) + 1) = ((i + 1 : Nat) : Int) := by omega
    rw [hi1, hi2]
    refine wpAny_bind (wpAny_mono ht (fun r s2 h2 => ?_) fun _ _ x => x)
    obtain ⟨hr, h2⟩ := h2
    cases hb : bs i with
    | true =>
      rw [hb] at hr
      subst hr
      have hrec := ih (i + 1) (by omega) (by omega) (fun j hj => by
        rcases Nat.lt_or_eq_of_le (Nat.le_of_lt_succ hj) with h | h
        · exact hbs j h
        · exact h ▸ hb) s2 h2
      obtain ⟨hp2, g2, d2, tk2, os2⟩ := s2
      wp_walk
      rw [hc]
      exact ⟨plainId_quiet plain_eq_loop _, codeAny_builtin entry_eq_loop (by
        rw [Around.under_plainId plain_eq_loop _]
        exact hrec)⟩
    | false =>
      rw [hb] at hr
      subst hr
      obtain ⟨itemsB, items2B, nB, n2B, hl1B, hb1B, hs1B, hs2B, _⟩ := hl _ h2
      have hi1B : itemsB[((i : Nat) : Int).toNat]? = some (itemsB[i]'(by omega)) := by
        have : i < itemsB.size := by omega
        simp [this]
      have hi2B : items2B[((i : Nat) : Int).toNat]? = some (items2B[i]'(by omega)) := by
        have : i < items2B.size := by omega
        simp [this]
      have hall : (List.range N).all bs = false := by
        rw [Bool.eq_false_iff]
        intro z
        rw [List.all_eq_true] at z
        have := z i (List.mem_range.mpr (by omega))
        rw [hb] at this
        cases this
      have hR : R (.ok (.ret (.bool false))) s2 := hall ▸ fin s2 h2
      obtain ⟨hp2, g2, d2, tk2, os2⟩ := s2
      wp_walk using wpAny_loadPart' hl1B, wpAny_loadPart' hb1B
      rw [hi1B, hi2B]
      wp_walk
      exact hR
theorem list_eqB (l b : Addr) (N : Nat) (bs : Nat → Bool) (I : Shared → Prop) (hl : ListB prog w A (fun e s' => R (.error e) s') l b N bs I)
    (fin : ∀ s, I s → R (.ok (.ret (.bool ((List.range N).all bs)))) s) {s : Shared} (h : I s) :
    wpAny (model prog w) A.in1 (Builtin.«list.__eq__» ⟨[.ref l, .ref b], []⟩) (GQ.FinOf prog w A R) (fun e s' => R (.error e) s') s := by
  obtain ⟨items, items2, n, n2, hl1, hb1, hs1, hs2, _⟩ := hl _ h
  have hrec := eq_loopB (A := A) (R := R) l b N bs I hl fin _ 0 rfl (Nat.zero_le _) (fun j hj => absurd hj (Nat.not_lt_zero _)) s h
  obtain ⟨hp, g, d, tk, os⟩ := s
  have f3 := AutoSeq1.sub_list_list
  have hne : ¬ (items.size != items2.size) = true := by simp [hs1, hs2]
  wp_walk using wpAny_loadPart' hl1, wpAny_loadPart' hb1
  exact ⟨plainId_quiet plain_eq_loop _, codeAny_builtin entry_eq_loop (by
    rw [Around.under_plainId plain_eq_loop _]
    exact hrec)⟩
/-- x in l -/
def ContB (prog : Program) (w : World) (A : Around) (E : Value → Shared → Prop) (l : Addr) (x : Value) (N : Nat) (bs : Nat → Bool) (I : Shared → Prop) : Prop :=
  ∀ s, I s → ∃ (items : Array Value) (n : Nat), s.heap.get? l = some { cls := .type "list", data := .seq items n } ∧ items.size = N ∧
    ∀ i (h1 : i < items.size), wpAny (model prog w) A.in1 (eqBool items[i] x) (fun r s' => r = bs i ∧ I s') E s
theorem cont_loopB (l : Addr) (x : Value) (N : Nat) (bs : Nat → Bool) (I : Shared → Prop) (hl : ContB prog w A (fun e s' => R (.error e) s') l x N bs I)
    (fin : ∀ s, I s → R (.ok (.ret (.bool ((List.range N).any bs)))) s) (k : Nat) :
    ∀ i : Nat, N - i = k → i ≤ N → (∀ j, j < i → bs j = false) → ∀ s, I s →
      wpAny (model prog w) A.in1 (Builtin.«list.__contains__.loop» ⟨[.ref l, x, rawInt i], []⟩) (GQ.FinOf prog w A R) (fun e s' => R (.error e) s') s := by
  induction k with
  | zero =>
    intro i hk hi hbs s h
    obtain ⟨items, n, hl1, hs1, _⟩ := hl _ h
    have hi' : i = N := by omega
    have hall : (List.range N).any bs = false := by
      rw [List.any_eq_false]
      intro x hx
      rw [hbs x (by rw [hi']; exact List.mem_range.mp hx)]
      exact Bool.false_ne_true
    have hR : R (.ok (.ret (.bool false))) s := hall ▸ fin s h
    obtain ⟨hp, g, d, tk, os⟩ := s
    wp_walk using wpAny_loadPart' hl1
    have hi1 : items[((i : Nat) : Int).toNat]? = none := by simp; omega
    rw [hi1]
    wp_walk
    exact hR
  | succ k ih =>
    intro i hk hi hbs s h
    obtain ⟨items, n, hl1, hs1, turn⟩ := hl _ h
    have hlt : i < items.size := by omega
    have ht := turn i hlt
    obtain ⟨hp, g, d, tk, os⟩ := s
    wp_walk using wpAny_loadPart' hl1
    have hi1 : items[((i : Nat) : Int).toNat]? = some items[i] := by simp [hlt]
    have hc : ((i : Int) + 1) = ((i + 1 : Nat) : Int) := by omega
    rw [hi1]
    refine wpAny_bind (wpAny_mono ht (fun r s2 h2 => ?_) fun _ _ x => x)
    obtain ⟨hr, h2⟩ := h2
    cases hb : bs i with
    | true =>
      rw [hb] at hr
      subst hr
      have hall : (List.range N).any bs = true := by
        rw [List.any_eq_true]
        exact ⟨i, List.mem_range.mpr (by omega), hb⟩
      have hR : R (.ok (.ret (.bool true))) s2 := hall ▸ fin s2 h2
      obtain ⟨hp2, g2, d2, tk2, os2⟩ := s2
      wp_walk
      exact hR
    | false =>
      rw [hb] at hr
      subst hr
      have hrec := ih (i + 1) (by omega) (by omega) (fun j hj => by
        rcases Nat.lt_or_eq_of_le (Nat.le_of_lt_succ hj) with h | h
        · exact hbs j h
        · exact h ▸ hb) s2 h2
      obtain ⟨hp2, g2, d2, tk2, os2⟩ := s2
      wp_walk
      rw [hc]
      exact ⟨plainId_quiet plain_contains_loop _, codeAny_builtin entry_contains_loop (by
        rw [Around.under_plainId plain_contains_loop _]
        exact hrec)⟩
theorem list_contB (l : Addr) (x : Value) (N : Nat) (bs : Nat → Bool) (I : Shared → Prop) (hl : ContB prog w A (fun e s' => R (.error e) s') l x N bs I)
    (fin : ∀ s, I s → R (.ok (.ret (.bool ((List.range N).any bs)))) s) {s : Shared} (h : I s) :
    wpAny (model prog w) A.in1 (Builtin.«list.__contains__» ⟨[.ref l, x], []⟩) (GQ.FinOf prog w A R) (fun e s' => R (.error e) s') s := by
  obtain ⟨items, n, hl1, hs1, _⟩ := hl _ h
  have hrec := cont_loopB (A := A) (R := R) l x N bs I hl fin _ 0 rfl (Nat.zero_le _) (fun j hj => absurd hj (Nat.not_lt_zero _)) s h
  obtain ⟨hp, g, d, tk, os⟩ := s
  wp_walk using wpAny_loadPart' hl1
  exact ⟨plainId_quiet plain_contains_loop _, codeAny_builtin entry_contains_loop (by
    rw [Around.under_plainId plain_contains_loop _]
    exact hrec)⟩
end
section
variable {prog : Program} {w : World} {A : Around} {E : Value → Shared → Prop} {s : Shared}
theorem rc_listB {l b : Addr} {N : Nat} {bs : Nat → Bool} {Q : Value → Shared → Prop} (hu : A.units < cLine) (I : Shared → Prop) (hl : ListB prog w A E l b N bs I)
    (fin : ∀ s, I s → Q (.bool ((List.range N).all bs)) s) (h : I s) : wpAny (model prog w) A (richCompare .Eq (.ref l) (.ref b)) Q E s := by
  obtain ⟨items, items2, n, n2, hl1, hb1, _, _, _⟩ := hl _ h
  refine wpAny_richCompare_same_room (op := .Eq) ⟨_, hl1, rfl⟩ ⟨_, hb1, rfl⟩ F.slot_list_eq (GQ.call_here F.slot_list_eq ⟨_, hl1, rfl⟩ F.entry_list_eq (F.args_list_eq_2 _ _) ?_) hu
  exact list_eqB (R := wants (fun v s' => v ≠ .notImplemented ∧ Q v s') E) l b N bs I hl (fun s' q => ⟨(fun x => nomatch x), fin s' q⟩) h
theorem rc_listD {l b : Addr} {items items2 : Array Value} {n n2 : Nat} {Q : Value → Shared → Prop} (hu : A.units < cLine) (hl : s.heap.get? l = some { cls := .type "list", data := .seq items n }) (hb : s.heap.get? b = some { cls := .type "list", data := .seq items2 n2 }) (hne : items.size ≠ items2.size)
    (fin : Q (.bool false) s) : wpAny (model prog w) A (richCompare .Eq (.ref l) (.ref b)) Q E s := by
  refine wpAny_richCompare_same_room (op := .Eq) ⟨_, hl, rfl⟩ ⟨_, hb, rfl⟩ F.slot_list_eq ?_ hu
  exact call_meets F.slot_list_eq ⟨_, hl, rfl⟩ F.entry_list_eq (F.args_list_eq_2 _ _) (list_eq_lengthsAt l b items items2 n n2 none none #[] #[] (by simp [hne])) ⟨hl, hb, (fun x => nomatch x), fin⟩
end
end Bw

/-! == by own __eq__ over the layer: either answer; !=, in, lists of own objects -/
namespace Bw
open PySem PySem.Spec PyProof.Rows L2 LamX
/-- x == y answers b, by the abstract heap -/
abbrev Eqb := V → V → Hp → Bool → Prop
def MonB (D : Eqb) : Prop := ∀ x y H H' b, Same H H' → D x y H b → D x y H' b
def EqbX (X : Cx) (n : Nat) (D : Eqb) : Prop :=
  ∀ (A : Around) (pins : List (Addr × Obj)) (s : Shared) (σ : L2.St) (H : Hp) (x y : V) (u v : Value) (b : Bool), Sub X n A → Inv X pins σ H s → RelV x u → RelV y v → D x y H b →
    wpAny (model X.prog X.w) A (eqBool u v) (fun r s' => r = b ∧ ∃ H', Inv X pins σ H' s' ∧ Same H H') X.xe s
def RcbX (X : Cx) (n : Nat) (D : Eqb) : Prop :=
  ∀ (A : Around) (pins : List (Addr × Obj)) (s : Shared) (σ : L2.St) (H : Hp) (x y : V) (u v : Value) (b : Bool), Sub X n A → Inv X pins σ H s → RelV x u → RelV y v → D x y H b →
    wpAny (model X.prog X.w) A (richCompare .Eq u v) (fun r s' => r = .bool b ∧ ∃ H', Inv X pins σ H' s' ∧ Same H H') X.xe s
section
variable {X : Cx} {n m : Nat} {D D' : Eqb}
theorem EqbX.mono (h : EqbX X n D) (hn : n ≤ m) : EqbX X m D := fun A pins s σ H x y u v b sb => h A pins s σ H x y u v b (sb.mono hn)
theorem RcbX.mono (h : RcbX X n D) (hn : n ≤ m) : RcbX X m D := fun A pins s σ H x y u v b sb => h A pins s σ H x y u v b (sb.mono hn)
theorem RcbX.or (h : RcbX X n D) (h' : RcbX X n D') : RcbX X n (fun x y H b => D x y H b ∨ D' x y H b) := fun A pins s σ H x y u v b sb I rx ry d =>
  d.elim (h A pins s σ H x y u v b sb I rx ry) (h' A pins s σ H x y u v b sb I rx ry)
theorem EqbX.or (h : EqbX X n D) (h' : EqbX X n D') : EqbX X n (fun x y H b => D x y H b ∨ D' x y H b) := fun A pins s σ H x y u v b sb I rx ry d =>
  d.elim (h A pins s σ H x y u v b sb I rx ry) (h' A pins s σ H x y u v b sb I rx ry)
/-- data -/
def BData (K : PySem.W.Frag) : Eqb := fun x y H b => ∃ d e, Dp K H x d ∧ Dp K H y e ∧ SeqAt.shaped d = true ∧ SeqAt.shaped e = true ∧ PyData.eqv d e = b
theorem rcb_data : RcbX X 1 (BData X.K) := by
  intro A pins s σ H x y u v b sb I rx ry hd
  obtain ⟨d, e, hx, hy, sd, se, rfl⟩ := hd
  obtain ⟨as, r1⟩ := Dp.reads I d x u hx rx
  obtain ⟨bs, r2⟩ := Dp.reads I e y v hy ry
  exact SeqAt.compareEq_shaped r1 r2 sd se sb.room.units ⟨rfl, H, I, fun _ _ h => h⟩
theorem mon_data {K : PySem.W.Frag} : MonB (BData K) := fun x y H H' b s h => by
  obtain ⟨d, e, hx, hy, r⟩ := h
  exact ⟨d, e, same_dp s hx, same_dp s hy, r⟩
/-- the same object equals itself within lists; other ones as by == -/
def BSame (D : Eqb) : Eqb := fun x y H b => (∃ a, x = .ref a ∧ y = .ref a ∧ b = true) ∨ ((∃ a c, x = .ref a ∧ y = .ref c ∧ a ≠ c) ∧ D x y H b)
theorem RcbX.eqb (h : RcbX X n D) : EqbX X n (BSame D) := by
  intro A pins s σ H x y u v b sb I rx ry d
  rcases d with ⟨a, rfl, rfl, rfl⟩ | ⟨⟨a, c, rfl, rfl, hne⟩, d⟩
  · cases rx
    cases ry
    exact SeqAt.EqAt.same (A := A) (s := s) (.ref a) X.prog X.w X.xe _ ⟨rfl, H, I, fun _ _ h => h⟩
  · cases rx
    cases ry
    refine GQ.eqBool_refG hne (wpAny_mono (h A pins s σ H (.ref a) (.ref c) _ _ b sb I rfl rfl d) (fun r s' q => ?_) fun _ _ x => x)
    obtain ⟨hr', q⟩ := q
    exact ⟨b, hr', rfl, q⟩
theorem mon_same (h : MonB D) : MonB (BSame D) := fun x y H H' b s d => d.imp id fun ⟨e, d⟩ => ⟨e, h x y H H' b s d⟩
/-- own objects of the class C -/
def BIns (K : PySem.W.Frag) (C : Addr) (R : Addr → V → Hp → Bool → Prop) : Eqb := fun x y H b => ∃ a dx fs, x = .ref a ∧ H a = some (.ins C dx fs) ∧ Side K H C y ∧ R a y H b
def spEqb (R : Addr → V → Hp → Bool → Prop) : Sp := fun vs H Q _ => ∃ a y b, vs = [.ref a, y] ∧ R a y H b ∧ ∀ H', Same H H' → Q (.bl b) H'
theorem Side.same {K : PySem.W.Frag} {H H' : Hp} {C : Addr} {y : V} (h : Side K H C y) (s : Same H H') : Side K H' C y := by
  cases h with
  | int i h => exact .int i h
  | bl b h => exact .bl b h
  | str x h => exact .str x h
  | non h => exact .non h
  | lst e h => exact .lst (s _ _ e) h
  | tup e h => exact .tup (s _ _ e) h
  | own e => exact .own (s _ _ e)
theorem mon_ins' {K : PySem.W.Frag} {C : Addr} {R : Addr → V → Hp → Bool → Prop} (hR : ∀ a y H H' b, Same H H' → R a y H b → R a y H' b) : MonB (BIns K C R) := fun x y H H' b s d => by
  obtain ⟨a, dx, fs, e, h, sd, r⟩ := d
  exact ⟨a, dx, fs, e, s _ _ h, sd.same s, hR a y H H' b s r⟩
theorem rcb_ins {C : Addr} {ps : List Str} {R : Addr → V → Hp → Bool → Prop} (O : EqO X.prog X.w X.K X.mg X.base C n ps (spEqb R)) : RcbX X n (BIns X.K C R) := by
  intro A pins s σ H x y u v b sb I rx ry d
  obtain ⟨a, dx, fs, rfl, ha, hy, hR⟩ := d
  obtain ⟨f, fd, F, hs, hf, hb⟩ := O.ex
  cases rx
  obtain ⟨tb, lk, nf⟩ := side_looks I ry hy
  obtain ⟨mA, J, _⟩ := ins_get I.hok ha
  obtain ⟨od, J, _⟩ := J.look
  obtain ⟨m, hF⟩ := I.fr
  refine PySem.W.cmp_K (op := .Eq) sb.room.units0 hF I.ok.mod.kin J lk nf hs hf ?_
  have hsp : spEqb R [.ref a, y] H (fun v H' => v = .bl b ∧ Same H H') C8.E0 := ⟨a, y, b, rfl, hR, fun H' e => ⟨rfl, e⟩⟩
  have e0 : Env0 X.prog X.w X.K X.mg X.base A X.stack s H := by
    have e := I.env0
    exact ⟨by rw [sb.fr]; exact e.frames, e.mod, e.bs, e.bsz, e.funs, e.frf, e.hok, e.bare⟩
  have hl := F.len _ _ _ _ hsp
  have r2 : Vals [V.ref a, y] [Value.ref a, v] := .cons rfl (.cons ry .nil)
  refine wpAny_call (codeAny_mono (F.run A X.stack s H ⟨[.ref a, v], []⟩ [.ref a, v] [.ref a, y] _ _ sb.room e0 (by
    have := hb s [.ref a, v] I.kIn (by simpa using hl)
    simpa using this) r2 hsp) fun r s' hq => ?_)
  cases r with
  | error e => exact pass0 pins σ H s e s' I hq
  | ok fl =>
    cases fl with
    | ret w =>
      obtain ⟨z, H', I', rz, ez, ex⟩ := I.after hq
      subst ez
      cases rz
      exact ⟨rfl, H', I', ex⟩
    | next => exact False.elim hq
    | brk => exact False.elim hq
    | cont => exact False.elim hq
/-- lists -/
def BList (D : Eqb) : Eqb := fun x y H b => ∃ a c xs ys, x = .ref a ∧ y = .ref c ∧ H a = some (.lst xs) ∧ H c = some (.lst ys) ∧
  ((xs.length ≠ ys.length ∧ b = false) ∨ (xs.length = ys.length ∧ ∃ bs : Nat → Bool, (∀ i x y, xs[i]? = some x → ys[i]? = some y → D x y H (bs i)) ∧ b = (List.range xs.length).all bs))
theorem mon_list' (h : MonB D) : MonB (BList D) := fun x y H H' b s d => by
  obtain ⟨a, c, xs, ys, e1, e2, h1, h2, d⟩ := d
  refine ⟨a, c, xs, ys, e1, e2, s _ _ h1, s _ _ h2, d.imp id fun ⟨l, bs, hb, e⟩ => ⟨l, bs, fun i x y k1 k2 => h x y H H' _ s (hb i x y k1 k2), e⟩⟩
def LoopB (X : Cx) (pins : List (Addr × Obj)) (σ : L2.St) (H : Hp) (s' : Shared) : Prop := ∃ H', Inv X pins σ H' s' ∧ Same H H'
theorem turnB (hD : MonB D) (h : EqbX X n D) {A : Around} (sb : Sub X (n + 1) A) {pins : List (Addr × Obj)} {σ : L2.St} {H : Hp} {xs ys : List V} {its its2 : List Value} {bs : Nat → Bool}
    (p : ∀ i x y, xs[i]? = some x → ys[i]? = some y → D x y H (bs i)) (r : Vals xs its) (r2 : Vals ys its2)
    (i : Nat) (h1 : i < its.toArray.size) (h2 : i < its2.toArray.size) (s' : Shared) (l : LoopB X pins σ H s') :
    wpAny (model X.prog X.w) A.in1 (eqBool its.toArray[i] its2.toArray[i]) (fun r s2 => r = bs i ∧ LoopB X pins σ H s2) X.xe s' := by
  obtain ⟨H1, I1, e1⟩ := l
  have g1 : its[i]? = some its.toArray[i] := by
    have h1' : i < its.length := by simpa using h1
    rw [List.getElem?_eq_getElem h1'] <;> simp
  have g2 : its2[i]? = some its2.toArray[i] := by
    have h2' : i < its2.length := by simpa using h2
    rw [List.getElem?_eq_getElem h2'] <;> simp
  have k1 : i < xs.length := by rw [r.length]; simpa using h1
  have k2 : i < ys.length := by rw [r2.length]; simpa using h2
  obtain ⟨u, hu, ru⟩ := r.get (List.getElem?_eq_getElem k1)
  obtain ⟨v, hv, rv⟩ := r2.get (List.getElem?_eq_getElem k2)
  rw [g1] at hu
  rw [g2] at hv
  rw [Option.some.inj hu, Option.some.inj hv]
  refine wpAny_mono (h A.in1 pins s' σ H1 _ _ u v (bs i) sb.in1 I1 ru rv (hD _ _ _ _ _ e1 (p i _ _ (List.getElem?_eq_getElem k1) (List.getElem?_eq_getElem k2)))) (fun r s2 q => ?_) fun _ _ x => x
  obtain ⟨hr, H2, I2, e2⟩ := q
  exact ⟨hr, H2, I2, e1.trans e2⟩
theorem rcb_list (hD : MonB D) (h : EqbX X n D) : RcbX X (n + 1) (BList D) := by
  intro A pins s σ H x y u v b sb I rx ry d
  obtain ⟨a, c, xs, ys, rfl, rfl, ha, hc, d⟩ := d
  cases rx
  cases ry
  rcases d with ⟨hne, rfl⟩ | ⟨hl, bs, hb, rfl⟩
  · obtain ⟨z, its, k, r, e⟩ := I.hok a _ ha
    obtain ⟨z2, its2, k2, r2, e2⟩ := I.hok c _ hc
    exact rc_listD sb.room.units0 e e2 (by rw [List.size_toArray, List.size_toArray, ← r.length, ← r2.length]; exact hne) ⟨rfl, H, I, fun _ _ h => h⟩
  · refine rc_listB (N := xs.length) (bs := bs) sb.room.units0 (fun s' => LoopB X pins σ H s') (fun s' q => ?_) (fun s' q => ⟨rfl, q⟩) ⟨H, I, fun _ _ h => h⟩
    obtain ⟨H1, I1, e1⟩ := id q
    obtain ⟨z, its, k, r, e⟩ := I1.hok a _ (e1 _ _ ha)
    obtain ⟨z2, its2, k2, r2, e2⟩ := I1.hok c _ (e1 _ _ hc)
    refine ⟨its.toArray, its2.toArray, k, k2, e, e2, by rw [List.size_toArray, ← r.length], by rw [List.size_toArray, ← r2.length, hl], fun i h1 h2 => ?_⟩
    exact turnB hD h sb hb r r2 i h1 h2 s' q
/-- x == y as an expression -/
def rEqb (D : Eqb) : R2 := fun x y H Q => ∃ b, D x y H b ∧ ∀ H', Same H H' → Q (.bl b) H'
theorem op_eqb (h : RcbX X n D) (hr : Room n X.A) : OpR X (compareOp .Eq) (rEqb D) := by
  intro pins s σ H x y v u Q I rx ry hq
  obtain ⟨b, d, q⟩ := hq
  show wpAny (model X.prog X.w) X.A (richCompare .Eq v u) (EP X pins σ Q) X.xe s
  refine wpAny_mono (h X.A pins s σ H x y v u b ⟨hr, rfl⟩ I rx ry d) (fun r s' z => ?_) fun _ _ x => x
  obtain ⟨hr', H', I', e⟩ := z
  subst hr'
  exact ⟨.bl b, H', I', rfl, q H' e⟩
/-- the class's != is that of object -/
structure NeO (K : PySem.W.Frag) (C : Addr) : Prop where
  ne : PySem.W.findIn K (.ref C) "__ne__" = some (some (.builtin "object.__ne__"))
  so : PySem.W.subIn K (.ref C) (.type "object") = some true
/-- x != y by an own __eq__ -/
def rNeO (K : PySem.W.Frag) (C : Addr) (R : Addr → V → Hp → Bool → Prop) : R2 := fun x y H Q => ∃ b, BIns K C R x y H b ∧ ∀ H', Same H H' → Q (.bl (!b)) H'
theorem op_neO {C : Addr} {ps : List Str} {R : Addr → V → Hp → Bool → Prop} (O : EqO X.prog X.w X.K X.mg X.base C n ps (spEqb R)) (N : NeO X.K C) (hr : Room (n + 1) X.A) : OpR X (compareOp .NotEq) (rNeO X.K C R) := by
  intro pins s σ H x y v u Q I rx ry h
  obtain ⟨b, ⟨a, dx, fs, rfl, ha, hy, hR⟩, q⟩ := h
  obtain ⟨f, fd, F, hs, hf, hb⟩ := O.ex
  cases rx
  obtain ⟨tb, lk, nf⟩ := side_looks I ry hy
  obtain ⟨mA, J, _⟩ := ins_get I.hok ha
  obtain ⟨od, J, _⟩ := J.look
  obtain ⟨m, hF⟩ := I.fr
  show wpAny (model X.prog X.w) X.A (richCompare .NotEq (.ref a) u) (EP X pins σ Q) X.xe s
  have hu1 : X.A.units + 1 < cLine := by have := hr.units; omega
  refine cmp_ne hu1 hF I.ok.mod.kin J lk nf N.ne N.so hs hf ?_
  have hsp : spEqb R [.ref a, y] H (fun v H' => v = .bl b ∧ Same H H') C8.E0 := ⟨a, y, b, rfl, hR, fun H' e => ⟨rfl, e⟩⟩
  have sb : Sub X n X.A.in1 := Sub.in1 ⟨hr, rfl⟩
  have e0 : Env0 X.prog X.w X.K X.mg X.base X.A.in1 X.stack s H := by
    have e := I.env0
    exact ⟨by rw [sb.fr]; exact e.frames, e.mod, e.bs, e.bsz, e.funs, e.frf, e.hok, e.bare⟩
  have hl := F.len _ _ _ _ hsp
  have r2 : Vals [V.ref a, y] [Value.ref a, u] := .cons rfl (.cons ry .nil)
  refine wpAny_call (codeAny_mono (F.run X.A.in1 X.stack s H ⟨[.ref a, u], []⟩ [.ref a, u] [.ref a, y] _ _ sb.room e0 (by
    have := hb s [.ref a, u] I.kIn (by simpa using hl)
    simpa using this) r2 hsp) fun r s' hq => ?_)
  cases r with
  | error e => exact pass0 pins σ H s e s' I hq
  | ok fl =>
    cases fl with
    | ret w =>
      obtain ⟨z, H', I', rz, ez, ex⟩ := I.after hq
      subst ez
      cases rz
      exact ⟨b, rfl, .bl (!b), H', I', rfl, q H' ex⟩
    | next => exact False.elim hq
    | brk => exact False.elim hq
    | cont => exact False.elim hq
/-- x in a list -/
def rInB (D : Eqb) : R2 := fun x y H Q => ∃ l xs, y = .ref l ∧ H l = some (.lst xs) ∧ ∃ bs : Nat → Bool, (∀ i z, xs[i]? = some z → D z x H (bs i)) ∧ ∀ H', Same H H' → Q (.bl ((List.range xs.length).any bs)) H'
theorem op_inB (hD : MonB D) (h : EqbX X n D) (hr : Room (n + 1) X.A) : OpR X (compareOp .In) (rInB D) := by
  intro pins s σ H x y v u Q I rx ry hq
  obtain ⟨l, xs, rfl, hl, bs, hb, q⟩ := hq
  cases ry
  have key : ContB X.prog X.w X.A (fun e s' => wants (fun v s' => ∃ b, v = .bool b ∧ EP X pins σ Q (.bool b) s') X.xe (.error e) s') l v xs.length bs (fun s' => LoopB X pins σ H s') := by
    intro s' hI
    obtain ⟨H1, I1, e1⟩ := id hI
    obtain ⟨z, its, k, r, e⟩ := I1.hok l _ (e1 _ _ hl)
    refine ⟨its.toArray, k, e, by rw [List.size_toArray, ← r.length], fun i h1 => ?_⟩
    have h1' : i < its.length := by simpa using h1
    have g1 : its[i]? = some its.toArray[i] := by rw [List.getElem?_eq_getElem h1'] <;> simp
    have k1 : i < xs.length := by rw [r.length]; simpa using h1
    obtain ⟨u, hu, ru⟩ := r.get (List.getElem?_eq_getElem k1)
    rw [g1] at hu
    rw [Option.some.inj hu]
    refine wpAny_mono (h X.A.in1 pins s' σ H1 _ x u v (bs i) (Sub.in1 ⟨hr, rfl⟩) I1 ru rx (hD _ _ _ _ _ e1 (hb i _ (List.getElem?_eq_getElem k1)))) (fun r s2 q => ?_) fun _ _ x => x
    obtain ⟨hr, H2, I2, e2⟩ := q
    exact ⟨hr, H2, I2, e1.trans e2⟩
  obtain ⟨z, its, k, r, e⟩ := I.hok l _ hl
  show wpAny (model X.prog X.w) X.A (do return Value.bool (← contains (.ref l) v)) (EP X pins σ Q) X.xe s
  refine wpAny_bind (wpAny_contains_slot ⟨_, e, rfl⟩ F.slot_list_contains (wpAny_mono (Q := fun v s' => ∃ b, v = .bool b ∧ EP X pins σ Q (.bool b) s') (GQ.call_here F.slot_list_contains ⟨_, e, rfl⟩ F.entry_list_contains (F.args_list_contains_2 _ _)
    (list_contB (R := wants (fun v s' => ∃ b, v = .bool b ∧ EP X pins σ Q (.bool b) s') X.xe) l v xs.length bs (fun s' => LoopB X pins σ H s') key (fun s' hI => ?_) ⟨H, I, fun _ _ h => h⟩)) (fun v s' hv => ?_) fun _ _ e => e))
  · obtain ⟨H', I', e'⟩ := hI
    exact ⟨_, rfl, .bl _, H', I', rfl, q H' e'⟩
  · obtain ⟨b, rfl, hq⟩ := hv
    exact wpAny_truthy_bool (wpAny_pure hq)
end
/-! ### steps -/
section
variable {H : Hp} {Q : VK} {D : Eqb} {K : PySem.W.Frag} {x y : V}
theorem w_eqb {b : Bool} (d : D x y H b) (k : ∀ H', Same H H' → Q (.bl b) H') : rEqb D x y H Q := ⟨b, d, k⟩
theorem w_neO {C : Addr} {R : Addr → V → Hp → Bool → Prop} {b : Bool} (d : BIns K C R x y H b) (k : ∀ H', Same H H' → Q (.bl (!b)) H') : rNeO K C R x y H Q := ⟨b, d, k⟩
end
/-- either reading of an operator -/
def rOr (r r' : R2) : R2 := fun x y H Q => r x y H Q ∨ r' x y H Q
theorem op_or {X : Cx} {f : Value → Value → Sem Value} {r r' : R2} (h : OpR X f r) (h' : OpR X f r') : OpR X f (rOr r r') := fun pins s σ H x y v u Q I rx ry q =>
  q.elim (h pins s σ H x y v u Q I rx ry) (h' pins s σ H x y v u Q I rx ry)
/-- a class whose instances isinstance knows -/
structure Kls (K : PySem.W.Frag) (C : Addr) : Prop where
  cl : Cls K C
  ha : PySem.W.findIn K (.ref C) "__class__" = some (some (.builtin "object.__class__"))
  hn : PySem.W.specialIn K (.builtin "object.__class__") "__get__" = some (some (.builtin "getset_descriptor.__get__"))
  htk : PySem.W.takesIn K (.builtin "object.__class__") = some true
  hm : PySem.W.mroIn K C (.type "object") = some true
theorem Kls.ty {K : PySem.W.Frag} {H : Hp} {C a dx : Addr} {fs : List (Str × V)} (k : Kls K C) (h : H a = some (.ins C dx fs)) : TyX K H (.ref a) (.ref C) := .base (.ins h k.cl k.ha k.hn k.htk k.hm)
theorem kit_self {K : PySem.W.Frag} {C : Addr} : PySem.W.kitOne K (.ref C) (.ref C) = some true := by
  unfold PySem.W.kitOne
  rw [if_pos (beq_self_eq_true _)]
/-- no instance of C -/
def NotC (K : PySem.W.Frag) (H : Hp) (C : Addr) (y : V) : Prop := ∃ tv, TyX K H y tv ∧ PySem.W.kitOne K tv (.ref C) = some false
/-- what isinstance(x, C) says of the plain kinds -/
structure PlainNot (K : PySem.W.Frag) (C : Addr) : Prop where
  k : ∀ tv ∈ (["int", "bool", "str", "NoneType", "list", "tuple"] : List String), PySem.W.kitOne K (.type tv) (.ref C) = some false ∧ PySem.W.notFirst K C (.type tv) = true
def plainNotB (K : PySem.W.Frag) (C : Addr) : Bool := (["int", "bool", "str", "NoneType", "list", "tuple"] : List String).all fun tv => decide (PySem.W.kitOne K (.type tv) (.ref C) = some false) && PySem.W.notFirst K C (.type tv)
theorem plainNotB_ok {K : PySem.W.Frag} {C : Addr} (h : plainNotB K C = true) : PlainNot K C := ⟨fun tv ht => by
  unfold plainNotB at h
  rw [List.all_eq_true] at h
  have := h tv ht
  simp only [Bool.and_eq_true, decide_eq_true_eq] at this
  exact this⟩
theorem PlainNot.of {K : PySem.W.Frag} {H : Hp} {C : Addr} {y : V} (p : PlainNot K C) (h : Thg H y) : NotC K H C y ∧ Side K H C y := by
  cases h with
  | non => exact ⟨⟨_, tyx_non, (p.k _ (by simp)).1⟩, .non (p.k _ (by simp)).2⟩
  | int i => exact ⟨⟨_, tyx_int, (p.k _ (by simp)).1⟩, .int _ (p.k _ (by simp)).2⟩
  | bl b => exact ⟨⟨_, tyx_bl, (p.k _ (by simp)).1⟩, .bl _ (p.k _ (by simp)).2⟩
  | str x => exact ⟨⟨_, tyx_str, (p.k _ (by simp)).1⟩, .str _ (p.k _ (by simp)).2⟩
  | lst e => exact ⟨⟨_, tyx_lst e, (p.k _ (by simp)).1⟩, .lst e (p.k _ (by simp)).2⟩
  | tup e => exact ⟨⟨_, tyx_tup e, (p.k _ (by simp)).1⟩, .tup e (p.k _ (by simp)).2⟩
theorem w_isiO {K : PySem.W.Frag} {H : Hp} {C : Addr} {y : V} {tv : Value} {k : Bool} {Q : VK} (h : TyX K H y tv) (hk : PySem.W.kitOne K tv (.ref C) = some k) (q : Q (.bl k) H) : rIsi K [y, .ref C] H Q := w_isi (.own C) h hk q
end Bw

namespace Bw
open PySem PySem.Spec PyProof.Rows L2 LamX
section
variable {K : PySem.W.Frag} {H : Hp} {Q : VK}
theorem dpAll_ix : ∀ {xs : List V} {ds : List PyData}, xs.length = ds.length → (∀ (i : Nat) x d, xs[i]? = some x → ds[i]? = some d → Dp K H x d) → DpAll K H xs ds
  | [], [], _, _ => .nil
  | [], _ :: _, h, _ => by cases h
  | _ :: _, [], h, _ => by cases h
  | x :: xs, d :: ds, h, k => .cons (k 0 x d rfl rfl) (dpAll_ix (by simpa using h) fun i y e h1 h2 => k (i + 1) y e h1 h2)
theorem w_rep {l : Addr} {xs : List V} {n : Int} (h : H l = some (.lst xs)) (h0 : -1000 ≤ n) (h1 : n ≤ 100000) (hl : xs.length * n.toNat ≤ 100000) (k : ∀ p H2, H p = none → Same H H2 → H2 p = some (.lst (List.replicate n.toNat xs).flatten) → Q (.ref p) H2) : rRep (.ref l) (.int n) H Q :=
  ⟨l, n, xs, rfl, rfl, h, by omega, by omega, Nat.le_trans hl (by decide), fun p np => k p _ np (same_new np) upd_same⟩
/-- a list is the empty one -/
theorem w_eqNil {x y : V} {ds : List PyData} {n : Nat} (hx : Dp K H x (.list ds)) (hy : Dp K H y (.list [])) (g : GoodD (.list ds) n) (hn : n ≤ 64) (q : Q (.bl ds.isEmpty) H) : rEqD K x y H Q := by
  refine w_eqD hx hy (g.shaped hn) (by simp [SeqAt.shaped, PyData.canLay0, PyData.canLayAll0, PyData.depth, PyData.depthAll]) (k := ds.isEmpty) ?_ q
  cases ds <;> simp [PyData.eqv, PyData.eqvAll]
theorem w_neNil {x y : V} {ds : List PyData} {n : Nat} (hx : Dp K H x (.list ds)) (hy : Dp K H y (.list [])) (g : GoodD (.list ds) n) (hn : n ≤ 64) (q : Q (.bl (!ds.isEmpty)) H) : rNeD K x y H Q := by
  refine w_neD hx hy (g.shaped hn) (by simp [SeqAt.shaped, PyData.canLay0, PyData.canLayAll0, PyData.depth, PyData.depthAll]) (k := ds.isEmpty) ?_ q
  cases ds <;> simp [PyData.eqv, PyData.eqvAll]
/-- a reading whose answer is known, what is behind it once -/
theorem w_val {te : TE} {σ : L2.St} {v : V} {H' : Hp} (h : ∀ Q' : VK, Q' v H' → te σ H Q') (k : Q v H') : te σ H Q := h Q k
theorem tyx_same {H' : Hp} {v : V} {t : Value} (h : TyX K H v t) (s : Same H H') : TyX K H' v t := by
  cases h with
  | base h =>
    refine .base ?_
    cases h with
    | non => exact .non
    | bl x => exact .bl x
    | int i => exact .int i
    | str x => exact .str x
    | flt x => exact .flt x
    | lst e => exact .lst (s _ _ e)
    | frz e => exact .frz (s _ _ e)
    | tup e => exact .tup (s _ _ e)
    | dK e => exact .dK (s _ _ e)
    | dT e => exact .dT (s _ _ e)
    | ins e cl ha hn htk hm => exact .ins (s _ _ e) cl ha hn htk hm
  | byt b => exact .byt b
  | set e => exact .set (s _ _ e)
  | kList e c => exact .kList e c
  | kTuple e c => exact .kTuple e c
  | kDict e c => exact .kDict e c
  | fTuple e => exact .fTuple (s _ _ e)
  | fDict e => exact .fDict (s _ _ e)
end
end Bw

/-! len, str, repr by own methods -/
namespace Bw
open PySem PySem.Spec PyProof.Rows L2 LamX
/-- a class's own special method m -/
structure Spc (P : Program) (w : World) (K : PySem.W.Frag) (mg : Str → Option Value) (base : Heap) (C : Addr) (m : Str) (k : Nat) (ps : List Str) (sp : Sp) : Prop where
  ex : ∃ (f : Addr) (fd : FuncData), FnOk P w K mg base CX0 k f fd ps sp ∧ PySem.W.findIn K (.ref C) m = some (some (.ref f)) ∧ PySem.W.isFn K (.ref f) = true ∧ Binds K fd ps []
section
variable {X : Cx}
theorem run_spc {k : Nat} {f : Addr} {fd : FuncData} {ps : List Str} {sp : Sp} {A : Around} {pins : List (Addr × Obj)} {σ : L2.St} {H : Hp} {s : Shared} {a : Addr} {Q : VK} (F : FnOk X.prog X.w X.K X.mg X.base CX0 k f fd ps sp) (hb : Binds X.K fd ps []) (sb : Sub X k A) (I : L2.Inv X pins σ H s) (h : sp [.ref a] H Q C8.E0) :
    wpAny (model X.prog X.w) A (call (.ref f) [.ref a]) (EP X pins σ Q) X.xe s := by
  have e0 : Env0 X.prog X.w X.K X.mg X.base A X.stack s H := by
    have e := I.env0
    exact ⟨by rw [sb.fr]; exact e.frames, e.mod, e.bs, e.bsz, e.funs, e.frf, e.hok, e.bare⟩
  have hl := F.len _ _ _ _ h
  have r2 : Vals [V.ref a] [Value.ref a] := .cons rfl .nil
  refine wpAny_call (codeAny_mono (F.run A X.stack s H ⟨[.ref a], []⟩ [.ref a] [.ref a] _ _ sb.room e0 (by
    have := hb s [.ref a] I.kIn (by simpa using hl)
    simpa using this) r2 h) fun r s' hq => ?_)
  cases r with
  | error e => exact pass0 pins σ H s e s' I hq
  | ok fl =>
    cases fl with
    | ret w => exact I.after hq
    | next => exact False.elim hq
    | brk => exact False.elim hq
    | cont => exact False.elim hq
/-- len(o) -/
def rLenO (C : Addr) (sp : Sp) : List V → Hp → VK → Prop := fun xs H Q => ∃ a dx fs, xs = [.ref a] ∧ H a = some (.ins C dx fs) ∧ sp [.ref a] H (fun v H' => ∃ n : Nat, v = .int n ∧ n < 2 ^ 63 ∧ Q (.int n) H') C8.E0
theorem cl_lenO {C : Addr} {k : Nat} {ps : List Str} {sp : Sp} (O : Spc X.prog X.w X.K X.mg X.base C "__len__" k ps sp) (hr : Room (k + 1) X.A) : CallR X (.builtin "len") (rLenO C sp) := by
  intro pins s σ H xs us Q I rv h
  obtain ⟨a, dx, fs, rfl, ha, hsp⟩ := h
  obtain ⟨f, fd, F, hs, hf, hb⟩ := O.ex
  cases rv with
  | cons r0 rt =>
    cases rt
    cases r0
    obtain ⟨mA, J, _⟩ := ins_get I.hok ha
    obtain ⟨od, J, _⟩ := J.look
    obtain ⟨m, hF⟩ := I.fr
    refine PySem.W.len_K hF I.ok.mod.kin J hs hf (wpAny_mono (run_spc F hb (Sub.in1 ⟨hr, rfl⟩) I hsp) (fun u s' hq => ?_) fun _ _ e => e)
    obtain ⟨v, H', I', rz, n, rfl, hn, q⟩ := hq
    obtain ⟨t, rfl⟩ := rz
    exact ⟨⟨by omega, by omega⟩, .int n, H', I'.tok _, ⟨_, rfl⟩, q⟩
/-- repr(o), str(o) -/
def rTxtO (C : Addr) (sp : Sp) : List V → Hp → VK → Prop := fun xs H Q => ∃ a dx fs, xs = [.ref a] ∧ H a = some (.ins C dx fs) ∧ sp [.ref a] H (fun v H' => ∃ x : Str, v = .str x ∧ Q (.str x) H') C8.E0
theorem cl_reprO {C : Addr} {k : Nat} {ps : List Str} {sp : Sp} (O : Spc X.prog X.w X.K X.mg X.base C "__repr__" k ps sp) (hr : Room (k + 1) X.A) : CallR X (.builtin "repr") (rTxtO C sp) := by
  intro pins s σ H xs us Q I rv h
  obtain ⟨a, dx, fs, rfl, ha, hsp⟩ := h
  obtain ⟨f, fd, F, hs, hf, hb⟩ := O.ex
  cases rv with
  | cons r0 rt =>
    cases rt
    cases r0
    obtain ⟨mA, J, _⟩ := ins_get I.hok ha
    obtain ⟨od, J, _⟩ := J.look
    obtain ⟨m, hF⟩ := I.fr
    refine PySem.W.repr_K (Sub.in1 (X := X) ⟨hr, rfl⟩).room.units0 hF I.ok.mod.kin J hs hf (wpAny_mono (run_spc F hb (Sub.in1 ⟨hr, rfl⟩) I hsp) (fun u s' hq => ?_) fun _ _ e => e)
    obtain ⟨v, H', I', rz, x, rfl, q⟩ := hq
    obtain ⟨t, rfl⟩ := rz
    exact ⟨.str x, H', I', ⟨_, rfl⟩, q⟩
theorem cl_strO {C : Addr} {k : Nat} {ps : List Str} {sp : Sp} (O : Spc X.prog X.w X.K X.mg X.base C "__str__" k ps sp) (hr : Room (k + 2) X.A) : CallR X (.type "str") (rTxtO C sp) := by
  intro pins s σ H xs us Q I rv h
  obtain ⟨a, dx, fs, rfl, ha, hsp⟩ := h
  obtain ⟨f, fd, F, hs, hf, hb⟩ := O.ex
  cases rv with
  | cons r0 rt =>
    cases rt
    cases r0
    obtain ⟨mA, J, _⟩ := ins_get I.hok ha
    obtain ⟨od, J, _⟩ := J.look
    have sb : Sub X k X.A.in1.in1 := Sub.in1 (Sub.in1 ⟨hr, rfl⟩)
    refine PySem.W.kso_call sb.room.units0 I.kIn J hs hf (wpAny_mono (run_spc F hb sb I hsp) (fun u s' hq => ?_) fun _ _ e => e)
    obtain ⟨v, H', I', rz, x, rfl, q⟩ := hq
    obtain ⟨t, rfl⟩ := rz
    exact ⟨.str x, H', I', ⟨_, rfl⟩, q⟩
/-- either reading of a call -/
def rOrC (r r' : List V → Hp → VK → Prop) : List V → Hp → VK → Prop := fun xs H Q => r xs H Q ∨ r' xs H Q
theorem cl_or {f : Value} {r r' : List V → Hp → VK → Prop} (h : CallR X f r) (h' : CallR X f r') : CallR X f (rOrC r r') := fun pins s σ H xs us Q I rv q =>
  q.elim (h pins s σ H xs us Q I rv) (h' pins s σ H xs us Q I rv)
def tJoin (ts : List TE) : TE := fun σ H Q => tJs ts Str.empty σ H fun out H1 => Q (.str out) H1
theorem pe_fj {v1 v2 : Expr} {rest : List Expr} {ts : List TE} {pos : Pos} (h : PJ X (v1 :: v2 :: rest) ts) : PE X (.JoinedStr (v1 :: v2 :: rest) pos) (tJoin ts) := pe_joined h
end
theorem u1_of {k : Nat} {A : Around} (r : Room k A) : A.units + 1 < cLine := by have := r.un; omega
section
variable {σ : L2.St} {H : Hp} {Q : VK} {te : TE}
theorem w_lenO {C a dx : Addr} {fs : List (Str × V)} {sp : Sp} (h : H a = some (.ins C dx fs)) (k : sp [.ref a] H (fun v H' => ∃ n : Nat, v = .int n ∧ n < 2 ^ 63 ∧ Q (.int n) H') C8.E0) : rLenO C sp [.ref a] H Q := ⟨a, dx, fs, rfl, h, k⟩
theorem w_txtO {C a dx : Addr} {fs : List (Str × V)} {sp : Sp} (h : H a = some (.ins C dx fs)) (k : sp [.ref a] H (fun v H' => ∃ x : Str, v = .str x ∧ Q (.str x) H') C8.E0) : rTxtO C sp [.ref a] H Q := ⟨a, dx, fs, rfl, h, k⟩
theorem w_fmtE (h : te σ H fun x H1 => (∃ y : Str, x = .str y ∧ y.length ≤ sizeLine ∧ Q (.str y) H1) ∨ ∃ i : Int, x = .int i ∧ i.natAbs.log2 < 1920 ∧ Q (.str (toString i)) H1) : tFmt te σ H Q := h
theorem w_fmtS {y : Str} {R : V → Prop} (hl : y.length ≤ sizeLine) (q : R (.str y)) : (∃ z : Str, V.str y = .str z ∧ z.length ≤ sizeLine ∧ R (.str z)) ∨ ∃ i : Int, V.str y = .int i ∧ i.natAbs.log2 < 1920 ∧ R (.str (toString i)) := .inl ⟨y, rfl, hl, q⟩
theorem w_fmtI {i : Int} {R : V → Prop} (h : i.natAbs < 2 ^ 1919) (q : R (.str (toString i))) : (∃ z : Str, V.int i = .str z ∧ z.length ≤ sizeLine ∧ R (.str z)) ∨ ∃ j : Int, V.int i = .int j ∧ j.natAbs.log2 < 1920 ∧ R (.str (toString j)) :=
  .inr ⟨i, rfl, PySem.Flt.log2_lt_of (by decide) (Nat.lt_of_lt_of_le h (Nat.pow_le_pow_right (by decide) (by decide))), q⟩
theorem w_fmtRE (h : te σ H fun x H1 => (∃ y : Str, x = .str y ∧ (reprText y).length ≤ sizeLine ∧ Q (.str (reprText y)) H1) ∨ ∃ i : Int, x = .int i ∧ i.natAbs.log2 < 1920 ∧ Q (.str (toString i)) H1) : tFmtR te σ H Q := h
theorem w_isB {a b : Bool} (q : Q (.bl (decide (a = b))) H) : rIsB (.bl a) (.bl b) H Q := ⟨a, b, rfl, rfl, q⟩
theorem w_isnB {a b : Bool} (q : Q (.bl (!decide (a = b))) H) : rNotB (.bl a) (.bl b) H Q := ⟨a, b, rfl, rfl, q⟩
theorem w_dget2 {td ty tx : TE} (h : td σ H fun x H1 => ∃ a, x = .ref a ∧ IsD H1 a ∧ ty σ H1 fun y H2 => tx σ H2 fun z H3 => ∃ o, DGet H3 a y o ∧ Q (o.getD z) H3) : tDGet2 td ty tx σ H Q := h
theorem w_dgetK {a : Addr} {kvs : List (Key × V)} {k : Key} {y z : V} {R : V → Prop} (h : H a = some (.dK kvs)) (hy : y = kV k) (q : R ((valV kvs k).getD z)) : ∃ o, DGet H a y o ∧ R (o.getD z) := ⟨valV kvs k, .inl ⟨kvs, k, .inl h, hy, rfl⟩, q⟩
theorem w_joinE {ts : List TE} (h : tJs ts Str.empty σ H fun out H1 => Q (.str out) H1) : tJoin ts σ H Q := h
theorem w_js {t : TE} {ts : List TE} {acc : Str} {QS : Str → Hp → Prop} (h : t σ H fun x H1 => ∃ y : Str, x = .str y ∧ (acc ++ y).length ≤ sizeLine ∧ tJs ts (acc ++ y) σ H1 QS) : tJs (t :: ts) acc σ H QS := h
theorem w_jn {acc : Str} {QS : Str → Hp → Prop} (h : QS acc H) : tJs [] acc σ H QS := h
theorem w_jt {acc y : Str} {R : Str → Prop} (hl : acc.length + y.length ≤ sizeLine) (h : R y) : ∃ z : Str, V.str y = .str z ∧ (acc ++ z).length ≤ sizeLine ∧ R z := ⟨y, rfl, by rw [Str.length_append]; exact hl, h⟩
end
end Bw

/-! words and texts of words, plainly -/
namespace Bw
open PySem PySem.Spec PyProof.Rows L2 LamX
def abc : Str := "abcdefghijklmnopqrstuvwxyz"
def isW (x : Str) : Bool := decide (1 ≤ x.length ∧ x.length ≤ 12) && x.cps.toList.all fun c => decide (c ∈ abc.cps.toList)
def isWV : V → Bool
  | .str x => isW x
  | _ => false
def okWs (ws : List Str) : Bool := decide (ws.length ≤ 120) && ws.all isW
def okVs (xs : List V) : Bool := decide (xs.length ≤ 120) && xs.all isWV
theorem okVs_str (ws : List Str) : okVs (ws.map V.str) = okWs ws := by
  unfold okVs okWs
  rw [List.length_map, List.all_map]
  rfl
theorem strs_of : ∀ {xs : List V}, xs.all isWV = true → ∃ ws : List Str, xs = ws.map V.str
  | [], _ => ⟨[], rfl⟩
  | x :: r, h => by
    rw [List.all_cons, Bool.and_eq_true] at h
    obtain ⟨ws, rfl⟩ := strs_of h.2
    cases x with
    | str y => exact ⟨y :: ws, rfl⟩
    | _ => exact absurd h.1 (by unfold isWV; exact Bool.noConfusion)
theorem okVs_of {xs : List V} (h : okVs xs = true) : ∃ ws : List Str, xs = ws.map V.str ∧ okWs ws = true := by
  have h2 := h
  unfold okVs at h2
  rw [Bool.and_eq_true] at h2
  obtain ⟨ws, rfl⟩ := strs_of h2.2
  exact ⟨ws, rfl, (okVs_str ws) ▸ h⟩
def wsOf (x : Str) : List Str := if x = "" then [] else Txt.split x " "
theorem split_bounds (x : Str) (h : x.length ≤ 40000) : (wsOf x).length ≤ 50000 ∧ ∀ y ∈ wsOf x, y.length ≤ 100000 := by
  unfold wsOf
  split
  · simp
  · have h1 := PyProof.Rows.split_weight x " " (Nat.le_refl 1)
    refine ⟨by omega, fun y hy => ?_⟩
    have h2 := le_sum (List.mem_map.mpr ⟨y, hy, rfl⟩ : y.length ∈ (Txt.split x " ").map (·.length))
    omega
theorem txtv_strs {H : Hp} {ws : List Str} (h : ∀ y ∈ ws, y.length ≤ 100000) : ∀ x ∈ ws.map V.str, TxtV H x := fun x hx => by
  obtain ⟨y, hy, rfl⟩ := List.mem_map.mp hx
  exact .inl ⟨y, rfl, h y hy⟩
theorem isW_len {x : Str} (h : isW x = true) : x.length ≤ 12 := by
  unfold isW at h
  simp only [Bool.and_eq_true, decide_eq_true_eq] at h
  exact h.1.2
theorem ok_bounds {ws : List Str} (h : okWs ws = true) : ws.length ≤ 120 ∧ (∀ y ∈ ws, y.length ≤ 12) ∧ (ws.map (·.length)).sum ≤ 1440 := by
  unfold okWs at h
  simp only [Bool.and_eq_true, decide_eq_true_eq, List.all_eq_true] at h
  have h2 : ∀ y ∈ ws, y.length ≤ 12 := fun y hy => isW_len (h.2 y hy)
  refine ⟨h.1, h2, ?_⟩
  have h3 := sum_le (l := ws.map (·.length)) (c := 12) (fun x hx => by
    obtain ⟨y, hy, rfl⟩ := List.mem_map.mp hx
    exact h2 y hy)
  rw [List.length_map] at h3
  omega
theorem isW_strOk {x : Str} (h : isW x = true) : PyData.strOk x = true := by
  unfold isW at h
  simp only [Bool.and_eq_true, decide_eq_true_eq, List.all_eq_true] at h
  unfold PyData.strOk
  rw [Array.all_eq_true']
  intro c hc
  have h1 := h.2 c (Array.mem_toList_iff.mpr hc)
  have h2 : ∀ c ∈ abc.cps.toList, c < 0x110000 := by decide +kernel
  exact decide_eq_true (h2 c h1)
theorem okWs_all {ws : List Str} (h : okWs ws = true) : ∀ b ∈ ws, isW b = true := by
  unfold okWs at h
  simp only [Bool.and_eq_true, decide_eq_true_eq, List.all_eq_true] at h
  exact h.2
theorem ok_strs {ws : List Str} (h : okWs ws = true) : ∀ b ∈ ws, PyData.strOk b = true := fun b hb => isW_strOk (okWs_all h b hb)
theorem join_ws (x : Str) : Txt.join " " (wsOf x) = x := by
  unfold wsOf
  split
  · rename_i h
    rw [h]
    rfl
  · rw [txt_join]
    exact StrLaws.join_split x " "
theorem join_ne {ws : List Str} (h : ∀ b ∈ ws, isW b = true) (hn : ws ≠ []) : Txt.join " " ws ≠ "" := by
  intro e
  rw [txt_join] at e
  cases ws with
  | nil => exact hn rfl
  | cons b r =>
    have h1 := PyProof.Rows.len_join_cons " " b r
    rw [e] at h1
    have h2 := h b List.mem_cons_self
    unfold isW at h2
    simp only [Bool.and_eq_true, decide_eq_true_eq] at h2
    have h3 : ("" : Str).length = 0 := rfl
    rw [h3] at h1
    simp only [List.map_cons, List.sum_cons] at h1
    omega
theorem ws_join {ws : List Str} (h : ∀ b ∈ ws, isW b = true) : wsOf (Txt.join " " ws) = ws := by
  unfold wsOf
  cases hw : ws with
  | nil => rfl
  | cons b r =>
    rw [← hw, if_neg (join_ne h (by rw [hw]; simp))]
    refine TL.split_join (s := 32) (S := []) rfl (by decide +kernel) (by rw [hw]; simp) (fun p hp z => ?_)
    have h2 := h p hp
    unfold isW at h2
    simp only [Bool.and_eq_true, decide_eq_true_eq, List.all_eq_true] at h2
    have h3 := h2.2 32 z
    revert h3
    decide +kernel
theorem isW_signs {x : Str} (h : isW x = true) : ∀ c ∈ x.cps.toList, 97 ≤ c ∧ c ≤ 122 := by
  unfold isW at h
  simp only [Bool.and_eq_true, decide_eq_true_eq, List.all_eq_true] at h
  have key : ∀ c ∈ abc.cps.toList, 97 ≤ c ∧ c ≤ 122 := by decide +kernel
  exact fun c hc => key c (h.2 c hc)
/-- the places of a word -/
def plc (ws : List Str) (w : Str) : List Nat := (List.range ws.length).filter fun i => decide (ws[i]? = some w)
theorem plc_snoc (ws : List Str) (u w : Str) : plc (ws ++ [u]) w = plc ws w ++ (if u = w then [ws.length] else []) := by
  unfold plc
  rw [List.length_append, List.length_singleton, List.range_succ, List.filter_append]
  congr 1
  · refine List.filter_congr fun i hi => ?_
    rw [List.mem_range] at hi
    rw [List.getElem?_append_left hi]
  · rw [List.filter_cons, List.filter_nil, List.getElem?_append_right (Nat.le_refl _), Nat.sub_self]
    by_cases h : u = w
    · simp [h]
    · simp [h]
theorem plc_nil (w : Str) : plc [] w = [] := rfl
theorem plc_len (ws : List Str) (w : Str) : (plc ws w).length ≤ ws.length := by
  have := List.length_filter_le (fun i => decide (ws[i]? = some w)) (List.range ws.length)
  rwa [List.length_range] at this
theorem plc_none {ws : List Str} {w : Str} (h : w ∉ ws) : plc ws w = [] := by
  unfold plc
  rw [List.filter_eq_nil_iff]
  intro i _ hi
  exact h (List.mem_of_getElem? (of_decide_eq_true hi))
/-- repr of a text of letters and blanks -/
theorem repr_plain {x : Str} (h : ∀ c ∈ x.cps.toList, c = 32 ∨ (97 ≤ c ∧ c ≤ 122)) : reprText x = S (39 :: (x.cps.toList ++ [39])) := by
  have hq : PySem.reprQuote x = 39 := by
    have h39 : ¬ 39 ∈ x.cps.toList := fun z => by
      have := h 39 z
      omega
    have : x.cps.contains 39 = false := by
      rw [Bool.eq_false_iff]
      intro z
      exact h39 (by simpa using z)
    unfold PySem.reprQuote
    rw [this]
    rfl
  have hc : ∀ c ∈ x.cps.toList, Builtin.Str.reprChar 39 c = [c] := by
    have key : ∀ c, c < 128 → (c = 32 ∨ (97 ≤ c ∧ c ≤ 122)) → Builtin.Str.reprChar 39 c = [c] := by decide +kernel
    intro c hc
    have := h c hc
    exact key c (by omega) this
  refine str_ext ?_
  unfold reprText
  rw [hq]
  show ((x.cps.foldl (fun out c => out ++ (Builtin.Str.reprChar 39 c).toArray) #[39]).push 39).toList = _
  rw [Array.toList_push, ← Array.foldl_toList]
  have key : ∀ (l : List Nat) (acc : Array Nat), (∀ c ∈ l, Builtin.Str.reprChar 39 c = [c]) → (l.foldl (fun out c => out ++ (Builtin.Str.reprChar 39 c).toArray) acc).toList = acc.toList ++ l := by
    intro l
    induction l with
    | nil => intro acc _; simp
    | cons c r ih =>
      intro acc hl
      rw [List.foldl_cons, ih _ (fun d hd => hl d (List.mem_cons_of_mem _ hd)), hl c List.mem_cons_self]
      simp
  rw [key _ _ hc]
  rfl
theorem join_signs {ws : List Str} (h : ∀ b ∈ ws, isW b = true) : ∀ c ∈ (Txt.join " " ws).cps.toList, c = 32 ∨ (97 ≤ c ∧ c ≤ 122) := by
  rw [txt_join]
  induction ws with
  | nil => intro c hc; exact absurd hc (by show ¬ c ∈ ([] : List Nat); simp)
  | cons b r ih =>
    cases r with
    | nil =>
      intro c hc
      exact .inr (isW_signs (h b List.mem_cons_self) c hc)
    | cons d r =>
      intro c hc
      have e : Str.join (" " : Str) (b :: d :: r) = b ++ (" " : Str) ++ Str.join (" " : Str) (d :: r) := rfl
      rw [e, cps_append, cps_append] at hc
      rcases List.mem_append.mp hc with hc | hc
      · rcases List.mem_append.mp hc with hc | hc
        · exact .inr (isW_signs (h b List.mem_cons_self) c hc)
        · left
          have : c ∈ ([32] : List Nat) := hc
          simpa using this
      · exact ih (fun x hx => h x (List.mem_cons_of_mem _ hx)) c hc
theorem join_len {ws : List Str} (h : ∀ b ∈ ws, isW b = true) : (Txt.join " " ws).length ≤ ws.length * 13 := by
  have hsum := sum_le (l := ws.map (·.length)) (c := 12) (fun x hx => by
    obtain ⟨y, hy, rfl⟩ := List.mem_map.mp hx
    exact isW_len (h y hy))
  rw [List.length_map] at hsum
  rw [txt_join]
  cases hys : ws with
  | nil => decide +kernel
  | cons y rr =>
    have h1s : (" " : Str).length = 1 := rfl
    rw [PyProof.Rows.len_join_cons, h1s, ← hys]
    have : ws.length = rr.length + 1 := by rw [hys]; rfl
    omega
end Bw

namespace Bw
open PySem PySem.Spec PyProof.Rows L2 LamX
/-! ### comprehensions with two fors -/
def NxJ (D : Addr) (i : Nat) (Iv : Nat → List V → Hp → Prop) : Hp → Prop := fun H' => ∃ acc', H' D = some (.lst acc') ∧ Iv (i + 1) acc' H'
theorem w_accJ {D : Addr} {i : Nat} {Iv : Nat → List V → Hp → Prop} {acc : List V} {y : V} {H4 : Hp} (hD : H4 D = some (.lst acc)) (hn : acc.length ≤ 100000) (k : ∀ H5, KB D H4 H5 → H5 D = some (.lst (acc ++ [y])) → Iv (i + 1) (acc ++ [y]) H5) :
    ∃ acc, H4 D = some (.lst acc) ∧ acc.length < sizeLine ∧ NxJ D i Iv (upd H4 D (.lst (acc ++ [y]))) := ⟨acc, hD, Nat.lt_of_le_of_lt hn (by decide), acc ++ [y], upd_same, k _ kb_upd upd_same⟩
theorem in_fin {J : It} {n : Nat} {ok : Hp → Prop} {it : Nat → V → Hp → Hp → Prop} {g : TG} {tt : TT} {te : TE} {vs : List Nat} {σ : L2.St} {H1 : Hp} {D : Addr} {Nx : Hp → Prop} (F : Fini J n ok it) (Jv : Nat → List V → Hp → Prop)
    (h0 : ∃ acc, H1 D = some (.lst acc) ∧ Jv 0 acc H1) (hl : ∀ i acc H, i ≤ n → Jv i acc H → ok H)
    (hs : ∀ i x acc H H', i < n → Jv i acc H → H D = some (.lst acc) → it i x H H' → g x (wipe σ vs) H' fun σ2 H2 => wipe σ2 vs = wipe σ vs ∧ tt σ2 H2 fun b H3 =>
      if b = true then te σ2 H3 fun y H4 => ∃ acc, H4 D = some (.lst acc) ∧ acc.length < sizeLine ∧ NxJ D i Jv (upd H4 D (.lst (acc ++ [y]))) else NxJ D i Jv H3)
    (hd : ∀ acc H, Jv n acc H → H D = some (.lst acc) → Nx H) :
    ∃ W1 : Nat → Nat → Hp → Prop, (∃ m, W1 0 m H1) ∧ ∀ j k H, W1 j k H →
      (J.stop j H ∧ Nx H) ∨ (J.go j H ∧ ∃ Nx1 : Hp → Prop, (∀ H', Nx1 H' → ∃ k', k' < k ∧ W1 (j + 1) k' H') ∧ ∀ x H', J.yld j H x H' → g x (wipe σ vs) H' fun σ3 H5 => wipe σ3 vs = wipe σ vs ∧ tt σ3 H5 fun b H6 =>
        if b = true then te σ3 H6 fun y H7 => ∃ acc, H7 D = some (.lst acc) ∧ acc.length < sizeLine ∧ Nx1 (upd H7 D (.lst (acc ++ [y]))) else Nx1 H6) := by
  obtain ⟨acc0, e0, i0⟩ := h0
  refine ⟨fun i m H => m = n - i ∧ i ≤ n ∧ ∃ acc, H D = some (.lst acc) ∧ Jv i acc H, ⟨n, by simp, Nat.zero_le _, acc0, e0, i0⟩, ?_⟩
  rintro i m H ⟨rfl, hi, acc, hD, p⟩
  have o := hl i acc H hi p
  rcases Nat.lt_or_ge i n with hlt | hge
  · exact .inr ⟨F.go i H hlt o, NxJ D i Jv, fun H' p' => ⟨n - (i + 1), by omega, rfl, hlt, p'⟩, fun x H' y => hs i x acc H H' hlt p hD (F.yl i H x H' hlt o y)⟩
  · obtain rfl : i = n := Nat.le_antisymm hi hge
    exact .inl ⟨F.st H o, hd acc H p hD⟩
theorem lc2_fin {J : It} {n : Nat} {ok : Hp → Prop} {it : Nat → V → Hp → Hp → Prop} {wi1 : TI} {g g1 : TG} {tt tt1 : TT} {te : TE} {vs vs1 : List Nat} {σ : L2.St} {H1 : Hp} {Qd : Addr → Hp → Prop} (F : Fini J n ok it) (Iv : Nat → List V → Hp → Prop)
    (h0 : ∀ D H2, H1 D = none → Same H1 H2 → H2 D = some (.lst []) → Iv 0 [] H2) (hl : ∀ i acc H, i ≤ n → Iv i acc H → ok H)
    (hs : ∀ D i x acc H H', H1 D = none → i < n → Iv i acc H → H D = some (.lst acc) → it i x H H' → g x (wipe σ vs) H' fun σ2 H2 => wipe σ2 vs = wipe σ vs ∧ tt σ2 H2 fun b H3 =>
      if b = true then wi1 σ2 H3 fun J1 H4 => ∃ W1 : Nat → Nat → Hp → Prop, (∃ m, W1 0 m H4) ∧ ∀ j k H, W1 j k H →
        (J1.stop j H ∧ NxJ D i Iv H) ∨ (J1.go j H ∧ ∃ Nx1 : Hp → Prop, (∀ H', Nx1 H' → ∃ k', k' < k ∧ W1 (j + 1) k' H') ∧ ∀ x H', J1.yld j H x H' → g1 x (wipe σ2 vs1) H' fun σ3 H5 => wipe σ3 vs1 = wipe σ2 vs1 ∧ tt1 σ3 H5 fun b H6 =>
          if b = true then te σ3 H6 fun y H7 => ∃ acc, H7 D = some (.lst acc) ∧ acc.length < sizeLine ∧ Nx1 (upd H7 D (.lst (acc ++ [y]))) else Nx1 H6)
      else NxJ D i Iv H3)
    (hd : ∀ D acc H, H1 D = none → Iv n acc H → H D = some (.lst acc) → Qd D H) :
    ∀ D, H1 D = none → ∃ W : Nat → Nat → Hp → Prop, (∃ m, W 0 m (upd H1 D (.lst []))) ∧ ∀ i m H, W i m H →
      (J.stop i H ∧ Qd D H) ∨ (J.go i H ∧ ∃ Nx : Hp → Prop, (∀ H', Nx H' → ∃ m', m' < m ∧ W (i + 1) m' H') ∧ ∀ x H', J.yld i H x H' → g x (wipe σ vs) H' fun σ2 H2 => wipe σ2 vs = wipe σ vs ∧ tt σ2 H2 fun b H3 =>
        if b = true then wi1 σ2 H3 fun J1 H4 => ∃ W1 : Nat → Nat → Hp → Prop, (∃ m, W1 0 m H4) ∧ ∀ j k H, W1 j k H →
          (J1.stop j H ∧ Nx H) ∨ (J1.go j H ∧ ∃ Nx1 : Hp → Prop, (∀ H', Nx1 H' → ∃ k', k' < k ∧ W1 (j + 1) k' H') ∧ ∀ x H', J1.yld j H x H' → g1 x (wipe σ2 vs1) H' fun σ3 H5 => wipe σ3 vs1 = wipe σ2 vs1 ∧ tt1 σ3 H5 fun b H6 =>
            if b = true then te σ3 H6 fun y H7 => ∃ acc, H7 D = some (.lst acc) ∧ acc.length < sizeLine ∧ Nx1 (upd H7 D (.lst (acc ++ [y]))) else Nx1 H6)
        else Nx H3) := by
  intro D nD
  refine ⟨fun i m H => m = n - i ∧ i ≤ n ∧ ∃ acc, H D = some (.lst acc) ∧ Iv i acc H, ⟨n, by simp, Nat.zero_le _, [], upd_same, h0 D _ nD (same_new nD) upd_same⟩, ?_⟩
  rintro i m H ⟨rfl, hi, acc, hD, p⟩
  have o := hl i acc H hi p
  rcases Nat.lt_or_ge i n with hlt | hge
  · exact .inr ⟨F.go i H hlt o, NxJ D i Iv, fun H' p' => ⟨n - (i + 1), by omega, rfl, hlt, p'⟩, fun x H' y => hs D i x acc H H' nD hlt p hD (F.yl i H x H' hlt o y)⟩
  · obtain rfl : i = n := Nat.le_antisymm hi hge
    exact .inl ⟨F.st H o, hd D acc H nD p hD⟩
theorem w_lc2E {wi wi1 : TI} {g g1 : TG} {tt tt1 : TT} {te : TE} {vs vs1 : List Nat} {σ : L2.St} {H : Hp} {Q : VK} (h : wi σ H fun J H1 => ∀ D, H1 D = none → ∃ W : Nat → Nat → Hp → Prop, (∃ m, W 0 m (upd H1 D (.lst []))) ∧ ∀ i m H, W i m H →
  (J.stop i H ∧ Q (.ref D) H) ∨ (J.go i H ∧ ∃ Nx : Hp → Prop, (∀ H', Nx H' → ∃ m', m' < m ∧ W (i + 1) m' H') ∧ ∀ x H', J.yld i H x H' → g x (wipe σ vs) H' fun σ2 H2 => wipe σ2 vs = wipe σ vs ∧ tt σ2 H2 fun b H3 =>
    if b = true then wi1 σ2 H3 fun J1 H4 => ∃ W1 : Nat → Nat → Hp → Prop, (∃ m, W1 0 m H4) ∧ ∀ j k H, W1 j k H →
      (J1.stop j H ∧ Nx H) ∨ (J1.go j H ∧ ∃ Nx1 : Hp → Prop, (∀ H', Nx1 H' → ∃ k', k' < k ∧ W1 (j + 1) k' H') ∧ ∀ x H', J1.yld j H x H' → g1 x (wipe σ2 vs1) H' fun σ3 H5 => wipe σ3 vs1 = wipe σ2 vs1 ∧ tt1 σ3 H5 fun b H6 =>
        if b = true then te σ3 H6 fun y H7 => ∃ acc, H7 D = some (.lst acc) ∧ acc.length < sizeLine ∧ Nx1 (upd H7 D (.lst (acc ++ [y]))) else Nx1 H6)
    else Nx H3)) : tLc2 wi g tt wi1 g1 tt1 te vs vs1 σ H Q := h
/-! ### data as it stands on the heap -/
mutual
inductive Rp (H : Hp) : V → PyData → Prop
  | non : Rp H .non .none
  | bl (b : Bool) : Rp H (.bl b) (.bool b)
  | int (i : Int) : Rp H (.int i) (.int i)
  | str (x : Str) : Rp H (.str x) (.str x)
  | lst {a : Addr} {xs : List V} {ds : List PyData} : H a = some (.lst xs) → RpAll H xs ds → Rp H (.ref a) (.list ds)
  | tup {a : Addr} {xs : List V} {ds : List PyData} : H a = some (.tup xs) → RpAll H xs ds → Rp H (.ref a) (.tuple ds)
inductive RpAll (H : Hp) : List V → List PyData → Prop
  | nil : RpAll H [] []
  | cons {v : V} {d : PyData} {vs : List V} {ds : List PyData} : Rp H v d → RpAll H vs ds → RpAll H (v :: vs) (d :: ds)
end
section
variable {K : PySem.W.Frag} {H H' : Hp}
mutual
theorem Rp.dp : ∀ {v : V} {d : PyData}, Rp H v d → Dp K H v d
  | _, _, .non => .non
  | _, _, .bl b => .bl b
  | _, _, .int i => .int i
  | _, _, .str x => .str x
  | _, _, .lst h r => .lst (.of h) (RpAll.dp r)
  | _, _, .tup h r => .tup (.of h) (RpAll.dp r)
theorem RpAll.dp : ∀ {vs : List V} {ds : List PyData}, RpAll H vs ds → DpAll K H vs ds
  | _, _, .nil => .nil
  | _, _, .cons h r => .cons (Rp.dp h) (RpAll.dp r)
end
mutual
theorem Rp.same (s : Same H H') : ∀ {v : V} {d : PyData}, Rp H v d → Rp H' v d
  | _, _, .non => .non
  | _, _, .bl b => .bl b
  | _, _, .int i => .int i
  | _, _, .str x => .str x
  | _, _, .lst h r => .lst (s _ _ h) (RpAll.same s r)
  | _, _, .tup h r => .tup (s _ _ h) (RpAll.same s r)
theorem RpAll.same (s : Same H H') : ∀ {vs : List V} {ds : List PyData}, RpAll H vs ds → RpAll H' vs ds
  | _, _, .nil => .nil
  | _, _, .cons h r => .cons (Rp.same s h) (RpAll.same s r)
end
/-- tuples stay -/
def TupK (H H' : Hp) : Prop := ∀ a xs, H a = some (.tup xs) → H' a = some (.tup xs)
theorem TupK.of (s : Same H H') : TupK H H' := fun _ _ h => s _ _ h
theorem TupK.kb {p : Addr} {xs : List V} (k : KB p H H') (hp : H p = some (.lst xs)) : TupK H H' := fun a ys h => k _ _ h (fun z => by rw [z, hp] at h; cases h)
theorem TupK.trans {H2 : Hp} (a : TupK H H') (b : TupK H' H2) : TupK H H2 := fun _ _ h => b _ _ (a _ _ h)
mutual
def noL : PyData → Bool
  | .list _ => false
  | .tuple ds => noLs ds
  | _ => true
def noLs : List PyData → Bool
  | [] => true
  | d :: r => noL d && noLs r
end
mutual
theorem Rp.tupk (t : TupK H H') : ∀ {v : V} {d : PyData}, Rp H v d → noL d = true → Rp H' v d
  | _, _, .non, _ => .non
  | _, _, .bl b, _ => .bl b
  | _, _, .int i, _ => .int i
  | _, _, .str x, _ => .str x
  | _, _, .lst h r, n => by simp [noL] at n
  | _, _, .tup h r, n => .tup (t _ _ h) (RpAll.tupk t r (by simpa [noL] using n))
theorem RpAll.tupk (t : TupK H H') : ∀ {vs : List V} {ds : List PyData}, RpAll H vs ds → noLs ds = true → RpAll H' vs ds
  | _, _, .nil, _ => .nil
  | _, _, .cons h r, n => by
    rw [noLs, Bool.and_eq_true] at n
    exact .cons (Rp.tupk t h n.1) (RpAll.tupk t r n.2)
end
theorem RpAll.length : ∀ {vs : List V} {ds : List PyData}, RpAll H vs ds → vs.length = ds.length
  | _, _, .nil => rfl
  | _, _, .cons _ r => congrArg Nat.succ (RpAll.length r)
theorem RpAll.at : ∀ {vs : List V} {ds : List PyData}, RpAll H vs ds → ∀ {i : Nat} {v : V}, vs[i]? = some v → ∃ d, ds[i]? = some d ∧ Rp H v d
  | _, _, .nil, i, v, h => by simp at h
  | _, _, .cons h r, 0, v, e => by
    cases e
    exact ⟨_, rfl, h⟩
  | _, _, .cons h r, i + 1, v, e => by
    obtain ⟨d, h1, h2⟩ := RpAll.at r (i := i) (v := v) (by simpa using e)
    exact ⟨d, by simpa using h1, h2⟩
theorem RpAll.append : ∀ {xs ys : List V} {ds es : List PyData}, RpAll H xs ds → RpAll H ys es → RpAll H (xs ++ ys) (ds ++ es)
  | _, _, _, _, .nil, h => h
  | _, _, _, _, .cons h r, h2 => .cons h (RpAll.append r h2)
theorem RpAll.drop : ∀ {vs : List V} {ds : List PyData} (n : Nat), RpAll H vs ds → RpAll H (vs.drop n) (ds.drop n)
  | _, _, 0, h => h
  | _, _, n + 1, .nil => .nil
  | _, _, n + 1, .cons _ r => RpAll.drop n r
theorem RpAll.take : ∀ {vs : List V} {ds : List PyData} (n : Nat), RpAll H vs ds → RpAll H (vs.take n) (ds.take n)
  | _, _, 0, h => .nil
  | _, _, n + 1, .nil => .nil
  | _, _, n + 1, .cons h r => .cons h (RpAll.take n r)
theorem rpAll_str : ∀ ws : List Str, RpAll H (ws.map V.str) (ws.map PyData.str)
  | [] => .nil
  | w :: r => .cons (.str w) (rpAll_str r)
/-! ### things of bounded size -/
def Fit : Nat → PyData → Prop
  | 0, d => (d = .none ∨ (∃ b, d = .bool b) ∨ (∃ i, d = .int i)) ∨ ∃ x, d = .str x ∧ x.length ≤ 1000 ∧ PyData.strOk x = true
  | n + 1, d => ((d = .none ∨ (∃ b, d = .bool b) ∨ (∃ i, d = .int i)) ∨ ∃ x, d = .str x ∧ x.length ≤ 1000 ∧ PyData.strOk x = true) ∨ ∃ ds : List PyData, (d = .tuple ds ∨ d = .list ds) ∧ ds.length ≤ 1000 ∧ ∀ e ∈ ds, Fit n e
theorem Fit.succ : ∀ {n : Nat} {d : PyData}, Fit n d → Fit (n + 1) d
  | 0, d, h => .inl h
  | n + 1, d, h => by
    rcases h with h | ⟨ds, h1, h2, h3⟩
    · exact .inl h
    · exact .inr ⟨ds, h1, h2, fun e he => (h3 e he).succ⟩
theorem Fit.mono {n m : Nat} {d : PyData} (h : Fit n d) (l : n ≤ m) : Fit m d := by
  induction l with
  | refl => exact h
  | step _ ih => exact ih.succ
theorem Fit.good : ∀ {n : Nat} {d : PyData}, Fit n d → GoodD d n
  | 0, d, h => by
    rcases h with (rfl | ⟨b, rfl⟩ | ⟨i, rfl⟩) | ⟨x, rfl, _, h⟩
    · exact good_none
    · exact good_bool
    · exact good_int
    · exact good_str h
  | n + 1, d, h => by
    rcases h with ((rfl | ⟨b, rfl⟩ | ⟨i, rfl⟩) | ⟨x, rfl, _, h⟩) | ⟨ds, rfl | rfl, _, h⟩
    · exact good_none
    · exact good_bool
    · exact good_int
    · exact good_str h
    · exact good_tuple fun e he => (h e he).good
    · exact good_list fun e he => (h e he).good
theorem fit_str {x : Str} {n : Nat} (h1 : x.length ≤ 1000) (h2 : PyData.strOk x = true) : Fit n (.str x) := Fit.mono (n := 0) (.inr ⟨x, rfl, h1, h2⟩) (Nat.zero_le _)
theorem fit_int {i : Int} {n : Nat} : Fit n (.int i) := Fit.mono (n := 0) (.inl (.inr (.inr ⟨i, rfl⟩))) (Nat.zero_le _)
theorem fit_word {x : Str} {n : Nat} (h : isW x = true) : Fit n (.str x) := fit_str (Nat.le_trans (isW_len h) (by decide)) (isW_strOk h)
theorem fit_tup {ds : List PyData} {n : Nat} (h1 : ds.length ≤ 1000) (h : ∀ e ∈ ds, Fit n e) : Fit (n + 1) (.tuple ds) := .inr ⟨ds, .inl rfl, h1, h⟩
theorem Fit.tup {ds : List PyData} {n : Nat} (h : Fit (n + 1) (.tuple ds)) : ds.length ≤ 1000 ∧ ∀ e ∈ ds, Fit n e := by
  rcases h with ((h | ⟨b, h⟩ | ⟨i, h⟩) | ⟨x, h, _⟩) | ⟨es, h | h, h1, h2⟩
  · cases h
  · cases h
  · cases h
  · cases h
  · cases h
    exact ⟨h1, h2⟩
  · cases h
/-- such a thing, as a text or none -/
theorem Rp.txt {v : V} {d : PyData} {n : Nat} (h : Rp H v d) (f : Fit n d) : TxtV H v := by
  cases h with
  | non => exact .inr .non
  | bl b => exact .inr (.bl b)
  | int i => exact .inr (.int i)
  | str x =>
    have : x.length ≤ 1000 := by
      cases n with
      | zero => rcases f with (h | ⟨b, h⟩ | ⟨i, h⟩) | ⟨y, h, hl, _⟩ <;> cases h; exact hl
      | succ n => rcases f with ((h | ⟨b, h⟩ | ⟨i, h⟩) | ⟨y, h, hl, _⟩) | ⟨es, h | h, _⟩ <;> cases h; exact hl
    exact .inl ⟨x, rfl, by omega⟩
  | lst h r => exact .inr (.lst h)
  | tup h r => exact .inr (.tup h)
theorem Rp.thg {v : V} {d : PyData} (h : Rp H v d) : Thg H v := by
  cases h with
  | non => exact .non
  | bl b => exact .bl b
  | int i => exact .int i
  | str x => exact .str x
  | lst h r => exact .lst h
  | tup h r => exact .tup h
end
/-- what a def keeps at its room, it keeps at more -/
theorem fnok_mono {P : Program} {w : World} {K : PySem.W.Frag} {mg : Str → Option Value} {base : Heap} {CX : CXT} {k k' : Nat} {f : Addr} {fd : FuncData} {ps : List Str} {sp : Sp} (F : FnOk P w K mg base CX k f fd ps sp) (h : k ≤ k') : FnOk P w K mg base CX k' f fd ps sp :=
  ⟨F.len, fun A outer s H args us vs Q E hr => F.run A outer s H args us vs Q E (hr.mono h)⟩
end Bw

/-! queries, plainly: on data -/
namespace Bw
open PySem PySem.Spec PyProof.Rows L2 LamX
def isWD : PyData → Bool
  | .str x => isW x
  | _ => false
theorem isWD_of {H : Hp} {v : V} {d : PyData} (h : Rp H v d) : isWV v = isWD d := by
  cases h <;> rfl
def joinC (cs : List (Option Nat)) : Option Nat := if 2 ≤ cs.length ∧ cs.length ≤ 4 ∧ cs.all (·.isSome) = true then some (cs.filterMap id).sum else none
def nearC : List PyData → Option Nat
  | [.int f, a, b] => if 1 ≤ f ∧ f ≤ 20 ∧ isWD a = true ∧ isWD b = true then some 2 else none
  | _ => none
def wordC (ps : List PyData) : Option Nat := if ps.length = 1 ∧ ps.all isWD = true then some 1 else none
def phraseC (ps : List PyData) : Option Nat := if 2 ≤ ps.length ∧ ps.length ≤ 5 ∧ ps.all isWD = true then some ps.length else none
def butC (cs : List (Option Nat)) : Option Nat := if cs.length = 2 then joinC cs else none
/-- how many words a query of at most so many within one another has -/
def cnt : Nat → PyData → Option Nat
  | 0, _ => none
  | n + 1, .tuple (.str k :: ps) =>
    if k = "word" then wordC ps else if k = "phrase" then phraseC ps else if k = "near" then nearC ps
    else if k = "and" then joinC (ps.map (cnt n)) else if k = "or" then joinC (ps.map (cnt n)) else if k = "but" then butC (ps.map (cnt n)) else none
  | _ + 1, _ => none
def cntV : Option Nat → V
  | some m => .int m
  | none => .non
theorem sum_bound {f : Option Nat → Nat} : True := trivial
def strD : PyData → Option Str
  | .str x => some x
  | _ => none
/-- the words that count -/
def wIn : Nat → PyData → List Str
  | 0, _ => []
  | n + 1, .tuple (.str k :: ps) =>
    if k = "word" ∨ k = "phrase" then ps.filterMap strD else if k = "near" then (ps.drop 1).filterMap strD
    else if k = "but" then ((ps.take 1).map (wIn n)).flatten else (ps.map (wIn n)).flatten
  | _ + 1, _ => []
theorem words_all : ∀ {ps : List PyData}, ps.all isWD = true → ∃ ws : List Str, ps = ws.map PyData.str ∧ ∀ w ∈ ws, isW w = true
  | [], _ => ⟨[], rfl, fun w hw => absurd hw (by simp)⟩
  | p :: r, h => by
    rw [List.all_cons, Bool.and_eq_true] at h
    obtain ⟨ws, rfl, hw⟩ := words_all h.2
    cases p with
    | str x => exact ⟨x :: ws, rfl, fun w hm => by
        rcases List.mem_cons.mp hm with rfl | hm
        · exact h.1
        · exact hw w hm⟩
    | _ => exact absurd h.1 (by unfold isWD; exact Bool.noConfusion)
theorem filt_str (ws : List Str) : (ws.map PyData.str).filterMap strD = ws := by
  induction ws with
  | nil => rfl
  | cons w r ih => simp [strD, ih]
/-- a query, as it is built -/
inductive QOf (n : Nat) : PyData → Nat → Prop
  | word {w : Str} : isW w = true → QOf n (.tuple [.str "word", .str w]) 1
  | phrase {ws : List Str} : 2 ≤ ws.length → ws.length ≤ 5 → (∀ w ∈ ws, isW w = true) → QOf n (.tuple (.str "phrase" :: ws.map PyData.str)) ws.length
  | near {f : Int} {a b : Str} : 1 ≤ f → f ≤ 20 → isW a = true → isW b = true → QOf n (.tuple [.str "near", .int f, .str a, .str b]) 2
  | join {k : Str} {ps : List PyData} {m : Nat} : (k = "and" ∨ k = "or" ∨ k = "but") → (k = "but" → ps.length = 2) → joinC (ps.map (cnt n)) = some m → QOf n (.tuple (.str k :: ps)) m
theorem wordC_some {ps : List PyData} {m : Nat} (h : wordC ps = some m) : ∃ w : Str, ps = [.str w] ∧ isW w = true ∧ m = 1 := by
  unfold wordC at h
  split at h
  · rename_i hc
    obtain ⟨ws, rfl, hw⟩ := words_all hc.2
    have hl : ws.length = 1 := by simpa using hc.1
    match ws, hl with
    | [w], _ => exact ⟨w, rfl, hw w (by simp), (Option.some.inj h).symm⟩
  · cases h
theorem phraseC_some {ps : List PyData} {m : Nat} (h : phraseC ps = some m) : ∃ ws : List Str, ps = ws.map PyData.str ∧ 2 ≤ ws.length ∧ ws.length ≤ 5 ∧ (∀ w ∈ ws, isW w = true) ∧ m = ws.length := by
  unfold phraseC at h
  split at h
  · rename_i hc
    obtain ⟨ws, rfl, hw⟩ := words_all hc.2.2
    rw [List.length_map] at hc h
    exact ⟨ws, rfl, hc.1, hc.2.1, hw, (Option.some.inj h).symm⟩
  · cases h
theorem isWD_str {d : PyData} (h : isWD d = true) : ∃ x, d = .str x ∧ isW x = true := by
  cases d with
  | str x => exact ⟨x, rfl, h⟩
  | _ => exact absurd h (by unfold isWD; exact Bool.noConfusion)
theorem nearC_some {ps : List PyData} {m : Nat} (h : nearC ps = some m) : ∃ (f : Int) (a b : Str), ps = [.int f, .str a, .str b] ∧ 1 ≤ f ∧ f ≤ 20 ∧ isW a = true ∧ isW b = true ∧ m = 2 := by
  unfold nearC at h
  split at h
  · rename_i f a b
    split at h
    · rename_i hc
      obtain ⟨x, rfl, hx⟩ := isWD_str hc.2.2.1
      obtain ⟨y, rfl, hy⟩ := isWD_str hc.2.2.2
      exact ⟨f, x, y, rfl, hc.1, hc.2.1, hx, hy, (Option.some.inj h).symm⟩
    · cases h
  · cases h
theorem cnt_inv {n : Nat} {d : PyData} {m : Nat} (h : cnt (n + 1) d = some m) : QOf n d m := by
  unfold cnt at h
  split at h
  · contradiction
  · rename_i n' k ps hn
    cases hn
    split at h
    · rename_i hk
      subst hk
      obtain ⟨w, rfl, hw, rfl⟩ := wordC_some h
      exact .word hw
    · split at h
      · rename_i hk
        subst hk
        obtain ⟨ws, rfl, h1, h2, h3, rfl⟩ := phraseC_some h
        exact .phrase h1 h2 h3
      · split at h
        · rename_i hk
          subst hk
          obtain ⟨f, a, b, rfl, h1, h2, h3, h4, rfl⟩ := nearC_some h
          exact .near h1 h2 h3 h4
        · split at h
          · rename_i hk
            exact .join (.inl hk) (fun z => by rw [hk] at z; exact absurd z (by decide +kernel)) h
          · split at h
            · rename_i hk
              exact .join (.inr (.inl hk)) (fun z => by rw [hk] at z; exact absurd z (by decide +kernel)) h
            · split at h
              · rename_i hk
                unfold butC at h
                split at h
                · rename_i hl
                  rw [List.length_map] at hl
                  exact .join (.inr (.inr hk)) (fun _ => hl) h
                · cases h
              · cases h
  · cases h
theorem cnt_word {n : Nat} {w : Str} (h : isW w = true) : cnt (n + 1) (.tuple [.str "word", .str w]) = some 1 := by
  unfold cnt
  rw [if_pos rfl]
  unfold wordC
  rw [if_pos ⟨rfl, by simp [isWD, h]⟩]
theorem cnt_phrase {n : Nat} {ws : List Str} (h1 : 2 ≤ ws.length) (h2 : ws.length ≤ 5) (h : ∀ w ∈ ws, isW w = true) : cnt (n + 1) (.tuple (.str "phrase" :: ws.map PyData.str)) = some ws.length := by
  unfold cnt
  rw [if_neg (by decide +kernel), if_pos rfl]
  unfold phraseC
  have ha : (ws.map PyData.str).all isWD = true := by
    rw [List.all_eq_true]
    intro d hd
    obtain ⟨w, hw, rfl⟩ := List.mem_map.mp hd
    exact h w hw
  rw [List.length_map, if_pos ⟨h1, h2, ha⟩]
theorem cnt_near {n : Nat} {f : Int} {a b : Str} (h1 : 1 ≤ f) (h2 : f ≤ 20) (ha : isW a = true) (hb : isW b = true) : cnt (n + 1) (.tuple [.str "near", .int f, .str a, .str b]) = some 2 := by
  unfold cnt
  rw [if_neg (by decide +kernel), if_neg (by decide +kernel), if_pos rfl]
  unfold nearC
  simp only
  rw [if_pos ⟨h1, h2, ha, hb⟩]
theorem cnt_and {n : Nat} {ps : List PyData} : cnt (n + 1) (.tuple (.str "and" :: ps)) = joinC (ps.map (cnt n)) := by
  rw [cnt, if_neg (by decide +kernel), if_neg (by decide +kernel), if_neg (by decide +kernel), if_pos rfl]
theorem cnt_or {n : Nat} {ps : List PyData} : cnt (n + 1) (.tuple (.str "or" :: ps)) = joinC (ps.map (cnt n)) := by
  rw [cnt, if_neg (by decide +kernel), if_neg (by decide +kernel), if_neg (by decide +kernel), if_neg (by decide +kernel), if_pos rfl]
theorem cnt_but {n : Nat} {ps : List PyData} : cnt (n + 1) (.tuple (.str "but" :: ps)) = butC (ps.map (cnt n)) := by
  rw [cnt, if_neg (by decide +kernel), if_neg (by decide +kernel), if_neg (by decide +kernel), if_neg (by decide +kernel), if_neg (by decide +kernel), if_pos rfl]
/-- all are queries -/
theorem join_some {n : Nat} {ps : List PyData} {m : Nat} (h : joinC (ps.map (cnt n)) = some m) : 2 ≤ ps.length ∧ ps.length ≤ 4 ∧ ∀ p ∈ ps, ∃ c, cnt n p = some c := by
  unfold joinC at h
  split at h
  · rename_i hc
    rw [List.length_map] at hc
    refine ⟨hc.1, hc.2.1, fun p hp => ?_⟩
    have := List.all_eq_true.mp hc.2.2 _ (List.mem_map.mpr ⟨p, hp, rfl⟩)
    exact Option.isSome_iff_exists.mp this
  · cases h
theorem noLs_all {ds : List PyData} (h : ∀ d ∈ ds, noL d = true) : noLs ds = true := by
  induction ds with
  | nil => rfl
  | cons d r ih =>
    rw [noLs, h d List.mem_cons_self, ih (fun e he => h e (List.mem_cons_of_mem _ he))]
    rfl
theorem cnt_noL : ∀ {n : Nat} {d : PyData} {m : Nat}, cnt n d = some m → noL d = true
  | 0, d, m, h => by cases h
  | n + 1, d, m, h => by
    cases cnt_inv h with
    | word => rfl
    | phrase =>
      rw [noL]
      refine noLs_all fun d hd => ?_
      rcases List.mem_cons.mp hd with rfl | hd
      · rfl
      · obtain ⟨w, _, rfl⟩ := List.mem_map.mp hd
        rfl
    | near => rfl
    | join h1 h2 h3 =>
      rw [noL]
      refine noLs_all fun d hd => ?_
      rcases List.mem_cons.mp hd with rfl | hd
      · rfl
      · obtain ⟨c, hc⟩ := (join_some h3).2.2 d hd
        exact cnt_noL hc
theorem kind_fit {k : Str} {n : Nat} (h : k = "and" ∨ k = "or" ∨ k = "but") : Fit n (.str k) := by
  rcases h with rfl | rfl | rfl <;> exact fit_str (by decide +kernel) (by decide +kernel)
theorem cnt_fit : ∀ {n : Nat} {d : PyData} {m : Nat}, cnt n d = some m → Fit n d
  | 0, d, m, h => by cases h
  | n + 1, d, m, h => by
    cases cnt_inv h with
    | word hw =>
      refine fit_tup (by simp) fun e he => ?_
      simp only [List.mem_cons, List.not_mem_nil, or_false] at he
      rcases he with rfl | rfl
      · exact fit_str (by decide +kernel) (by decide +kernel)
      · exact fit_word hw
    | phrase h1 h2 h3 =>
      refine fit_tup (by simp; omega) fun e he => ?_
      rcases List.mem_cons.mp he with rfl | he
      · exact fit_str (by decide +kernel) (by decide +kernel)
      · obtain ⟨w, hw, rfl⟩ := List.mem_map.mp he
        exact fit_word (h3 w hw)
    | near h1 h2 ha hb =>
      refine fit_tup (by simp) fun e he => ?_
      simp only [List.mem_cons, List.not_mem_nil, or_false] at he
      rcases he with rfl | rfl | rfl | rfl
      · exact fit_str (by decide +kernel) (by decide +kernel)
      · exact fit_int
      · exact fit_word ha
      · exact fit_word hb
    | join h1 h2 h3 =>
      obtain ⟨j1, j2, j3⟩ := join_some h3
      refine fit_tup (by simp; omega) fun e he => ?_
      rcases List.mem_cons.mp he with rfl | he
      · exact kind_fit h1
      · obtain ⟨c, hc⟩ := j3 e he
        exact cnt_fit hc
/-- deeper is let -/
theorem cnt_succ : ∀ {n : Nat} {d : PyData} {m : Nat}, cnt n d = some m → cnt (n + 1) d = some m
  | 0, d, m, h => by cases h
  | n + 1, d, m, h => by
    have key : ∀ {ps : List PyData} {m : Nat}, joinC (ps.map (cnt n)) = some m → joinC (ps.map (cnt (n + 1))) = some m := fun {ps m} hj => by
      have e : ps.map (cnt (n + 1)) = ps.map (cnt n) := List.map_congr_left fun p hp => by
        obtain ⟨c, hc⟩ := (join_some hj).2.2 p hp
        rw [hc, cnt_succ hc]
      rw [e]
      exact hj
    cases cnt_inv h with
    | word hw => exact cnt_word hw
    | phrase h1 h2 h3 => exact cnt_phrase h1 h2 h3
    | near h1 h2 ha hb => exact cnt_near h1 h2 ha hb
    | join h1 h2 h3 =>
      rcases h1 with rfl | rfl | rfl
      · rw [cnt_and]; exact key h3
      · rw [cnt_or]; exact key h3
      · rw [cnt_but]
        unfold butC
        rw [List.length_map, if_pos (h2 rfl)]
        exact key h3
theorem cnt_mono {n k : Nat} {d : PyData} {m : Nat} (h : cnt n d = some m) (l : n ≤ k) : cnt k d = some m := by
  induction l with
  | refl => exact h
  | step _ ih => exact cnt_succ ih
/-- the words of a query -/
theorem wIn_ok : ∀ {n : Nat} {d : PyData} {m : Nat}, cnt n d = some m → (wIn n d).length ≤ m ∧ ∀ w ∈ wIn n d, isW w = true
  | 0, d, m, h => by cases h
  | n + 1, d, m, h => by
    cases cnt_inv h with
    | word hw =>
      rw [wIn, if_pos (.inl rfl)]
      exact ⟨by simp [strD], fun w hm => by simp [strD] at hm; rw [hm]; exact hw⟩
    | phrase h1 h2 h3 =>
      rw [wIn, if_pos (.inr rfl), filt_str]
      exact ⟨Nat.le_refl _, h3⟩
    | near h1 h2 ha hb =>
      rw [wIn, if_neg (by decide +kernel), if_pos rfl]
      refine ⟨by simp [strD], fun w hm => ?_⟩
      simp [strD] at hm
      rcases hm with rfl | rfl
      · exact ha
      · exact hb
    | @join k ps _ h1 h2 h3 =>
      obtain ⟨j1, j2, j3⟩ := join_some h3
      have hm : ((ps.map (cnt n)).filterMap id).sum = m := by
        unfold joinC at h3
        split at h3
        · exact Option.some.inj h3
        · cases h3
      have hsum : ∀ l : List PyData, (∀ p ∈ l, ∃ c, cnt n p = some c) → ((l.map (wIn n)).flatten.length ≤ ((l.map (cnt n)).filterMap id).sum ∧ ∀ w ∈ (l.map (wIn n)).flatten, isW w = true) := by
        intro l
        induction l with
        | nil => intro _; exact ⟨Nat.le_refl _, fun w hw => absurd hw (by simp)⟩
        | cons p r ih =>
          intro hl
          obtain ⟨c, hc⟩ := hl p List.mem_cons_self
          obtain ⟨i1, i2⟩ := wIn_ok hc
          obtain ⟨r1, r2⟩ := ih (fun q hq => hl q (List.mem_cons_of_mem _ hq))
          rw [List.map_cons, List.flatten_cons, List.map_cons, hc]
          refine ⟨by simp only [List.length_append, List.filterMap_cons, id, List.sum_cons]; omega, fun w hw => ?_⟩
          rcases List.mem_append.mp hw with hw | hw
          · exact i2 w hw
          · exact r2 w hw
      have hpre : ∀ l : List PyData, (((l.take 1).map (cnt n)).filterMap id).sum ≤ ((l.map (cnt n)).filterMap id).sum := by
        intro l
        cases l with
        | nil => simp
        | cons p r =>
          simp only [List.take_succ_cons, List.take_zero, List.map_cons, List.map_nil]
          cases cnt n p with
          | none => simp
          | some c => simp
      have kd : ¬ (k = "word" ∨ k = "phrase") := by
        rcases h1 with rfl | rfl | rfl <;> decide +kernel
      have kn : ¬ k = "near" := by
        rcases h1 with rfl | rfl | rfl <;> decide +kernel
      rw [wIn, if_neg kd, if_neg kn]
      split
      · obtain ⟨a, b⟩ := hsum (ps.take 1) (fun p hp => j3 p (List.mem_of_mem_take hp))
        exact ⟨Nat.le_trans a (hm ▸ hpre ps), b⟩
      · obtain ⟨a, b⟩ := hsum ps j3
        exact ⟨hm ▸ a, b⟩
section
variable {K : PySem.W.Frag} {H : Hp} {Q : VK}
theorem w_inV {p : Addr} {xs : List V} {x : V} (hs : SqL K H p xs ∨ SqT K H p xs) (fx : flatV x = true) (fs : xs.all flatV = true) (q : Q (.bl (inV x xs)) H) : rIn K false x (.ref p) H Q := ⟨p, xs, rfl, hs, fx, fs, q⟩
theorem w_decN {c A B : Prop} {dc : Decidable c} (h1 : c → B) (h2 : ¬ c → A) : if (!decide c) = true then A else B := by
  by_cases h : c
  · rw [if_neg (by rw [decide_eq_true h]; exact Bool.noConfusion)]
    exact h1 h
  · rw [if_pos (by rw [decide_eq_false h]; rfl)]
    exact h2 h
end
theorem cnt_flat (cs : List (Option Nat)) : (cs.map cntV).all flatV = true := by
  rw [List.all_eq_true]
  intro v hv
  obtain ⟨o, _, rfl⟩ := List.mem_map.mp hv
  cases o <;> rfl
theorem cnt_none (cs : List (Option Nat)) : inV .non (cs.map cntV) = !cs.all (·.isSome) := by
  unfold inV
  induction cs with
  | nil => rfl
  | cons o r ih =>
    rw [List.map_cons, List.any_cons, ih, List.all_cons]
    cases o with
    | none => simp [cntV, eqV]
    | some m => simp [cntV, eqV]
theorem cnt_all : ∀ {cs : List (Option Nat)}, cs.all (·.isSome) = true → ∃ ms : List Nat, cs = ms.map some
  | [], _ => ⟨[], rfl⟩
  | o :: r, h => by
    rw [List.all_cons, Bool.and_eq_true] at h
    obtain ⟨ms, rfl⟩ := cnt_all h.2
    cases o with
    | none => cases h.1
    | some m => exact ⟨m :: ms, rfl⟩
theorem sum_cast : ∀ ms : List Nat, (ms.map fun m : Nat => (m : Int)).sum = ((ms.sum : Nat) : Int)
  | [] => rfl
  | m :: r => by
    rw [List.map_cons, List.sum_cons, List.sum_cons, sum_cast r]
    omega
/-- a query -/
def isQ (d : PyData) : Bool := match cnt 5 d with
  | some m => decide (m ≤ 12)
  | none => false
end Bw

namespace Bw
open PySem PySem.Spec PyProof.Rows L2 LamX
/-! ### slices by places, tuples put together -/
theorem sIx_nat {n d i : Nat} (h : i ≤ n) : HT.sIx n d (some (i : Int)) = i := by
  unfold HT.sIx
  simp only
  split <;> omega
theorem sIx_big {n d : Nat} {i : Int} (h : (n : Int) ≤ i) : HT.sIx n d (some i) = n := by
  unfold HT.sIx
  simp only
  split <;> omega
theorem sIx_none {n d : Nat} : HT.sIx n d none = d := rfl
theorem cutV_drop {xs : List V} {i : Nat} (h : i ≤ xs.length) : cutV xs (some (i : Int)) none = xs.drop i := by
  unfold cutV
  rw [sIx_nat h, sIx_none, List.take_of_length_le (by rw [List.length_drop]; omega)]
theorem cutV_mid {xs : List V} {i j : Nat} (h : i ≤ j) (h2 : j ≤ xs.length) : cutV xs (some (i : Int)) (some (j : Int)) = (xs.drop i).take (j - i) := by
  unfold cutV
  rw [sIx_nat (i := i) (by omega), sIx_nat (i := j) h2]
theorem cutV_take {xs : List V} {j : Nat} (h2 : j ≤ xs.length) : cutV xs none (some (j : Int)) = xs.take j := by
  unfold cutV
  rw [sIx_nat h2, sIx_none, List.drop_zero, Nat.sub_zero]
section
variable {K : PySem.W.Frag} {H : Hp} {Q : VK}
/-- t[i:], i above 0 -/
theorem w_slTd {a : Addr} {xs : List V} {i : Nat} (h : SqT K H a xs) (h0 : 0 < i) (hi : i ≤ xs.length) (k : ∀ p H2, H p = none → Same H H2 → H2 p = some (.tup (xs.drop i)) → Q (.ref p) H2) : rSlT K (.ref a) (some (i : Int)) none H Q :=
  ⟨a, xs, rfl, h, fun z => by rw [sIx_nat hi] at z; omega, fun p n => k p _ n (same_new n) (by rw [cutV_drop hi]; exact upd_same)⟩
/-- t[i:] behind the end -/
theorem w_slTe {a : Addr} {xs : List V} {i : Int} (h : SqT K H a xs) (h0 : 0 < xs.length) (hi : (xs.length : Int) ≤ i) (k : ∀ p H2, H p = none → Same H H2 → H2 p = some (.tup []) → Q (.ref p) H2) : rSlT K (.ref a) (some i) none H Q :=
  ⟨a, xs, rfl, h, fun z => by rw [sIx_big hi] at z; omega, fun p n => k p _ n (same_new n) (by
    have : cutV xs (some i) none = [] := by
      unfold cutV
      rw [sIx_big hi]
      simp
    rw [this]; exact upd_same)⟩
/-- t[i:j] -/
theorem w_slTm {a : Addr} {xs : List V} {i j : Nat} (h : SqT K H a xs) (h0 : 0 < i) (hij : i ≤ j) (hj : j ≤ xs.length) (k : ∀ p H2, H p = none → Same H H2 → H2 p = some (.tup ((xs.drop i).take (j - i))) → Q (.ref p) H2) : rSlT K (.ref a) (some (i : Int)) (some (j : Int)) H Q :=
  ⟨a, xs, rfl, h, fun z => by rw [sIx_nat (by omega)] at z; omega, fun p n => k p _ n (same_new n) (by rw [cutV_mid hij hj]; exact upd_same)⟩
theorem w_catT {a b : Addr} {xs ys : List V} (ha : H a = some (.tup xs)) (hb : H b = some (.tup ys)) (hx : xs ≠ []) (hl : xs.length + ys.length ≤ 100000) (k : ∀ p H2, Same H H2 → H2 p = some (.tup (xs ++ ys)) → Q (.ref p) H2) : rCatT K (.ref a) (.ref b) H Q :=
  ⟨a, b, xs, ys, rfl, rfl, .of ha, .of hb, hx, Nat.le_trans hl (by decide), fun e => k a H (.refl _) (by rw [e, List.append_nil]; exact ha), fun _ p n => k p _ (same_new n) upd_same⟩
end
/-- an if whose test is known, what is behind it once -/
theorem w_ifB {tt : TT} {t u : TS} {D : Ends} {σ : L2.St} {H : Hp} (b : Bool) (H' : Hp) (h : ∀ QB : Bool → Hp → Prop, QB b H' → tt σ H QB) (k : if b = true then t D σ H' else u D σ H') : tIfS tt t u D σ H := h _ k
/-- a vacuous promise -/
theorem fnok_no {P : Program} {w : World} {K : PySem.W.Frag} {mg : Str → Option Value} {base : Heap} {CX : CXT} {k : Nat} {f : Addr} {fd : FuncData} {ps : List Str} {sp : Sp} (h : ∀ vs H Q E, ¬ sp vs H Q E) : FnOk P w K mg base CX k f fd ps sp :=
  ⟨fun vs H Q E z => absurd z (h vs H Q E), fun A outer s H args us vs Q E _ _ _ _ z => absurd z (h vs H Q E)⟩
/-! ### a dict of defs, written at the top -/
structure Ent where
  (k : Str) (t : Tok) (v : Value)
def Ent.de (P : Params) (e : Ent) : DictEntry := ⟨PyData.keyHash P e.k, .str e.k e.t, e.v⟩
theorem lits (P : Params) : ∀ es : List Ent, PySem.W.KeysLit P (es.map (Ent.de P))
  | [] => trivial
  | e :: r => ⟨⟨e.k, e.t, rfl, rfl⟩, lits P r⟩
theorem ns_lits {K : PySem.W.Frag} {P : Params} {D : Addr} {c : Value} {o : Option Addr} {n : Nat} {sl : Array (Option Value)} {es : List Ent} (h : K.lookup D = some ⟨c, o, .dict (es.map (Ent.de P)).toArray n, sl⟩) (k : Str) :
    PySem.W.nsIn K D k = some ((es.find? fun e => decide (e.k = k)).map (·.v)) := by
  unfold PySem.W.nsIn
  rw [h]
  simp only [List.toList_toArray]
  have e1 : ∀ l : List Ent, (l.map (Ent.de P)).find? (fun x => x.key.isStr k) = (l.find? fun e => decide (e.k = k)).map (Ent.de P) := by
    intro l
    induction l with
    | nil => rfl
    | cons e r ih =>
      rw [List.map_cons, List.find?_cons, List.find?_cons, ih]
      have : (Ent.de P e).key.isStr k = decide (e.k = k) := by
        show (Value.str e.k e.t).isStr k = _
        rw [PySem.W.isStr_of]
        show (e.k == k) = _
        by_cases hk : e.k = k
        · simp [hk]
        · simp [hk]
      rw [this]
      split <;> rfl
  have e2 : ∀ l : List Ent, (l.map (Ent.de P)).any (·.refKey) = false := by
    intro l
    rw [List.any_eq_false]
    intro x hx
    obtain ⟨e, _, rfl⟩ := List.mem_map.mp hx
    exact Bool.false_ne_true
  rw [e1 es, e2 es]
  cases es.find? fun e => decide (e.k = k) with
  | none => rfl
  | some e => rfl
theorem kdict_lits {K : PySem.W.Frag} {w : World} {D : Addr} {n : Nat} {es : List Ent} (h : K.lookup D = some ⟨.type "dict", none, .dict (es.map (Ent.de w.params)).toArray n, #[]⟩) (low : (D == sysModules) = false) : KDict K w D (es.map (Ent.de w.params)).toArray n :=
  ⟨h, by simpa using lits w.params es, low⟩
end Bw

/-! what a page has of a query, plainly -/
namespace Bw
open PySem PySem.Spec PyProof.Rows L2 LamX
/-- where some words stand one behind another -/
def runP (held us : List Str) : List Nat := (plc held (us.headD "")).filter fun i => decide ((held.drop i).take us.length = us)
def isNear (f : Int) (i j : Nat) : Bool := decide (1 ≤ ((i : Int) - j).natAbs ∧ ((((i : Int) - j).natAbs : Nat) : Int) ≤ f)
/-- where two words stand near one another -/
def nearP (f : Int) (a b : Str) (held : List Str) : List (Nat × Nat) := ((plc held a).map fun i => ((plc held b).filter fun j => isNear f i j).map fun j => (i, j)).flatten
def pD (q : Nat × Nat) : PyData := .tuple [.int q.1, .int q.2]
def nearD (ps : List PyData) (held : List Str) : PyData := match ps with
  | [.int f, .str a, .str b] => .list ((nearP f a b held).map pD)
  | _ => .none
def plcD (d : PyData) (held : List Str) : PyData := match d with
  | .tuple (.str k :: ps) => if k = "near" then nearD ps held
    else if k = "word" ∨ k = "phrase" then .list ((runP held (ps.filterMap strD)).map nD) else .none
  | _ => .none
def hasN : PyData → Bool
  | .list [] => false
  | _ => true
/-- whether a page has what a query asks -/
def hasQ : Nat → PyData → List Str → Bool
  | 0, _, _ => false
  | n + 1, .tuple (.str k :: ps), held =>
    if k = "and" then (ps.map fun p => hasQ n p held).all id else if k = "or" then (ps.map fun p => hasQ n p held).any id
    else if k = "but" then (((ps.take 1).map fun p => hasQ n p held).all id && !((ps.drop 1).map fun p => hasQ n p held).any id)
    else hasN (plcD (.tuple (.str k :: ps)) held)
  | _ + 1, _, _ => false
theorem good_nD (ns : List Nat) : GoodD (.list (ns.map nD)) 2 := (good_list (n := 1) fun d hd => by
  obtain ⟨n, _, rfl⟩ := List.mem_map.mp hd
  exact good_int)
theorem good_pD (qs : List (Nat × Nat)) : GoodD (.list (qs.map pD)) 2 := good_list fun d hd => by
  obtain ⟨q, _, rfl⟩ := List.mem_map.mp hd
  exact good_tuple fun e he => by
    simp only [List.mem_cons, List.not_mem_nil, or_false] at he
    rcases he with rfl | rfl
    · exact good_int
    · exact good_int
theorem plc_lt {ws : List Str} {w : Str} {i : Nat} (h : i ∈ plc ws w) : i < ws.length ∧ ws[i]? = some w := by
  unfold plc at h
  rw [List.mem_filter, List.mem_range] at h
  exact ⟨h.1, of_decide_eq_true h.2⟩
theorem plc_mem {ws : List Str} {w : Str} {i : Nat} : i ∈ plc ws w ↔ ws[i]? = some w := by
  refine ⟨fun h => (plc_lt h).2, fun h => ?_⟩
  unfold plc
  rw [List.mem_filter, List.mem_range]
  exact ⟨(List.getElem?_eq_some_iff.mp h).1, decide_eq_true h⟩
theorem runP_len (held us : List Str) : (runP held us).length ≤ held.length := by
  unfold runP
  exact Nat.le_trans (List.length_filter_le _ _) (plc_len _ _)
theorem nearP_len (f : Int) (a b : Str) (held : List Str) : (nearP f a b held).length ≤ held.length * held.length := by
  unfold nearP
  rw [List.length_flatten]
  have h := sum_le (l := (((plc held a).map fun i => ((plc held b).filter fun j => isNear f i j).map fun j => (i, j)).map List.length)) (c := held.length) (fun x hx => by
    obtain ⟨l, hl, rfl⟩ := List.mem_map.mp hx
    obtain ⟨i, _, rfl⟩ := List.mem_map.mp hl
    rw [List.length_map]
    exact Nat.le_trans (List.length_filter_le _ _) (plc_len _ _))
  rw [List.length_map, List.length_map] at h
  exact Nat.le_trans h (Nat.mul_le_mul_right _ (plc_len _ _))
theorem hasQ_and {n : Nat} {ps : List PyData} {held : List Str} : hasQ (n + 1) (.tuple (.str "and" :: ps)) held = (ps.map fun p => hasQ n p held).all id := by
  rw [hasQ, if_pos rfl]
theorem hasQ_or {n : Nat} {ps : List PyData} {held : List Str} : hasQ (n + 1) (.tuple (.str "or" :: ps)) held = (ps.map fun p => hasQ n p held).any id := by
  rw [hasQ, if_neg (by decide +kernel), if_pos rfl]
theorem hasQ_but {n : Nat} {a b : PyData} {held : List Str} : hasQ (n + 1) (.tuple [.str "but", a, b]) held = (hasQ n a held && !hasQ n b held) := by
  rw [hasQ, if_neg (by decide +kernel), if_neg (by decide +kernel), if_pos rfl]
  simp
theorem plcD_near {f : Int} {a b : Str} {held : List Str} : plcD (.tuple [.str "near", .int f, .str a, .str b]) held = .list ((nearP f a b held).map pD) := by
  rw [plcD, if_pos rfl]
  rfl
theorem plcD_word {a : Str} {held : List Str} : plcD (.tuple [.str "word", .str a]) held = .list ((runP held [a]).map nD) := by
  rw [plcD, if_neg (by decide +kernel), if_pos (.inl rfl)]
  rfl
theorem plcD_phrase {ws : List Str} {held : List Str} : plcD (.tuple (.str "phrase" :: ws.map PyData.str)) held = .list ((runP held ws).map nD) := by
  rw [plcD, if_neg (by decide +kernel), if_pos (.inr rfl), filt_str]
theorem hasQ_plc {n : Nat} {k : Str} {ps : List PyData} {held : List Str} (h1 : ¬ k = "and") (h2 : ¬ k = "or") (h3 : ¬ k = "but") : hasQ (n + 1) (.tuple (.str k :: ps)) held = hasN (plcD (.tuple (.str k :: ps)) held) := by
  rw [hasQ, if_neg h1, if_neg h2, if_neg h3]
theorem plcD_list' (held : List Str) {n m : Nat} {k : Str} {ps : List PyData} (h : QOf n (.tuple (.str k :: ps)) m) (h1 : ¬ k = "and") (h2 : ¬ k = "or") (h3 : ¬ k = "but") : ∃ ds, plcD (.tuple (.str k :: ps)) held = .list ds ∧ GoodD (.list ds) 2 := by
  cases h with
  | word hw => exact ⟨_, plcD_word, good_nD _⟩
  | phrase a b c => exact ⟨_, plcD_phrase, good_nD _⟩
  | near a b c d => exact ⟨_, plcD_near, good_pD _⟩
  | join a _ _ => rcases a with a | a | a <;> contradiction
theorem plcD_list (held : List Str) {m : Nat} {d : PyData} (h : cnt 1 d = some m) : ∃ ds, plcD d held = .list ds := by
  cases cnt_inv h with
  | word hw => exact ⟨_, plcD_word⟩
  | phrase a b c => exact ⟨_, plcD_phrase⟩
  | near a b c d => exact ⟨_, plcD_near⟩
  | @join k ps _ a b c =>
    obtain ⟨j1, j2, j3⟩ := join_some c
    cases ps with
    | nil => simp at j1
    | cons p r =>
      obtain ⟨c, hc⟩ := j3 p (by simp)
      cases hc
theorem w_any {K : PySem.W.Frag} {bs : List Bool} {a : Addr} {xs : List V} {H : Hp} {Q : VK} (e : xs = bs.map V.bl) (h : SqL K H a xs) (q : Q (.bl (bs.any id)) H) : rAny K [.ref a] H Q := ⟨a, bs, rfl, e ▸ h, q⟩
theorem hasQ_and2 {n : Nat} {a b : PyData} {held : List Str} : hasQ (n + 1) (.tuple [.str "and", a, b]) held = (hasQ n a held && hasQ n b held) := by
  rw [hasQ_and]; simp
theorem hasQ_and3 {n : Nat} {a b c : PyData} {held : List Str} : hasQ (n + 1) (.tuple [.str "and", a, b, c]) held = (hasQ n a held && (hasQ n b held && hasQ n c held)) := by
  rw [hasQ_and]; simp
theorem hasQ_or2 {n : Nat} {a b : PyData} {held : List Str} : hasQ (n + 1) (.tuple [.str "or", a, b]) held = (hasQ n a held || hasQ n b held) := by
  rw [hasQ_or]; simp
theorem hasQ_or3 {n : Nat} {a b c : PyData} {held : List Str} : hasQ (n + 1) (.tuple [.str "or", a, b, c]) held = (hasQ n a held || (hasQ n b held || hasQ n c held)) := by
  rw [hasQ_or]; simp
theorem join2 {a b : PyData} {n x y : Nat} (h1 : cnt n a = some x) (h2 : cnt n b = some y) : joinC ([a, b].map (cnt n)) = some (x + y) := by
  simp [joinC, h1, h2]
theorem join3 {a b c : PyData} {n x y z : Nat} (h1 : cnt n a = some x) (h2 : cnt n b = some y) (h3 : cnt n c = some z) : joinC ([a, b, c].map (cnt n)) = some (x + (y + z)) := by
  simp [joinC, h1, h2, h3]
theorem cnt_and2 {a b : PyData} {n x y : Nat} (h1 : cnt n a = some x) (h2 : cnt n b = some y) : cnt (n + 1) (.tuple [.str "and", a, b]) = some (x + y) := cnt_and.trans (join2 h1 h2)
theorem cnt_or2 {a b : PyData} {n x y : Nat} (h1 : cnt n a = some x) (h2 : cnt n b = some y) : cnt (n + 1) (.tuple [.str "or", a, b]) = some (x + y) := cnt_or.trans (join2 h1 h2)
theorem cnt_and3 {a b c : PyData} {n x y z : Nat} (h1 : cnt n a = some x) (h2 : cnt n b = some y) (h3 : cnt n c = some z) : cnt (n + 1) (.tuple [.str "and", a, b, c]) = some (x + (y + z)) := cnt_and.trans (join3 h1 h2 h3)
theorem cnt_or3 {a b c : PyData} {n x y z : Nat} (h1 : cnt n a = some x) (h2 : cnt n b = some y) (h3 : cnt n c = some z) : cnt (n + 1) (.tuple [.str "or", a, b, c]) = some (x + (y + z)) := cnt_or.trans (join3 h1 h2 h3)
theorem cnt_but2 {a b : PyData} {n x y : Nat} (h1 : cnt n a = some x) (h2 : cnt n b = some y) : cnt (n + 1) (.tuple [.str "but", a, b]) = some (x + y) := by
  rw [cnt_but]
  unfold butC
  rw [if_pos (show ([a, b].map (cnt n)).length = 2 from rfl)]
  exact join2 h1 h2
/-- deeper alike -/
theorem hasQ_succ : ∀ {n : Nat} {d : PyData} {m : Nat} {held : List Str}, cnt n d = some m → hasQ (n + 1) d held = hasQ n d held
  | 0, d, m, held, h => by cases h
  | n + 1, d, m, held, h => by
    have key : ∀ {ps : List PyData} {m : Nat}, joinC (ps.map (cnt n)) = some m → (ps.map fun p => hasQ (n + 1) p held) = ps.map fun p => hasQ n p held := fun {ps m} hj => List.map_congr_left fun p hp => by
      obtain ⟨c, hc⟩ := (join_some hj).2.2 p hp
      exact hasQ_succ hc
    cases cnt_inv h with
    | word hw => rw [hasQ_plc (by decide +kernel) (by decide +kernel) (by decide +kernel), hasQ_plc (by decide +kernel) (by decide +kernel) (by decide +kernel)]
    | phrase h1 h2 h3 => rw [hasQ_plc (by decide +kernel) (by decide +kernel) (by decide +kernel), hasQ_plc (by decide +kernel) (by decide +kernel) (by decide +kernel)]
    | near h1 h2 ha hb => rw [hasQ_plc (by decide +kernel) (by decide +kernel) (by decide +kernel), hasQ_plc (by decide +kernel) (by decide +kernel) (by decide +kernel)]
    | @join k ps _ h1 h2 h3 =>
      rcases h1 with rfl | rfl | rfl
      · rw [hasQ_and, hasQ_and, key h3]
      · rw [hasQ_or, hasQ_or, key h3]
      · have hl := h2 rfl
        match ps, hl with
        | [a, b], _ =>
          obtain ⟨_, _, j3⟩ := join_some h3
          obtain ⟨x, hx⟩ := j3 a (by simp)
          obtain ⟨y, hy⟩ := j3 b (by simp)
          rw [hasQ_but, hasQ_but, hasQ_succ hx, hasQ_succ hy]
/-- an if whose answer is known, the heap not -/
theorem w_ifH {tt : TT} {t u : TS} {D : Ends} {σ : L2.St} {H : Hp} (b : Bool) (I : Hp → Prop) (h : ∀ QB : Bool → Hp → Prop, (∀ H', I H' → QB b H') → tt σ H QB) (k : ∀ H', I H' → if b = true then t D σ H' else u D σ H') : tIfS tt t u D σ H := h _ k
theorem in_two' {k : Str} : inV (.str k) [.str "word", .str "phrase"] = decide (k = "word" ∨ k = "phrase") := by
  unfold inV
  simp only [List.any_cons, List.any_nil, Bool.or_false, eqV]
  by_cases h1 : k = "word"
  · subst h1
    decide +kernel
  · by_cases h2 : k = "phrase"
    · subst h2
      decide +kernel
    · rw [decide_eq_false (fun z => z.elim h1 h2)]
      simp [Ne.symm h1, Ne.symm h2]
theorem rp_strs {H : Hp} : ∀ {xs : List V} {ws : List Str}, RpAll H xs (ws.map PyData.str) → xs = ws.map V.str := fun {xs ws} h => by
  induction ws generalizing xs with
  | nil => cases h; rfl
  | cons y r ih =>
    cases h with
    | cons h1 h2 =>
      cases h1
      rw [ih h2]
      rfl
end Bw

/-! phrases and nears -/
namespace Bw
open PySem PySem.Spec PyProof.Rows L2 LamX
theorem nearP_mem {f : Int} {a b : Str} {held : List Str} {i j : Nat} : (i, j) ∈ nearP f a b held ↔ held[i]? = some a ∧ held[j]? = some b ∧ isNear f i j = true := by
  unfold nearP
  rw [List.mem_flatten]
  constructor
  · rintro ⟨l, hl, h⟩
    obtain ⟨n, hn, rfl⟩ := List.mem_map.mp hl
    obtain ⟨m, hm, e⟩ := List.mem_map.mp h
    cases e
    rw [List.mem_filter] at hm
    exact ⟨plc_mem.mp hn, plc_mem.mp hm.1, hm.2⟩
  · rintro ⟨h1, h2, h3⟩
    exact ⟨_, List.mem_map.mpr ⟨i, plc_mem.mpr h1, rfl⟩, List.mem_map.mpr ⟨j, List.mem_filter.mpr ⟨plc_mem.mpr h2, h3⟩, rfl⟩⟩
theorem runP_mem {held ur : List Str} {u : Str} {i : Nat} : i ∈ runP held (u :: ur) ↔ (held.drop i).take (u :: ur).length = u :: ur := by
  unfold runP
  rw [List.mem_filter, List.headD_cons, plc_mem]
  constructor
  · rintro ⟨_, h⟩
    exact of_decide_eq_true h
  · intro h
    refine ⟨?_, decide_eq_true h⟩
    have e : ((held.drop i).take (u :: ur).length)[0]? = some u := by rw [h]; rfl
    rw [List.getElem?_take_of_lt (by simp), List.getElem?_drop] at e
    simpa using e
theorem take_two {l : List Str} {a b : Str} : l.take 2 = [a, b] ↔ l[0]? = some a ∧ l[1]? = some b := by
  match l with
  | [] => simp
  | [x] => simp
  | x :: y :: r => simp
theorem take_three {l : List Str} {a b c : Str} : l.take 3 = [a, b, c] ↔ l[0]? = some a ∧ l[1]? = some b ∧ l[2]? = some c := by
  match l with
  | [] => simp
  | [x] => simp
  | [x, y] => simp
  | x :: y :: z :: r => simp
theorem run2 {held : List Str} {a b : Str} {i : Nat} : i ∈ runP held [a, b] ↔ held[i]? = some a ∧ held[i + 1]? = some b := by
  rw [runP_mem]
  show (held.drop i).take 2 = [a, b] ↔ _
  rw [take_two, List.getElem?_drop, List.getElem?_drop]
  rfl
theorem run3 {held : List Str} {a b c : Str} {i : Nat} : i ∈ runP held [a, b, c] ↔ held[i]? = some a ∧ held[i + 1]? = some b ∧ held[i + 2]? = some c := by
  rw [runP_mem]
  show (held.drop i).take 3 = [a, b, c] ↔ _
  rw [take_three, List.getElem?_drop, List.getElem?_drop, List.getElem?_drop]
  rfl
theorem hasN_iff {α : Type} {f : α → PyData} {l : List α} : hasN (.list (l.map f)) = true ↔ ∃ x, x ∈ l := by
  cases l with
  | nil => simp [hasN]
  | cons x r => exact ⟨fun _ => ⟨x, by simp⟩, fun _ => rfl⟩
theorem has_near {n : Nat} {f : Int} {a b : Str} {held : List Str} : hasQ (n + 1) (.tuple [.str "near", .int f, .str a, .str b]) held = true ↔ ∃ i j, held[i]? = some a ∧ held[j]? = some b ∧ isNear f i j = true := by
  rw [hasQ_plc (by decide +kernel) (by decide +kernel) (by decide +kernel), plcD_near, hasN_iff]
  constructor
  · rintro ⟨⟨i, j⟩, h⟩
    exact ⟨i, j, nearP_mem.mp h⟩
  · rintro ⟨i, j, h⟩
    exact ⟨(i, j), nearP_mem.mpr h⟩
theorem has_phrase {n : Nat} {ws held : List Str} : hasQ (n + 1) (.tuple (.str "phrase" :: ws.map PyData.str)) held = true ↔ ∃ i, i ∈ runP held ws := by
  rw [hasQ_plc (by decide +kernel) (by decide +kernel) (by decide +kernel), plcD_phrase, hasN_iff]
theorem near_of {f : Int} {i j : Nat} (h1 : 1 ≤ ((i : Int) - j).natAbs) (h2 : ((((i : Int) - j).natAbs : Nat) : Int) ≤ f) : isNear f i j = true := decide_eq_true ⟨h1, h2⟩
theorem near_inv {f : Int} {i j : Nat} (h : isNear f i j = true) : 1 ≤ ((i : Int) - j).natAbs ∧ ((((i : Int) - j).natAbs : Nat) : Int) ≤ f := of_decide_eq_true h
theorem bool_ext {a b : Bool} (h : a = true ↔ b = true) : a = b := by
  cases a <;> cases b <;> simp_all
/-- a phrase is near -/
theorem phrase_nears {n : Nat} {a b c : Str} {held : List Str} (h : hasQ (n + 2) (.tuple [.str "phrase", .str a, .str b, .str c]) held = true) :
    hasQ (n + 2) (.tuple [.str "and", .tuple [.str "near", .int 1, .str a, .str b], .tuple [.str "near", .int 1, .str b, .str c], .tuple [.str "near", .int 2, .str a, .str c]]) held = true := by
  obtain ⟨i, hi⟩ := (has_phrase (n := n + 1) (ws := [a, b, c])).mp h
  obtain ⟨h1, h2, h3⟩ := run3.mp hi
  rw [hasQ_and3, has_near.mpr ⟨i, i + 1, h1, h2, near_of (by omega) (by omega)⟩, has_near.mpr ⟨i + 1, i + 2, h2, h3, near_of (by omega) (by omega)⟩, has_near.mpr ⟨i, i + 2, h1, h3, near_of (by omega) (by omega)⟩]
  rfl
theorem near_sym {n : Nat} {f : Int} {a b : Str} {held : List Str} : hasQ (n + 1) (.tuple [.str "near", .int f, .str a, .str b]) held = hasQ (n + 1) (.tuple [.str "near", .int f, .str b, .str a]) held := by
  refine bool_ext ⟨fun h => ?_, fun h => ?_⟩
  all_goals
    obtain ⟨i, j, h1, h2, h3⟩ := has_near.mp h
    have := near_inv h3
    exact has_near.mpr ⟨j, i, h2, h1, near_of (by omega) (by omega)⟩
theorem near_up {n : Nat} {f g : Int} {a b : Str} {held : List Str} (hg : f ≤ g) (h : hasQ (n + 1) (.tuple [.str "near", .int f, .str a, .str b]) held = true) : hasQ (n + 1) (.tuple [.str "near", .int g, .str a, .str b]) held = true := by
  obtain ⟨i, j, h1, h2, h3⟩ := has_near.mp h
  have := near_inv h3
  exact has_near.mpr ⟨i, j, h1, h2, near_of (by omega) (by omega)⟩
theorem near_one {n : Nat} {a b : Str} {held : List Str} : (hasQ (n + 1) (.tuple [.str "phrase", .str a, .str b]) held || hasQ (n + 1) (.tuple [.str "phrase", .str b, .str a]) held) = hasQ (n + 1) (.tuple [.str "near", .int 1, .str a, .str b]) held := by
  refine bool_ext ⟨fun h => ?_, fun h => ?_⟩
  · rw [Bool.or_eq_true] at h
    rcases h with h | h
    · obtain ⟨i, hi⟩ := (has_phrase (ws := [a, b])).mp h
      obtain ⟨h1, h2⟩ := run2.mp hi
      exact has_near.mpr ⟨i, i + 1, h1, h2, near_of (by omega) (by omega)⟩
    · obtain ⟨i, hi⟩ := (has_phrase (ws := [b, a])).mp h
      obtain ⟨h1, h2⟩ := run2.mp hi
      exact has_near.mpr ⟨i + 1, i, h2, h1, near_of (by omega) (by omega)⟩
  · obtain ⟨i, j, h1, h2, h3⟩ := has_near.mp h
    have hn := near_inv h3
    rw [Bool.or_eq_true]
    have hij : j = i + 1 ∨ i = j + 1 := by omega
    rcases hij with rfl | rfl
    · exact .inl ((has_phrase (ws := [a, b])).mpr ⟨i, run2.mpr ⟨h1, h2⟩⟩)
    · exact .inr ((has_phrase (ws := [b, a])).mpr ⟨j, run2.mpr ⟨h2, h1⟩⟩)
/-- a longer page keeps its places -/
theorem get_longer {held : List Str} {u : List Str} {i : Nat} {a : Str} (h : held[i]? = some a) : (held ++ u)[i]? = some a := by
  rw [List.getElem?_append_left (List.getElem?_eq_some_iff.mp h).1]
  exact h
theorem near_longer {f : Int} {a b : Str} {held u : List Str} {q : Nat × Nat} (h : q ∈ nearP f a b held) : q ∈ nearP f a b (held ++ u) := by
  obtain ⟨i, j⟩ := q
  obtain ⟨h1, h2, h3⟩ := nearP_mem.mp h
  exact nearP_mem.mpr ⟨get_longer h1, get_longer h2, h3⟩
theorem run_longer {held ur us : List Str} {u : Str} {i : Nat} (h : i ∈ runP held (u :: ur)) : i ∈ runP (held ++ us) (u :: ur) := by
  rw [runP_mem] at h ⊢
  have hl : (u :: ur).length ≤ (held.drop i).length := by
    have := congrArg List.length h
    rw [List.length_take] at this
    omega
  have hi : i ≤ held.length := by
    rw [List.length_drop] at hl
    simp only [List.length_cons] at hl
    omega
  rw [List.drop_append_of_le_length hi, List.take_append_of_le_length hl]
  exact h
/-- what is in a page is in a longer one -/
theorem plcD_longer {m : Nat} {d : PyData} {held us : List Str} (hc : cnt 1 d = some m) : ∃ ds es, plcD d held = .list ds ∧ plcD d (held ++ us) = .list es ∧ GoodD (.list ds) 2 ∧ GoodD (.list es) 2 ∧ (∀ e ∈ ds, GoodD e 1) ∧ ∀ e ∈ ds, e ∈ es := by
  cases cnt_inv hc with
  | word hw =>
    refine ⟨_, _, plcD_word, plcD_word, good_nD _, good_nD _, fun e he => ?_, fun e he => ?_⟩
    · obtain ⟨n, _, rfl⟩ := List.mem_map.mp he
      exact good_int
    · obtain ⟨n, hn, rfl⟩ := List.mem_map.mp he
      exact List.mem_map.mpr ⟨n, run_longer hn, rfl⟩
  | @phrase ws a b c =>
    refine ⟨_, _, plcD_phrase, plcD_phrase, good_nD _, good_nD _, fun e he => ?_, fun e he => ?_⟩
    · obtain ⟨n, _, rfl⟩ := List.mem_map.mp he
      exact good_int
    · obtain ⟨n, hn, rfl⟩ := List.mem_map.mp he
      match ws, a with
      | u :: ur, _ => exact List.mem_map.mpr ⟨n, run_longer hn, rfl⟩
  | near a b c d =>
    refine ⟨_, _, plcD_near, plcD_near, good_pD _, good_pD _, fun e he => ?_, fun e he => ?_⟩
    · obtain ⟨q, _, rfl⟩ := List.mem_map.mp he
      exact good_tuple fun e he => by
        simp only [List.mem_cons, List.not_mem_nil, or_false] at he
        rcases he with rfl | rfl
        · exact good_int
        · exact good_int
    · obtain ⟨q, hq, rfl⟩ := List.mem_map.mp he
      exact List.mem_map.mpr ⟨q, near_longer hq, rfl⟩
  | @join k ps _ a b c =>
    obtain ⟨j1, j2, j3⟩ := join_some c
    cases ps with
    | nil => simp at j1
    | cons p r =>
      obtain ⟨c, hc⟩ := j3 p (by simp)
      cases hc
theorem units65 {k : Nat} {A : Around} (r : Room k A) : A.units + 65 < cLine := by have := r.un; omega
theorem w_gunl {K : PySem.W.Frag} {n : Nat} {t : TGs} {a : Addr} {xs : List V} {σ : L2.St} {H : Hp} {Q2 : L2.St → Hp → Prop} (h : SqL K H a xs) (hn : xs.length = n) (q : t xs σ H Q2) : gUnl K n t (.ref a) σ H Q2 := ⟨a, xs, rfl, h, hn, q⟩
theorem w_notInD {K : PySem.W.Frag} {x y : V} {d : PyData} {ds : List PyData} {n : Nat} {H : Hp} {Q : VK} (hx : Dp K H x d) (hy : Dp K H y (.list ds)) (g : GoodD d n) (gs : GoodD (.list ds) n) (hn : n ≤ 64) (hm : d ∈ ds) (q : Q (.bl false) H) : rNotInD K x y H Q := by
  refine ⟨d, ds, hx, hy, g.shaped hn, gs.shaped hn, ?_⟩
  have e : (ds.any fun z => PyData.eqv z d) = true := by
    rw [List.any_eq_true]
    exact ⟨d, hm, g.refl⟩
  rw [e]
  exact q
end Bw

/-! the law's own way to runs and pairs -/
namespace Bw
open PySem PySem.Spec PyProof.Rows L2 LamX
def lrun (ws us : List Str) : List Nat := (List.range ws.length).filter fun i => decide ((ws.drop i).take us.length = us)
/-- a comprehension, the gathered list known -/
theorem lc_finD {J : It} {n : Nat} {ok : Hp → Prop} {it : Nat → V → Hp → Hp → Prop} {g : TG} {tt : TT} {te : TE} {vs : List Nat} {σ : L2.St} {H1 : Hp} {Qd : Hp → Prop} (F : Fini J n ok it) {D : Addr} (nD : H1 D = none) (Iv : Nat → List V → Hp → Prop)
    (h0 : ∀ H2, Same H1 H2 → H2 D = some (.lst []) → Iv 0 [] H2) (hl : ∀ i acc H, i ≤ n → Iv i acc H → ok H)
    (hs : ∀ i x acc H H', i < n → acc.length ≤ i → Iv i acc H → H D = some (.lst acc) → it i x H H' → g x (wipe σ vs) H' fun σ2 H2 => wipe σ2 vs = wipe σ vs ∧ tt σ2 H2 fun b H3 =>
      if b = true then te σ2 H3 fun y H4 => ∃ acc, H4 D = some (.lst acc) ∧ acc.length < sizeLine ∧ NxI D i Iv (upd H4 D (.lst (acc ++ [y]))) else NxI D i Iv H3)
    (hd : ∀ acc H, Iv n acc H → acc.length ≤ n → H D = some (.lst acc) → Qd H) :
    ∃ W : Nat → Nat → Hp → Prop, (∃ m, W 0 m (upd H1 D (.lst []))) ∧ ∀ i m H, W i m H →
      (J.stop i H ∧ Qd H) ∨ (J.go i H ∧ ∃ Nx : Hp → Prop, (∀ H', Nx H' → ∃ m', m' < m ∧ W (i + 1) m' H') ∧ ∀ x H', J.yld i H x H' → g x (wipe σ vs) H' fun σ2 H2 => wipe σ2 vs = wipe σ vs ∧ tt σ2 H2 fun b H3 =>
        if b = true then te σ2 H3 fun y H4 => ∃ acc, H4 D = some (.lst acc) ∧ acc.length < sizeLine ∧ Nx (upd H4 D (.lst (acc ++ [y]))) else Nx H3) := by
  refine ⟨fun i m H => m = n - i ∧ i ≤ n ∧ ∃ acc, acc.length ≤ i ∧ H D = some (.lst acc) ∧ Iv i acc H, ⟨n, by simp, Nat.zero_le _, [], Nat.le_refl _, upd_same, h0 _ (same_new nD) upd_same⟩, ?_⟩
  rintro i m H ⟨rfl, hi, acc, hacc, hD, p⟩
  have o := hl i acc H hi p
  rcases Nat.lt_or_ge i n with hlt | hge
  · exact .inr ⟨F.go i H hlt o, NxI D i Iv, fun H' p' => ⟨n - (i + 1), by omega, rfl, hlt, p'⟩, fun x H' y => hs i x acc H H' hlt hacc p hD (F.yl i H x H' hlt o y)⟩
  · obtain rfl : i = n := Nat.le_antisymm hi hge
    exact .inl ⟨F.st H o, hd acc H p hacc hD⟩
/-- a.join(l), within a comprehension -/
abbrev rJoin (K : PySem.W.Frag) : V → List V → Hp → VK → Prop := fun x xs H Q => ∃ a p, ∃ ys : List Str, x = .str a ∧ xs = [.ref p] ∧ (SqL K H p (ys.map V.str) ∨ SqT K H p (ys.map V.str)) ∧
      (ys.map (·.length)).sum + ys.length * a.length ≤ 16777216 ∧ Q (.str (Txt.join a ys)) H
/-- an if: what its test tells, whichever answer -/
theorem w_ifX {tt : TT} {t u : TS} {D : Ends} {σ : L2.St} {H : Hp} (I : Bool → Hp → Prop) (h : ∀ QB : Bool → Hp → Prop, (∀ b H', I b H' → QB b H') → tt σ H QB) (k : ∀ b H', I b H' → if b = true then t D σ H' else u D σ H') : tIfS tt t u D σ H := h _ k
theorem lrun_eq {ws us : List Str} (h : us ≠ []) : lrun ws us = runP ws us := by
  obtain ⟨u, ur, rfl⟩ : ∃ u ur, us = u :: ur := by
    cases us with
    | nil => exact absurd rfl h
    | cons u ur => exact ⟨u, ur, rfl⟩
  unfold lrun runP plc
  rw [List.filter_filter]
  refine List.filter_congr fun i hi => ?_
  rw [List.headD_cons]
  by_cases hp : (ws.drop i).take (u :: ur).length = u :: ur
  · have hm := runP_mem.mpr hp
    unfold runP at hm
    rw [List.mem_filter, List.headD_cons, plc_mem] at hm
    rw [decide_eq_true hp, decide_eq_true hm.1]
    rfl
  · rw [decide_eq_false hp]
    rfl
/-- plain data that fit, by reckoning -/
def fitB : Nat → PyData → Bool
  | _, .none => true
  | _, .bool _ => true
  | _, .int _ => true
  | _, .str x => decide (x.length ≤ 1000) && PyData.strOk x
  | n + 1, .tuple ds => decide (ds.length ≤ 1000) && ds.all (fitB n)
  | n + 1, .list ds => decide (ds.length ≤ 1000) && ds.all (fitB n)
  | _, _ => false
theorem fitB_ok : ∀ {n : Nat} {d : PyData}, fitB n d = true → Fit n d := by
  intro n
  induction n with
  | zero =>
    intro d h
    cases d with
    | none => exact .inl (.inl rfl)
    | bool b => exact .inl (.inr (.inl ⟨b, rfl⟩))
    | int i => exact .inl (.inr (.inr ⟨i, rfl⟩))
    | str x =>
      unfold fitB at h
      rw [Bool.and_eq_true] at h
      exact .inr ⟨x, rfl, of_decide_eq_true h.1, h.2⟩
    | _ => cases h
  | succ n ih =>
    intro d h
    cases d with
    | none => exact .inl (.inl (.inl rfl))
    | bool b => exact .inl (.inl (.inr (.inl ⟨b, rfl⟩)))
    | int i => exact .inl (.inl (.inr (.inr ⟨i, rfl⟩)))
    | str x =>
      unfold fitB at h
      rw [Bool.and_eq_true] at h
      exact .inl (.inr ⟨x, rfl, of_decide_eq_true h.1, h.2⟩)
    | tuple ds =>
      unfold fitB at h
      rw [Bool.and_eq_true, List.all_eq_true] at h
      exact .inr ⟨ds, .inl rfl, of_decide_eq_true h.1, fun e he => ih (h.2 e he)⟩
    | list ds =>
      unfold fitB at h
      rw [Bool.and_eq_true, List.all_eq_true] at h
      exact .inr ⟨ds, .inr rfl, of_decide_eq_true h.1, fun e he => ih (h.2 e he)⟩
    | _ => cases h
/-- the pairs of one place -/
def pairsAt (f : Nat) (a b : Str) (ws : List Str) (i e : Nat) : List (Nat × Nat) :=
  ((List.range' (i - f) e).filter fun j => decide (i ≠ j ∧ ws[i]? = some a ∧ ws[j]? = some b)).map fun j => (i, j)
def wide (f n i : Nat) : Nat := min n (i + f + 1) - (i - f)
def lpairs (f : Nat) (a b : Str) (ws : List Str) (e : Nat) : List (Nat × Nat) := ((List.range e).map fun i => pairsAt f a b ws i (wide f ws.length i)).flatten
theorem flat_filter {α β : Type} (p : α → Bool) (g : α → List β) (l : List α) : ((l.filter p).map g).flatten = (l.map fun i => if p i = true then g i else []).flatten := by
  induction l with
  | nil => rfl
  | cons x r ih =>
    rw [List.filter_cons]
    by_cases h : p x = true
    · rw [if_pos h, List.map_cons, List.flatten_cons, ih, List.map_cons, List.flatten_cons, if_pos h]
    · rw [if_neg h, ih, List.map_cons, List.flatten_cons, if_neg h, List.nil_append]
theorem filter_none {α : Type} {p : α → Bool} {l : List α} (h : ∀ x ∈ l, p x = false) : l.filter p = [] := by
  rw [List.filter_eq_nil_iff]
  intro x hx
  rw [h x hx]
  exact Bool.false_ne_true
/-- a window of the places -/
theorem win {p : Nat → Bool} {n lo hi : Nat} (h1 : lo ≤ hi) (h2 : hi ≤ n) (h : ∀ j, j < n → p j = true → lo ≤ j ∧ j < hi) : (List.range n).filter p = (List.range' lo (hi - lo)).filter p := by
  have e1 : List.range n = List.range' 0 lo ++ (List.range' lo (hi - lo) ++ List.range' hi (n - hi)) := by
    have z1 := List.range'_append_1 (s := lo) (m := hi - lo) (n := n - hi)
    rw [show lo + (hi - lo) = hi by omega] at z1
    have z2 := List.range'_append_1 (s := 0) (m := lo) (n := hi - lo + (n - hi))
    rw [Nat.zero_add] at z2
    rw [z1, z2, List.range_eq_range', show lo + (hi - lo + (n - hi)) = n by omega]
  rw [e1, List.filter_append, List.filter_append]
  rw [filter_none (l := List.range' 0 lo) (fun x hx => ?_), filter_none (l := List.range' hi (n - hi)) (fun x hx => ?_), List.nil_append, List.append_nil]
  · rw [List.mem_range'_1] at hx
    cases hp : p x with
    | false => rfl
    | true => have := h x (by omega) hp; omega
  · rw [List.mem_range'_1] at hx
    cases hp : p x with
    | false => rfl
    | true => have := h x (by omega) hp; omega
theorem lpairs_eq {f : Nat} {a b : Str} {ws : List Str} : lpairs f a b ws ws.length = nearP f a b ws := by
  unfold lpairs nearP plc
  rw [flat_filter]
  refine congrArg List.flatten (List.map_congr_left fun i hi => ?_)
  rw [List.mem_range] at hi
  unfold pairsAt wide
  by_cases ha : ws[i]? = some a
  · rw [if_pos (decide_eq_true ha)]
    congr 1
    rw [List.filter_filter, win (n := ws.length) (lo := i - f) (hi := min ws.length (i + f + 1)) (by omega) (by omega) (fun j hj hp => ?_)]
    · refine List.filter_congr fun j hj => ?_
      rw [List.mem_range'_1] at hj
      by_cases hb : ws[j]? = some b
      · rw [decide_eq_true hb, Bool.and_true]
        by_cases hij : i = j
        · rw [decide_eq_false (fun z => z.1 hij)]
          exact (decide_eq_false (fun z => by have := z.1; omega)).symm
        · rw [decide_eq_true ⟨hij, ha, hb⟩]
          exact (near_of (by omega) (by omega)).symm
      · rw [decide_eq_false hb, Bool.and_false, decide_eq_false (fun z => hb z.2.2)]
    · rw [Bool.and_eq_true] at hp
      have := near_inv hp.1
      omega
  · rw [if_neg (by rw [decide_eq_false ha]; exact Bool.false_ne_true), filter_none (fun j _ => decide_eq_false fun z => ha z.2.1)]
    rfl
end Bw

/-! data that stay while one list changes; data of bounded width and depth; tuples put together, any -/
namespace Bw
open PySem PySem.Spec PyProof.Rows L2 LamX
/-- all but what S holds stays -/
def KS (S : Addr → Prop) (H H' : Hp) : Prop := ∀ c o, H c = some o → ¬ S c → H' c = some o
/-- S holds lists alone -/
def SL (S : Addr → Prop) (H : Hp) : Prop := ∀ c, S c → ∃ ys, H c = some (.lst ys)
/-- stands for d, whatever becomes of S -/
def RpX (S : Addr → Prop) (H : Hp) (v : V) (d : PyData) : Prop := ∀ H', KS S H H' → Rp H' v d
def RpsX (S : Addr → Prop) (H : Hp) (xs : List V) (ds : List PyData) : Prop := ∀ H', KS S H H' → RpAll H' xs ds
section
variable {S : Addr → Prop} {H H' : Hp}
theorem KS.refl : KS S H H := fun _ _ h _ => h
theorem KS.trans {H2 : Hp} (a : KS S H H') (b : KS S H' H2) : KS S H H2 := fun c o h n => b c o (a c o h n) n
theorem KS.of (s : Same H H') : KS S H H' := fun c o h _ => s c o h
theorem KS.kb {p : Addr} (hp : S p) (k : KB p H H') : KS S H H' := fun c o h n => k c o h (fun z => n (z ▸ hp))
theorem SL.same (h : SL S H) (s : Same H H') : SL S H' := fun c hc => by
  obtain ⟨ys, hy⟩ := h c hc
  exact ⟨ys, s _ _ hy⟩
theorem SL.kb {p : Addr} (h : SL S H) (k : KB p H H') (hp : ∃ ys, H' p = some (.lst ys)) : SL S H' := fun c hc => by
  by_cases z : c = p
  · rw [z]
    exact hp
  · obtain ⟨ys, hy⟩ := h c hc
    exact ⟨ys, k _ _ hy z⟩
theorem SL.notup {t : Addr} {xs : List V} (h : SL S H) (ht : H t = some (.tup xs)) : ¬ S t := fun z => by
  obtain ⟨ys, hy⟩ := h t z
  rw [ht] at hy
  cases hy
theorem SL.fresh {t : Addr} (h : SL S H) (ht : H t = none) : ¬ S t := fun z => by
  obtain ⟨ys, hy⟩ := h t z
  rw [ht] at hy
  cases hy
theorem RpX.rp {v : V} {d : PyData} (h : RpX S H v d) : Rp H v d := h H KS.refl
theorem RpX.ks {v : V} {d : PyData} (h : RpX S H v d) (k : KS S H H') : RpX S H' v d := fun H2 k2 => h H2 (k.trans k2)
theorem RpX.same {v : V} {d : PyData} (h : RpX S H v d) (k : Same H H') : RpX S H' v d := h.ks (KS.of k)
theorem RpsX.ks {v : List V} {d : List PyData} (h : RpsX S H v d) (k : KS S H H') : RpsX S H' v d := fun H2 k2 => h H2 (k.trans k2)
theorem RpsX.same {v : List V} {d : List PyData} (h : RpsX S H v d) (k : Same H H') : RpsX S H' v d := h.ks (KS.of k)
theorem RpsX.length {v : List V} {d : List PyData} (h : RpsX S H v d) : v.length = d.length := (h H KS.refl).length
theorem RpsX.at {vs : List V} {ds : List PyData} (h : RpsX S H vs ds) {i : Nat} {v : V} (hv : vs[i]? = some v) : ∃ d, ds[i]? = some d ∧ RpX S H v d := by
  obtain ⟨d, h1, _⟩ := (h H KS.refl).at hv
  refine ⟨d, h1, fun H' k => ?_⟩
  obtain ⟨d', h2, h3⟩ := (h H' k).at hv
  rw [h1] at h2
  cases h2
  exact h3
theorem RpsX.take {vs : List V} {ds : List PyData} (n : Nat) (h : RpsX S H vs ds) : RpsX S H (vs.take n) (ds.take n) := fun H' k => (h H' k).take n
theorem RpsX.drop {vs : List V} {ds : List PyData} (n : Nat) (h : RpsX S H vs ds) : RpsX S H (vs.drop n) (ds.drop n) := fun H' k => (h H' k).drop n
theorem RpsX.append {vs us : List V} {ds es : List PyData} (h : RpsX S H vs ds) (g : RpsX S H us es) : RpsX S H (vs ++ us) (ds ++ es) := fun H' k => (h H' k).append (g H' k)
theorem RpsX.nil : RpsX S H [] [] := fun _ _ => .nil
theorem RpsX.cons {v : V} {d : PyData} {vs : List V} {ds : List PyData} (h : RpX S H v d) (g : RpsX S H vs ds) : RpsX S H (v :: vs) (d :: ds) := fun H' k => .cons (h H' k) (g H' k)
theorem RpX.tup {t : Addr} {xs : List V} {ds : List PyData} (hS : SL S H) (ht : H t = some (.tup xs)) (h : RpsX S H xs ds) : RpX S H (.ref t) (.tuple ds) := fun H' k => .tup (k _ _ ht (hS.notup ht)) (h H' k)
theorem RpX.lst {t : Addr} {xs : List V} {ds : List PyData} (n : ¬ S t) (ht : H t = some (.lst xs)) (h : RpsX S H xs ds) : RpX S H (.ref t) (.list ds) := fun H' k => .lst (k _ _ ht n) (h H' k)
theorem RpX.str (x : Str) : RpX S H (.str x) (.str x) := fun _ _ => .str x
theorem RpX.int (x : Int) : RpX S H (.int x) (.int x) := fun _ _ => .int x
theorem RpX.bl (x : Bool) : RpX S H (.bl x) (.bool x) := fun _ _ => .bl x
theorem RpX.non : RpX S H .non .none := fun _ _ => .non
theorem RpX.of {v : V} {d : PyData} (hS : SL S H) (h : Rp H v d) (n : noL d = true) : RpX S H v d := fun H' k => h.tupk (fun a xs ha => k _ _ ha (hS.notup ha)) n
/-- one new list more -/
theorem RpX.more {v : V} {d : PyData} {l : Addr} (h : RpX S H v d) (n : H l = none) (s : Same H H') : RpX (fun c => S c ∨ c = l) H' v d := fun H2 k => h H2 fun c o hc nc => k c o (s _ _ hc) (fun z => z.elim nc (fun z => by rw [z, n] at hc; cases hc))
/-- the things of a tuple -/
theorem RpX.things {a : Addr} {ds : List PyData} (hS : SL S H) (h : RpX S H (.ref a) (.tuple ds)) : ∃ xs, H a = some (.tup xs) ∧ RpsX S H xs ds := by
  cases h.rp with
  | @tup _ xs _ ha r =>
    refine ⟨xs, ha, fun H' k => ?_⟩
    have h' := k _ _ ha (hS.notup ha)
    cases h H' k with
    | tup ha' r' =>
      rw [h'] at ha'
      cases ha'
      exact r'
/-- an if: what its test tells, what is behind it once -/
theorem w_ifXR {tt : TT} {t u : TS} {D : Ends} {σ : L2.St} {H : Hp} (I : Bool → Hp → Prop) (R : L2.St → Hp → Prop) (h : ∀ QB : Bool → Hp → Prop, (∀ b H', I b H' → QB b H') → tt σ H QB)
    (k1 : ∀ H', I true H' → (∀ σ' H2, R σ' H2 → D.nx σ' H2) → t D σ H') (k2 : ∀ H', I false H' → (∀ σ' H2, R σ' H2 → D.nx σ' H2) → u D σ H') (go : ∀ σ' H2, R σ' H2 → D.nx σ' H2) : tIfS tt t u D σ H :=
  w_ifX I h (fun b H' i => by
    cases b with
    | true => rw [if_pos rfl]; exact k1 H' i go
    | false => rw [if_neg Bool.false_ne_true]; exact k2 H' i go)
end
/-! ### bounded width and depth -/
def FlatD (d : PyData) : Prop := (d = .none ∨ (∃ b, d = .bool b) ∨ (∃ i, d = .int i)) ∨ ∃ x, d = .str x ∧ x.length ≤ 1000 ∧ PyData.strOk x = true
def Lim (l : Nat) : Nat → PyData → Prop
  | 0, d => FlatD d
  | n + 1, d => FlatD d ∨ ∃ ds : List PyData, (d = .tuple ds ∨ d = .list ds) ∧ ds.length ≤ l ∧ ∀ e ∈ ds, Lim l n e
theorem Lim.flat {l n : Nat} {d : PyData} (h : FlatD d) : Lim l n d := by
  cases n with
  | zero => exact h
  | succ n => exact .inl h
theorem Lim.wide {l k : Nat} (hl : l ≤ k) : ∀ {n : Nat} {d : PyData}, Lim l n d → Lim k n d
  | 0, _, h => h
  | n + 1, _, h => by
    rcases h with h | ⟨ds, h1, h2, h3⟩
    · exact .inl h
    · exact .inr ⟨ds, h1, Nat.le_trans h2 hl, fun e he => Lim.wide hl (h3 e he)⟩
theorem Lim.succ {l : Nat} : ∀ {n : Nat} {d : PyData}, Lim l n d → Lim l (n + 1) d
  | 0, _, h => .inl h
  | n + 1, _, h => by
    rcases h with h | ⟨ds, h1, h2, h3⟩
    · exact .inl h
    · exact .inr ⟨ds, h1, h2, fun e he => (h3 e he).succ⟩
theorem Lim.mono {l k n m : Nat} {d : PyData} (h : Lim l n d) (hl : l ≤ k) (hn : n ≤ m) : Lim k m d := by
  refine Lim.wide hl ?_
  clear hl
  induction hn with
  | refl => exact h
  | step _ ih => exact ih.succ
theorem Lim.fit {l : Nat} (hl : l ≤ 1000) : ∀ {n : Nat} {d : PyData}, Lim l n d → Fit n d
  | 0, _, h => h
  | n + 1, _, h => by
    rcases h with h | ⟨ds, h1, h2, h3⟩
    · exact .inl h
    · exact .inr ⟨ds, h1, Nat.le_trans h2 hl, fun e he => Lim.fit hl (h3 e he)⟩
theorem Lim.tuple {l n : Nat} {ds : List PyData} (h1 : ds.length ≤ l) (h : ∀ e ∈ ds, Lim l n e) : Lim l (n + 1) (.tuple ds) := .inr ⟨ds, .inl rfl, h1, h⟩
theorem Lim.list {l n : Nat} {ds : List PyData} (h1 : ds.length ≤ l) (h : ∀ e ∈ ds, Lim l n e) : Lim l (n + 1) (.list ds) := .inr ⟨ds, .inr rfl, h1, h⟩
theorem Lim.parts {l n : Nat} {ds : List PyData} (h : Lim l (n + 1) (.tuple ds)) : ds.length ≤ l ∧ ∀ e ∈ ds, Lim l n e := by
  rcases h with ((h | ⟨b, h⟩ | ⟨i, h⟩) | ⟨x, h, _⟩) | ⟨es, h | h, h1, h2⟩
  · cases h
  · cases h
  · cases h
  · cases h
  · cases h
    exact ⟨h1, h2⟩
  · cases h
theorem Lim.no0 {l : Nat} {ds : List PyData} (h : Lim l 0 (.tuple ds)) : False := by
  rcases h with (h | ⟨b, h⟩ | ⟨i, h⟩) | ⟨x, h, _⟩ <;> cases h
def flatB : PyData → Bool
  | .none => true
  | .bool _ => true
  | .int _ => true
  | .str x => decide (x.length ≤ 1000) && PyData.strOk x
  | _ => false
theorem flat_of {d : PyData} (h : flatB d = true) : FlatD d := by
  cases d with
  | none => exact .inl (.inl rfl)
  | bool b => exact .inl (.inr (.inl ⟨b, rfl⟩))
  | int i => exact .inl (.inr (.inr ⟨i, rfl⟩))
  | str x =>
    unfold flatB at h
    rw [Bool.and_eq_true] at h
    exact .inr ⟨x, rfl, of_decide_eq_true h.1, h.2⟩
  | _ => cases h
theorem flat_word {x : Str} (h : isW x = true) : FlatD (.str x) := .inr ⟨x, rfl, Nat.le_trans (isW_len h) (by decide), isW_strOk h⟩
theorem cnt_lim : ∀ {n : Nat} {d : PyData} {m : Nat}, cnt n d = some m → Lim 6 n d
  | 0, _, _, h => by cases h
  | n + 1, d, m, h => by
    have str : ∀ x ∈ (["word", "phrase", "near", "and", "or", "but"] : List Str), FlatD (.str x) := fun x hx => by
      simp only [List.mem_cons, List.not_mem_nil, or_false] at hx
      rcases hx with rfl | rfl | rfl | rfl | rfl | rfl <;> exact flat_of (by decide +kernel)
    cases cnt_inv h with
    | word hw => exact Lim.tuple (by simp) (fun e he => by
        simp only [List.mem_cons, List.not_mem_nil, or_false] at he
        rcases he with rfl | rfl
        · exact Lim.flat (str _ (by simp))
        · exact Lim.flat (flat_word hw))
    | @phrase ws h1 h2 h3 => exact Lim.tuple (by simp; omega) (fun e he => by
        rcases List.mem_cons.mp he with rfl | he
        · exact Lim.flat (str _ (by simp))
        · obtain ⟨w, hw, rfl⟩ := List.mem_map.mp he
          exact Lim.flat (flat_word (h3 w hw)))
    | near h1 h2 h3 h4 => exact Lim.tuple (by simp) (fun e he => by
        simp only [List.mem_cons, List.not_mem_nil, or_false] at he
        rcases he with rfl | rfl | rfl | rfl
        · exact Lim.flat (str _ (by simp))
        · exact Lim.flat (flat_of rfl)
        · exact Lim.flat (flat_word h3)
        · exact Lim.flat (flat_word h4))
    | @join k ps _ a b c =>
      obtain ⟨j1, j2, j3⟩ := join_some c
      refine Lim.tuple (by simp; omega) (fun e he => ?_)
      rcases List.mem_cons.mp he with rfl | he
      · refine Lim.flat (str _ ?_)
        rcases a with rfl | rfl | rfl <;> simp
      · obtain ⟨c', hc'⟩ := j3 e he
        exact cnt_lim hc'
section
variable {K : PySem.W.Frag} {H : Hp} {Q : VK}
/-- t + u, any -/
theorem w_catA {a b : Addr} {xs ys : List V} (ha : H a = some (.tup xs)) (hb : H b = some (.tup ys)) (hl : xs.length + ys.length ≤ 100000) (k : ∀ p H2, Same H H2 → H2 p = some (.tup (xs ++ ys)) → Q (.ref p) H2) : rCatA K (.ref a) (.ref b) H Q :=
  ⟨a, b, xs, ys, rfl, rfl, .of ha, .of hb, Nat.le_trans hl (by decide), fun e => k b H (.refl _) (by rw [e, List.nil_append]; exact hb), fun _ e => k a H (.refl _) (by rw [e, List.append_nil]; exact ha), fun _ _ p n => k p _ (same_new n) upd_same⟩
theorem w_slA {a : Addr} {xs : List V} {lo hi : Option Int} (h : H a = some (.tup xs)) (k : ∀ p H2, Same H H2 → H2 p = some (.tup (cutV xs lo hi)) → Q (.ref p) H2) : rSlA K (.ref a) lo hi H Q := by
  refine ⟨a, xs, rfl, .of h, fun e => k a H (.refl _) ?_, fun _ p n => k p _ (same_new n) upd_same⟩
  rw [h]
  unfold cutV
  rw [e.1, e.2, List.drop_zero, Nat.sub_zero, List.take_length]
/-- t[:i] -/
theorem w_slA1 {a : Addr} {xs : List V} {i : Nat} (h : H a = some (.tup xs)) (hi : i ≤ xs.length) (k : ∀ p H2, Same H H2 → H2 p = some (.tup (xs.take i)) → Q (.ref p) H2) : rSlA K (.ref a) none (some (i : Int)) H Q := w_slA h fun p H2 s h2 => k p H2 s (by rw [h2, cutV_take hi])
/-- t[i:] -/
theorem w_slA2 {a : Addr} {xs : List V} {i : Nat} (h : H a = some (.tup xs)) (hi : i ≤ xs.length) (k : ∀ p H2, Same H H2 → H2 p = some (.tup (xs.drop i)) → Q (.ref p) H2) : rSlA K (.ref a) (some (i : Int)) none H Q := w_slA h fun p H2 s h2 => k p H2 s (by rw [h2, cutV_drop hi])
end
/-- a count as the law tells it -/
def cntI : Option Nat → Int
  | some m => m
  | none => -1
end Bw

/-! tuple[::-1]; zip of two tuples; list += list -/
namespace HT
open PySem PySem.Spec PyProof.Rows L2
section
variable {prog : Program} {w : World} {A : Around} {E : Value → Shared → Prop} {s : Shared}
theorem adjust_rev (n : Nat) : Builtin.Slice.sliceAdjust none none (-1) (n : Int) = ((n : Int) - 1, -1) := by
  unfold Builtin.Slice.sliceAdjust
  simp
theorem places_rev (n : Nat) : Builtin.Slice.slicePlaces ((n : Int) - 1) (-1) (-1) = n := by
  unfold Builtin.Slice.slicePlaces
  simp
  try omega
theorem pick_rev (xs : List Value) : ((List.range xs.length).filterMap fun (m : Nat) => xs.toArray[(((xs.length : Nat) : Int) - 1 + (m : Int) * (-1)).toNat]?) = xs.reverse := by
  have e : ∀ m, m < xs.length → xs.toArray[(((xs.length : Nat) : Int) - 1 + (m : Int) * (-1)).toNat]? = xs.reverse[m]? := fun m hm => by
    have : (((xs.length : Nat) : Int) - 1 + (m : Int) * (-1)).toNat = xs.length - 1 - m := by omega
    rw [this, List.getElem?_reverse hm]
    simp
  have cg : ∀ (l : List Nat) (f g : Nat → Option Value), (∀ m ∈ l, f m = g m) → l.filterMap f = l.filterMap g := fun l f g hfg => by
    induction l with
    | nil => rfl
    | cons x r ih =>
      rw [List.filterMap_cons, List.filterMap_cons, hfg x List.mem_cons_self, ih fun m hm => hfg m (List.mem_cons_of_mem _ hm)]
  rw [cg _ _ (fun m => xs.reverse[m]?) (fun m hm => e m (List.mem_range.mp hm))]
  have : ∀ (l : List Value), (List.range l.length).filterMap (fun m => l[m]?) = l := fun l => by
    induction l with
    | nil => rfl
    | cons a r ih =>
      rw [List.length_cons, List.range_succ_eq_map, List.filterMap_cons]
      simp [List.filterMap_map]
      exact ih
  have h := this xs.reverse
  rw [List.length_reverse] at h
  exact h
theorem sliceApplied_rev {sl : Addr} {vl vu vs : Value} {n : Nat} {Q : Int × Int × Nat → Shared → Prop} (hs : s.heap.IsSliceOf sl vl vu vs) (pl : IsPart vl none) (pu : IsPart vu none) (ps : IsPart vs (some (-1)))
    (h : Q (((n : Int) - 1), -1, n) s) : wpAny (model prog w) A (Builtin.Slice.sliceApplied (.ref sl) (pure (n : Int))) Q E s := by
  obtain ⟨os, hos, hcs, hds⟩ := id hs
  unfold Builtin.Slice.sliceApplied Builtin.Slice.sliceFields
  refine wpAny_bind (wpAny_bind (wpAny_field hos hds (x := vl) rfl (wpAny_bind (wpAny_field hos hds (x := vu) rfl (wpAny_bind (wpAny_field hos hds (x := vs) rfl (wpAny_pure ?_)))))))
  refine wpAny_bind (slicePart_ ps ?_)
  show wpAny _ _ (if ((-1 : Int) == 0) = true then _ else _) _ _ s
  rw [if_neg (by decide)]
  refine wpAny_bind (slicePart_ pl (wpAny_bind (slicePart_ pu (wpAny_bind (wpAny_pure ?_)))))
  show wpAny _ _ (match Builtin.Slice.sliceAdjust none none (-1) (n : Int) with | (lo, hi) => pure (lo, (-1 : Int), Builtin.Slice.slicePlaces lo hi (-1))) _ _ s
  rw [adjust_rev]
  show wpAny _ _ (pure (((n : Int) - 1), (-1 : Int), Builtin.Slice.slicePlaces ((n : Int) - 1) (-1) (-1))) _ _ s
  rw [places_rev]
  exact wpAny_pure h
theorem getItem_tuple_rev {t sl : Addr} {its : List Value} {vl vu vs : Value} {Q : Value → Shared → Prop} (ht : IsTup s.heap t its.toArray) (hs : s.heap.IsSliceOf sl vl vu vs) (pl : IsPart vl none) (pu : IsPart vu none) (ps : IsPart vs (some (-1)))
    (h : Q (.ref s.heap.objs.size) { s with heap := s.heap.push { cls := .type "tuple", data := .seq its.reverse.toArray } })
    (hsz : its.length ≤ sizeLine) : wpAny (model prog w) A (getItem (.ref t) (.ref sl)) Q E s := by
  have htake : sizeOk (.seq its.reverse.toArray) := by
    show its.reverse.toArray.size ≤ sizeLine
    rw [List.size_toArray, List.length_reverse]
    exact hsz
  obtain ⟨os, hos, hcs, hds⟩ := id hs
  have hTs : s.TypeIs (.ref sl) "slice" := ⟨os, hos, hcs⟩
  unfold getItem
  try with_reducible refine wpAny_holding ?_
  first | refine wpAny_bind (wpAny_pure ?_) | skip
  refine wpAny_bind (wpAny_sequenceKey ht.typeIs (by decide) ?_)
  refine wpAny_bind (wpAny_callSpecial?_slot (name := Str.ofString "__getitem__") ht.typeIs PyProof.Rows.slot_tuple_getitem
    (wpAny_call_entry PyProof.Rows.slot_tuple_getitem ht.typeIs entry_tuple_getitem ?_ (args_tuple_getitem _ _)))
  show wpAny _ _ (Builtin.Tuple.tupleItemsOf (.ref t) >>= _) _ _ s
  refine wpAny_bind (tupleItemsOf_ ht ?_)
  refine wpAny_bind (wpAny_typeOf hTs ?_)
  rw [if_pos (by decide)]
  refine wpAny_bind (sliceApplied_rev hs pl pu ps ?_)
  have hno : ¬ ((((its.toArray.size : Nat) : Int) - 1 == 0 && (-1 : Int) == 1 && its.toArray.size == its.toArray.size) = true) := by
    intro q
    rw [Bool.and_eq_true, Bool.and_eq_true] at q
    exact absurd q.1.2 (by decide)
  show wpAny _ _ (if (((its.toArray.size : Nat) : Int) - 1 == 0 && (-1 : Int) == 1 && its.toArray.size == its.toArray.size) = true then _ else _) _ _ s
  have ep : ((List.range its.toArray.size).filterMap fun (m : Nat) => its.toArray[(((its.toArray.size : Nat) : Int) - 1 + (m : Int) * (-1)).toNat]?) = its.reverse := by
    rw [List.size_toArray]
    exact pick_rev its
  rw [if_neg hno, ep]
  first
    | exact wpAny_bind (m := Builtin.Tuple.tupleExact _) (wpAny_newObj_type (wpAny_pure ⟨_, rfl, wpAny_pure h⟩) htake)
    | exact wpAny_bind (m := Builtin.Tuple.tupleExact _) (wpAny_newObj_type (wpAny_bind (wpAny_pure (wpAny_pure ⟨_, rfl, wpAny_pure h⟩))) htake)
    | exact wpAny_bind (wpAny_bind (m := Builtin.Tuple.tupleExact _) (wpAny_newObj_type (wpAny_pure (wpAny_pure ⟨_, rfl, wpAny_pure h⟩)) htake))
    | exact wpAny_bind (wpAny_bind (m := Builtin.Tuple.tupleExact _) (wpAny_newObj_type (wpAny_pure ⟨_, rfl, wpAny_pure h⟩) htake))
end
end HT

namespace L2
open PySem PySem.Spec PyProof.Rows
section
variable {X : Cx}
def tRevT (K : PySem.W.Frag) (te : TE) : TE := fun σ H Q => te σ H fun x H1 => ∃ a xs, x = .ref a ∧ SqT K H1 a xs ∧ ∀ p, H1 p = none → Q (.ref p) (upd H1 p (.tup xs.reverse))
theorem pe_revT {e : Expr} {te : TE} {k : Nat} {p1 p2 p3 pos : Pos} (he : PE X e te) : PE X (.Subscript e (.Slice none none (some (.UnaryOp .USub (.Constant (.int 1) k p1) p2)) p3) pos) (tRevT X.K te) := by
  refine ⟨fun pins s σ H Q I h => ?_⟩
  refine Subscript_ (thn (he.run pins s σ H _ I h) fun v s1 ⟨x, H1, I1, r1, q1⟩ => ?_)
  obtain ⟨a, xs, ex, hx, q⟩ := q1
  subst ex
  cases r1
  have hst : PO X (some (.UnaryOp .USub (.Constant (.int 1) k p1) p2)) (tPart (tUn (rU fun i => .int (-i)) (tC (.int 1)))) := po_some (pe_un un_neg pe_int)
  refine wpAny_Slice (thn (po_none.run pins s1 σ H1 (fun o H2 => o = none ∧ H2 = H1) I1 ⟨rfl, rfl⟩) fun vl s2 ⟨l, H2, I2, pl, el, e2⟩ => ?_)
  subst el e2
  refine thn (po_none.run pins s2 σ H2 (fun o H3 => o = none ∧ H3 = H2) I2 ⟨rfl, rfl⟩) fun vu s3 ⟨u, H3, I3, pu, eu, e3⟩ => ?_
  subst eu e3
  refine thn (hst.run pins s3 σ H3 (fun o H4 => o = some (-1) ∧ H4 = H3) I3 ⟨1, rfl, -1, rfl, rfl, rfl⟩) fun vs s4 ⟨o, H4, I4, ps, eo, e4⟩ => ?_
  subst eo e4
  have I5 : Inv X pins σ H4 { s4 with heap := s4.heap.push { cls := .type "slice", data := .fields #[vl, vu, vs] } } := I4.kept (t' := s4.toks) fun b ob q => Heap.get?_push_of_some _ q
  obtain ⟨its, r, ht, hz⟩ := I5.tuple hx
  have hlen := r.length
  show wpAny (model X.prog X.w) X.A (subscriptTail e (.Slice none none (some (.UnaryOp .USub (.Constant (.int 1) k p1) p2)) p3) (.ref a) (.ref s4.heap.objs.size)) (EP X pins σ Q) X.xe { s4 with heap := s4.heap.push { cls := .type "slice", data := .fields #[vl, vu, vs] } }
  refine tail_any (ops := [.ref a, .ref s4.heap.objs.size]) ht.typeIs (PyProof.Rows.slot_tuple_getitem.lookup) ?_ (by with_unfolding_all rfl)
  refine HT.getItem_tuple_rev ht (Heap.IsSliceOf.new _ vl vu vs) pl pu ps ?_ (by omega)
  refine ⟨.ref _, _, I5.laid (t' := s4.toks) (o := .tup xs.reverse) (fun b ob q => Heap.get?_push_of_some _ q) (Nat.le_refl _) ?_, rfl, q _ (I5.hok.fresh (Nat.le_refl _))⟩
  exact ⟨by rw [List.length_reverse]; exact hz, _, r.reverse, IsTup.new _ _⟩
end
end L2

namespace Bw
open PySem PySem.Spec PyProof.Rows L2 LamX RZ
theorem ip_ext {X : Cx} : PIp X .Add rExt2 := fun pins s σ H x y v u Q I rx ry h => iop_ext pins s σ H x y v u Q I rx ry h
section
variable {K : PySem.W.Frag} {H : Hp} {Q : VK} {σ : L2.St}
theorem w_revTE {te : TE} (h : te σ H fun x H1 => ∃ a xs, x = .ref a ∧ SqT K H1 a xs ∧ ∀ p, H1 p = none → Q (.ref p) (upd H1 p (.tup xs.reverse))) : tRevT K te σ H Q := h
theorem w_revT {a : Addr} {xs : List V} (h : H a = some (.tup xs)) (k : ∀ p H2, H p = none → Same H H2 → H2 p = some (.tup xs.reverse) → Q (.ref p) H2) : ∃ a' xs, V.ref a = .ref a' ∧ SqT K H a' xs ∧ ∀ p, H p = none → Q (.ref p) (upd H p (.tup xs.reverse)) := ⟨a, xs, rfl, .of h, fun p n => k p _ n (same_new n) upd_same⟩
theorem w_ext2 {l b : Addr} {xs zs : List V} (h1 : H l = some (.lst xs)) (h2 : H b = some (.lst zs)) (hl : xs.length + zs.length ≤ 100000) (k : ∀ H2, KB l H H2 → H2 l = some (.lst (xs ++ zs)) → Q (.ref l) H2) : rExt2 (.ref l) (.ref b) H Q := ⟨l, b, xs, zs, rfl, rfl, h1, h2, Nat.le_trans hl (by decide), k _ kb_upd upd_same⟩
theorem w_zipA {ta : TA} {R : It → Hp → Prop} (h : ta σ H fun vs H1 => ∃ a b xs ys, vs = [.ref a, .ref b] ∧ ((SqL K H1 a xs ∧ SqL K H1 b ys ∧ R (Itz K a b) H1) ∨ (SqT K H1 a xs ∧ SqT K H1 b ys ∧ R (ItzT K a b) H1))) : iZipA K ta σ H R := h
theorem fin_zipT {a b : Addr} {xs ys : List V} (n : Nat) (hn : n = min xs.length ys.length) : Fini (ItzT K a b) n (fun H => SqT K H a xs ∧ SqT K H b ys) (fun i v H H' => ∃ T x y, v = .ref T ∧ H T = none ∧ Same H H' ∧ H' T = some (.tup [x, y]) ∧ xs[i]? = some x ∧ ys[i]? = some y) :=
  ⟨fun i H h o => ⟨xs, ys, xs[i]'(by omega), ys[i]'(by omega), o.1, o.2, List.getElem?_eq_getElem _, List.getElem?_eq_getElem _⟩, fun i H v H' h o y => by
    obtain ⟨T, x, z, e, n, e', q, r⟩ := y
    subst e'
    exact ⟨T, x, z, e, n, same_new n, upd_same, q xs o.1, r ys o.2⟩, fun H o => ⟨xs, ys, o.1, o.2, by omega⟩⟩
end
end Bw

/-! set comprehensions over keys, with one for and with two -/
namespace Bw
open PySem PySem.Spec PyProof.Rows L2
abbrev emptySetOf (w : World) : Obj := { cls := .type "set", dict := none, data := .set #[] 0 (.fresh 0 0 (!w.params.followText "set-order")) }
/-- a kind of set as a tracked thing -/
structure Bag (κ : Type) [DecidableEq κ] where
  bo : World → Addr → (κ → Bool) → Nat → HO
  kv : κ → V
  fresh : ∀ (P : Program) (w : World) (H : Hp) (h : Heap), ObjOk P w H (h.push (emptySetOf w)) h.objs.size (bo w h.objs.size (fun _ => false) 0)
  add : ∀ {X : Cx} {pins : List (Addr × Obj)} {σ : L2.St} {H : Hp} {s : Shared} {E : Value → Shared → Prop} {D : Addr} {S : κ → Bool} {n : Nat} {y : κ} {u : Value} {Q : Value → Shared → Prop}, Inv X pins σ H s → H D = some (bo X.w D S n) → n + 1 < scanBound → RelV (kv y) u →
    (∀ s', Inv X pins σ (upd H D (bo X.w D (fun j => S j || decide (j = y)) (if S y = true then n else n + 1))) s' → Q .none s') → wpAny (model X.prog X.w) X.A (call (.builtin "set.add") [.ref D, u]) Q E s
/-- sets of whole numbers -/
def bagI : Bag Int where
  bo := SetO
  kv := .int
  fresh := fun P w H h => setO_new (setR_fresh w)
  add := fun {X pins σ H s E D S n y u Q} I hD room r h => by
    obtain ⟨tk, rfl⟩ := r
    have R := setO_get I hD
    refine setR_add R room fun h' sb new => ?_
    have he : ∃ z, h'.get? D = some z := by
      have ⟨o, _, _, _, ho, _⟩ := new
      exact ⟨o, ho⟩
    exact h _ (I.write (e := D) (t' := s.toks + 1) (by rw [hD]; trivial) (.inl rfl) (fun b z hb hz => (sb.2 b hb).trans hz) he (setO_new new))
section
variable {κ : Type} [DecidableEq κ]
/-- what a turn of the innermost for does with the key at hand -/
def bagPut (B : Bag κ) (w : World) (D : Addr) (Nx : Hp → Prop) (y : V) (H : Hp) : Prop := ∃ (k : κ) (S : κ → Bool) (n : Nat), y = B.kv k ∧ H D = some (B.bo w D S n) ∧ n + 1 < scanBound ∧ Nx (upd H D (B.bo w D (fun j => S j || decide (j = k)) (if S k = true then n else n + 1)))
def tBag (B : Bag κ) (w : World) (wi : TI) (g : TG) (tt : TT) (te : TE) (vs : List Nat) : TE := fun σ H Q => wi σ H fun J H1 => ∀ D, H1 D = none → ∃ W : Nat → Nat → Hp → Prop, (∃ m, W 0 m (upd H1 D (B.bo w D (fun _ => false) 0))) ∧ ∀ i m H, W i m H →
  (J.stop i H ∧ Q (.ref D) H) ∨ (J.go i H ∧ ∃ Nx : Hp → Prop, (∀ H', Nx H' → ∃ m', m' < m ∧ W (i + 1) m' H') ∧ ∀ x H', J.yld i H x H' → g x (wipe σ vs) H' fun σ2 H2 => wipe σ2 vs = wipe σ vs ∧ tt σ2 H2 fun b H3 =>
    if b = true then te σ2 H3 (bagPut B w D Nx) else Nx H3)
def tBag2 (B : Bag κ) (w : World) (wi : TI) (g : TG) (tt : TT) (wi1 : TI) (g1 : TG) (tt1 : TT) (te : TE) (vs vs1 : List Nat) : TE := fun σ H Q => wi σ H fun J H1 => ∀ D, H1 D = none → ∃ W : Nat → Nat → Hp → Prop, (∃ m, W 0 m (upd H1 D (B.bo w D (fun _ => false) 0))) ∧ ∀ i m H, W i m H →
  (J.stop i H ∧ Q (.ref D) H) ∨ (J.go i H ∧ ∃ Nx : Hp → Prop, (∀ H', Nx H' → ∃ m', m' < m ∧ W (i + 1) m' H') ∧ ∀ x H', J.yld i H x H' → g x (wipe σ vs) H' fun σ2 H2 => wipe σ2 vs = wipe σ vs ∧ tt σ2 H2 fun b H3 =>
    if b = true then wi1 σ2 H3 fun J1 H4 => ∃ W1 : Nat → Nat → Hp → Prop, (∃ m, W1 0 m H4) ∧ ∀ j k H, W1 j k H →
      (J1.stop j H ∧ Nx H) ∨ (J1.go j H ∧ ∃ Nx1 : Hp → Prop, (∀ H', Nx1 H' → ∃ k', k' < k ∧ W1 (j + 1) k' H') ∧ ∀ x H', J1.yld j H x H' → g1 x (wipe σ2 vs1) H' fun σ3 H5 => wipe σ3 vs1 = wipe σ2 vs1 ∧ tt1 σ3 H5 fun b H6 =>
        if b = true then te σ3 H6 (bagPut B w D Nx1) else Nx1 H6)
    else Nx H3)
end
section
variable {prog : Program} {w : World} {A : Around} {R : Result → Shared → Prop} {s : Shared} {elt t0 i0 t1 i1 : Expr} {ifs0 ifs1 : List Expr} {scope : Scope} {pos : Pos} {it acc : Value} {env : Env}
abbrev noteE (prog : Program) (w : World) (A : Around) (env : Env) (R : Result → Shared → Prop) : Value → Shared → Prop := notedBy (model prog w) A env fun e s' => R (.error e) s'
abbrev testsOf (env : Env) (ifs : List Expr) : Sem Bool := forIn ifs true fun c r => if r = true then (do let b ← isTrue c env (eval c env); pure (.yield b)) else pure (.yield r)
/-- the loop of a clause of any comprehension's block -/
theorem loop_of {C tg : Expr} {i : Nat} {ifs : List Expr} {p : Pos} {body : Sem Unit} (hu : A.under (.compLoop C i it acc env) = A) (hd : (model prog w).den (.compLoop C i it acc env) = (compTurn C i it acc env).onRaise (fun x => do noteFrame x env; theTreesLotGoes x))
    (ht : compTurn C i it acc env = (do standAt p; match ← pyNext it with
      | none => pure (.done .next)
      | some v => letOwnedTupleGo tg it v; assign tg env v; let mut ok := true; for c in ifs do { if ok then ok ← isTrue c env (eval c env) }; if ok then { body }; again (.compLoop C i it acc env)))
    (I : Nat → Shared → Prop)
    (turn : ∀ n s, I n s → wpAny (model prog w) A (pyNext it) (fun r s1 => match r with
      | none => R (.ok .next) s1
      | some v => wpAny (model prog w) A (letOwnedTupleGo tg it v) (fun _ s2 => wpAny (model prog w) A (assign tg env v) (fun _ s3 => wpAny (model prog w) A (testsOf env ifs) (fun b s4 =>
          if b = true then wpAny (model prog w) A body (fun _ s5 => ∃ m, m < n ∧ I m s5) (noteE prog w A env R) s4 else ∃ m, m < n ∧ I m s4) (noteE prog w A env R) s3) (noteE prog w A env R) s2) (noteE prog w A env R) s1) (noteE prog w A env R) s)
    (n : Nat) (h : I n s) : codeAny (model prog w) A (.compLoop C i it acc env) R s := by
  refine codeAny_loop rfl I (fun n s hI => ?_) n h
  rw [hu, hd]
  refine wpAny_noted ?_
  rw [ht]
  refine wpAny_bind (wpAny_standAt (wpAny_bind (wpAny_mono (turn n s hI) (fun r s1 h1 => ?_) fun _ _ z => z)))
  cases r with
  | none => exact wpAny_pure h1
  | some v =>
    refine wpAny_bind (wpAny_mono h1 (fun _ s2 h2 => wpAny_bind (wpAny_mono h2 (fun _ s3 h3 => wpAny_bind (wpAny_mono h3 (fun b s4 h4 => ?_) fun _ _ z => z)) fun _ _ z => z)) fun _ _ z => z)
    cases b with
    | false => exact wpAny_pure ⟨rfl, h4⟩
    | true => exact wpAny_bind (wpAny_mono h4 (fun _ s5 h5 => wpAny_pure ⟨rfl, h5⟩) fun _ _ z => z)
abbrev setTwo (elt t0 i0 t1 i1 : Expr) (ifs0 ifs1 : List Expr) (scope : Scope) (pos : Pos) : Expr := .SetComp elt [⟨t0, i0, ifs0, 0⟩, ⟨t1, i1, ifs1, 0⟩] scope pos
/-- the body of the innermost clause, of the outer one -/
abbrev addOne (elt : Expr) (acc : Value) (env : Env) : Sem Unit := do let v ← eval elt env; standAt elt.pos; let _ ← call (.builtin "set.add") [acc, v]
abbrev goIn (C i1 : Expr) (acc : Value) (env : Env) : Sem Unit := do let x ← eval i1 env; standAt i1.pos; let x ← foldedSetIterable i1 env x; let _ ← runOwn (.compStart C 1 (← holding [x] (pyIter x)) acc env) env
theorem loopSet_in (I : Nat → Shared → Prop)
    (turn : ∀ n s, I n s → wpAny (model prog w) A (pyNext it) (fun r s1 => match r with
      | none => R (.ok .next) s1
      | some v => wpAny (model prog w) A (letOwnedTupleGo t1 it v) (fun _ s2 => wpAny (model prog w) A (assign t1 env v) (fun _ s3 => wpAny (model prog w) A (testsOf env ifs1) (fun b s4 =>
          if b = true then wpAny (model prog w) A (addOne elt acc env) (fun _ s5 => ∃ m, m < n ∧ I m s5) (noteE prog w A env R) s4 else ∃ m, m < n ∧ I m s4) (noteE prog w A env R) s3) (noteE prog w A env R) s2) (noteE prog w A env R) s1) (noteE prog w A env R) s)
    (n : Nat) (h : I n s) : codeAny (model prog w) A (.compLoop (setTwo elt t0 i0 t1 i1 ifs0 ifs1 scope pos) 1 it acc env) R s := loop_of rfl rfl (by rfl) I turn n h
theorem loopSet_out (I : Nat → Shared → Prop)
    (turn : ∀ n s, I n s → wpAny (model prog w) A (pyNext it) (fun r s1 => match r with
      | none => R (.ok .next) s1
      | some v => wpAny (model prog w) A (letOwnedTupleGo t0 it v) (fun _ s2 => wpAny (model prog w) A (assign t0 env v) (fun _ s3 => wpAny (model prog w) A (testsOf env ifs0) (fun b s4 =>
          if b = true then wpAny (model prog w) A (goIn (setTwo elt t0 i0 t1 i1 ifs0 ifs1 scope pos) i1 acc env) (fun _ s5 => ∃ m, m < n ∧ I m s5) (noteE prog w A env R) s4 else ∃ m, m < n ∧ I m s4) (noteE prog w A env R) s3) (noteE prog w A env R) s2) (noteE prog w A env R) s1) (noteE prog w A env R) s)
    (n : Nat) (h : I n s) : codeAny (model prog w) A (.compLoop (setTwo elt t0 i0 t1 i1 ifs0 ifs1 scope pos) 0 it acc env) R s := loop_of rfl rfl (by simp only [bind_assoc, pure_bind]; rfl) I turn n h
/-- the inner clause, begun -/
theorem startIn {C : Expr} (hn : C = setTwo elt t0 i0 t1 i1 ifs0 ifs1 scope pos) (h0 : codeAny (model prog w) A (.compLoop C 1 it acc env) R s)
    (h : wpAny (model prog w) A (pyIter it) (fun it' s' => codeAny (model prog w) A (.compLoop C 1 it' acc env) R s') (noteE prog w A env R) s) : codeAny (model prog w) A (.compStart C 1 it acc env) R s := by
  subst hn
  refine codeAny_of_tree ?_
  show wpAny _ _ ((compStart (setTwo elt t0 i0 t1 i1 ifs0 ifs1 scope pos) 1 it acc env).onRaise (fun x => do noteFrame x env; standAt theWindowsPlace)) _ _ s
  refine wpAny_notedAt ?_
  unfold compStart
  show wpAny _ _ (ask >>= _) _ _ s
  refine wpAny_bind (wpAny_askSetting (wpAny_ite ?_))
  split
  · first
      | exact wpAny_bind (wpAny_pure (wpAny_pure ⟨rfl, h0⟩))
      | exact wpAny_pure ⟨rfl, h0⟩
  · refine wpAny_bind (wpAny_rule ?_)
    show wpAny _ _ (standAt i1.pos >>= _) _ _ s
    exact wpAny_bind (wpAny_standAt (wpAny_bind (wpAny_mono h (fun it' s' h' => wpAny_pure ⟨rfl, h'⟩) fun _ _ z => z)))
/-- the inner clause by its own loop -/
theorem goIn_ok {C : Expr} {Q : Unit → Shared → Prop} {E : Value → Shared → Prop} {N : Shared → Prop} (hs : ∀ x, foldedSetIterable i1 env x = pure x) (hQ : ∀ s, N s → Q () s)
    (h : wpAny (model prog w) A (eval i1 env) (fun x s1 => wpAny (model prog w) A (pyIter x) (fun it1 s2 => codeAny (model prog w) A (.compStart C 1 it1 acc env) (fun r s' => match r with | .ok _ => N s' | .error _ => False) s2) E s1) E s) :
    wpAny (model prog w) A (goIn C i1 acc env) Q E s := by
  refine wpAny_bind (wpAny_mono h (fun x s1 h1 => ?_) fun _ _ z => z)
  refine wpAny_bind (wpAny_standAt (wpAny_bind (wpAny_of_eq (hs x) (wpAny_bind (wpAny_holding (wpAny_mono h1 (fun it1 s2 h2 => ?_) fun _ _ z => z))))))
  refine wpAny_bind (wpAny_runOwn ?_)
  rw [Around.mark_none]
  refine codeAny_mono h2 fun r s' hr => ?_
  cases r with
  | ok f => exact wpAny_pure (hQ _ hr)
  | error e => exact hr.elim
end
section
variable {X : Cx} {κ : Type} [DecidableEq κ]
/-- what the walk of a comprehension's block starts from -/
structure BlkAt (X : Cx) (pins : List (Addr × Obj)) (σ : L2.St) (tg : Expr) (Q : VK) (pst : Addr → Result → Shared → Prop) (scope : Scope) (vs : List Nat) (s3 : Shared) (H3 : Hp) (ce : Env) (fp : List Addr) (it D : Addr) (tn : Nat → Heap → Prop) (J : It) (s4 : Shared) : Prop where
  inv : Inv (X.blk s3 H3 scope ce fp) [] (wipe σ vs) H3 s4
  turn : Turn X.prog X.w X.K tg J fp it tn
  first : tn 0 s4.heap
  none : ∀ b ∈ fp, H3 b = none
  back : ∀ H5 s6, Inv (X.blk s3 H3 scope ce fp) [] (wipe σ vs) H5 s6 → Q (.ref D) H5 → pst ce.locals (.ok .next) s6
theorem BlkAt.stat {pins : List (Addr × Obj)} {σ : L2.St} {tg : Expr} {Q : VK} {pst : Addr → Result → Shared → Prop} {scope : Scope} {vs : List Nat} {s3 : Shared} {H3 : Hp} {ce : Env} {fp : List Addr} {it D : Addr} {tn : Nat → Heap → Prop} {J : It} {s4 : Shared} (_ : BlkAt X pins σ tg Q pst scope vs s3 H3 ce fp it D tn J s4)
    {σ' : L2.St} {H' : Hp} {s' : Shared} (I : Inv (X.blk s3 H3 scope ce fp) [] σ' H' s') (hn : ∀ b ∈ fp, H' b = Option.none) : ∀ b ∈ fp, FpOk (X.blk s3 H3 scope ce fp) [] H' b := fun b hb =>
  ⟨hn b hb, (I.ok.exf b hb).1, I.ok.exfs b hb, .inl hb, fun x c e => (I.ok.exf b hb).2 x c e, fun p hp => absurd (show p ∈ ([] : List (Addr × Obj)) ++ [] from hp) (by simp)⟩
/-- a set comprehension up to its block's first loop -/
theorem set_open (B : Bag κ) {pins : List (Addr × Obj)} {s : Shared} {σ : L2.St} {H : Hp} {Q : VK} {elt tg iter : Expr} {ifs : List Expr} {rest : List Comprehension} {scope : Scope} {own : List (PySem.Str × Nat)} {pos pos' : Pos} {wi : TI} {use : Option (Value → Sem Unit)} {Qf : Value → Shared → Prop} {M : It → Hp → Prop}
    (hN : X.N.Nodup) (I : Inv X pins σ H s) (hi : PI X tg iter wi) (ok : BlkOk X.N X.env.scope scope own) (hs : ∀ x, foldedSetIterable iter X.env x = pure x)
    (h : wi σ H M)
    (hRR : ∀ D C s' m H', Inv X pins σ H' s' → Q (.ref D) H' → s'.heap.Ns C m → FpOk X pins H' C → compPost (model X.prog X.w) X.A X.xe use Qf (.ref D) C (.ok .next) s')
    (walk : ∀ (s3 : Shared) (H2 : Hp) (C : Addr) (cl : List (PySem.Str × Addr)) (fp : List Addr) (it D : Addr) (tn : Nat → Heap → Prop) (J : It) (s4 : Shared), M J H2 → H2 D = none → BlkAt X pins σ tg Q (fun C => compPost (model X.prog X.w) X.A X.xe use Qf (.ref D) C) scope (own.map (·.2)) s3 (upd H2 D (B.bo X.w D (fun _ => false) 0)) (compEnvC scope cl C X.env) fp it D tn J s4 →
      codeAny (model X.prog X.w) X.A (.compLoop (.SetComp elt (⟨tg, iter, ifs, 0⟩ :: rest) scope pos) 0 (.ref it) (.ref D) (compEnvC scope cl C X.env)) (compPost (model X.prog X.w) X.A X.xe use Qf (.ref D) C) s4) :
    wpAny (model X.prog X.w) X.A (comprehension (.SetComp elt (⟨tg, iter, ifs, 0⟩ :: rest) scope pos) scope X.env pos' (newSet (.type "set")) false (eval iter X.env) use) Qf X.xe s := by
  have hfree : ∀ y ∈ scope.names, y.2 = .free → ∃ c, X.env.cells.lookup y.1 = some c := fun y hy e => (ok.free y hy e).elim (fun k => I.ok.has _ (.inl k)) fun k => I.ok.has _ (.inr k)
  refine wpAny_comprehension_free (use := use) rfl hs (closure_ok hfree) ok.kind (fun y hy e => by rw [ok.uniq y hy, e]) (thn (hi.run pins s σ H _ I h) fun xv s1 hx => thn hx fun itv s2 h2 => ?_)
  obtain ⟨it, fp, tn, J, H2, e, I2, T, st2, f2, q⟩ := h2
  subst e
  refine PpSet.newSet_ok (newEnv_comp ?_)
  have hDn : H2 s2.heap.objs.size = none := I2.hok.fresh (Nat.le_refl _)
  generalize hs3 : ({ s2 with heap := s2.heap.push (emptySetOf X.w) } : Shared) = s3
  have h3 : s3.heap = s2.heap.push (emptySetOf X.w) := by rw [← hs3]
  have I3 : Inv X pins σ (upd H2 s2.heap.objs.size (B.bo X.w s2.heap.objs.size (fun _ => false) 0)) s3 := by
    rw [← hs3]
    exact I2.laid (t' := s2.toks) (fun b o e => Heap.get?_push_of_some _ e) (Nat.le_refl _) (B.fresh _ _ _ _)
  generalize hD : s2.heap.objs.size = D at hDn I3
  have f3 : ∀ b ∈ fp, FpOk X pins (upd H2 D (B.bo X.w D (fun _ => false) 0)) b ∧ b < s3.heap.objs.size := fun b hb => by
    obtain ⟨o, e, _⟩ := T.obj _ _ st2 b hb
    have hlt := Heap.lt_size e
    refine ⟨⟨?_, (f2 b hb).2⟩, by rw [h3, Heap.size_push]; exact Nat.lt_succ_of_lt hlt⟩
    rw [upd_ne (by rw [← hD]; exact Nat.ne_of_lt hlt)]
    exact (f2 b hb).1
  have st3 : tn 0 s3.heap := T.keep _ _ _ st2 fun b _ o e => by rw [h3]; exact Heap.get?_push_of_some _ e
  have I4 := block_start I3 ok hN f3
  have st4 : tn 0 (pushCells (s3.heap.push { cls := .type "dict", data := .dict #[] }) scope.names) := T.keep _ _ _ st3 fun b _ o e => pushCells_keeps _ _ _ _ (Heap.get?_push_of_some _ e)
  have loop := walk s3 H2 s3.heap.objs.size (cellsFrom (s3.heap.objs.size + 1) scope.names (cloFrom X.env.cells scope.names [])) fp it D tn J { s3 with heap := pushCells (s3.heap.push { cls := .type "dict", data := .dict #[] }) scope.names } q hDn ⟨I4, T, st4, fun b hb => (f3 b hb).1.1, fun H5 s6 I6 qq => by
    have I7 : Inv X pins σ H5 s6 := I3.call' (ch := fp) I6.os I6.base I6.hok I6.bare fun b hb => let z := (f3 b hb).1.2; ⟨z.2.2.1, z.1, z.2.2.2.1, z.2.2.2.2⟩
    obtain ⟨m, hn, _⟩ := I6.loc
    exact hRR D s3.heap.objs.size s6 m H5 I7 qq hn (I3.fpOk (Nat.le_refl _) I6.free)⟩
  exact PpSet.codeAny_compStart_set loop (T.self X.A 0 _ _ _ st4 loop)
/-- the block's rules stand for any block -/
abbrev InBlk (X : Cx) (scope : Scope) (Pr : Cx → Prop) : Prop := ∀ (s : Shared) (H : Hp) (C : Addr) (cl : List (PySem.Str × Addr)) (fp : List Addr), Pr (X.blk s H scope (compEnvC scope cl C X.env) fp)
/-- what a turn's end leaves behind -/
theorem turn_end {pins : List (Addr × Obj)} {s0 : Shared} {H0 : Hp} {scope : Scope} {ce : Env} {fp fp1 : List Addr} {σa σb : L2.St} {tg : Expr} {it : Addr} {J : It} {tn : Nat → Heap → Prop} {i : Nat} {h7 : Heap} {s' : Shared} {H' : Hp} (T : Turn X.prog X.w X.K tg J fp1 it tn) (st7 : tn (i + 1) h7)
    (I' : Inv (X.blk s0 H0 scope ce fp) (pins ++ pinsAt fp1 h7) σb H' s') (hl : σa.length = σb.length) (hk : ∀ (j : Nat) v, σa[j]? = some (some v) → σb[j]? = some (some v)) :
    Inv (X.blk s0 H0 scope ce fp) pins σa H' s' ∧ tn (i + 1) s'.heap ∧ ∀ b ∈ fp1, H' b = none := by
  have pin' : ∀ b ∈ fp1, ∀ o, h7.get? b = some o → s'.heap.get? b = some o ∧ H' b = none := fun b hb o e =>
    let z := I'.pin (b, o) (List.mem_append_right _ (List.mem_append_right _ (mem_pinsAt hb e)))
    ⟨z.1, z.2.1⟩
  refine ⟨(I'.unpinned (pins := pins)).weak hl hk, T.keep _ _ _ st7 fun b hb o e => (pin' b hb o e).1, fun b hb => ?_⟩
  obtain ⟨o, e, _⟩ := T.obj _ _ st7 b hb
  exact (pin' b hb o e).2
theorem addOne_ok (B : Bag κ) {Y : Cx} {pins : List (Addr × Obj)} {s : Shared} {σ : L2.St} {H : Hp} {elt : Expr} {te : TE} {D : Addr} {Nx : Hp → Prop} {Q : Unit → Shared → Prop} {E : Value → Shared → Prop} (hY : Y.xe = fun _ _ => False) (he : PE Y elt te) (I : Inv Y pins σ H s) (q : te σ H (bagPut B Y.w D Nx))
    (k : ∀ s' H', Inv Y pins σ H' s' → Nx H' → Q () s') : wpAny (model Y.prog Y.w) Y.A (addOne elt (.ref D) Y.env) Q E s := by
  have r := he.run pins s σ H _ I q
  rw [hY] at r
  refine wpAny_bind (thnF r fun u s1 ⟨yv, H1, I1, r1, key, S0, n0, ey, hD1, hz1, nx⟩ => wpAny_bind (wpAny_standAt (wpAny_bind ?_)))
  subst ey
  exact B.add I1 hD1 hz1 r1 fun s2 I2 => wpAny_pure (k _ _ I2 nx)
/-- {elt for tg in iter if ..} -/
theorem pe_bag (B : Bag κ) {elt tg iter : Expr} {ifs : List Expr} {scope : Scope} {own : List (PySem.Str × Nat)} {pos : Pos} {wi : TI} {g : TG} {tt : TT} {te : TE} (hc : X.calm = true) (hN : X.N.Nodup) (hi : PI X tg iter wi) (ok : BlkOk X.N X.env.scope scope own)
    (hg : InBlk X scope fun Y => PG Y tg g) (ht : InBlk X scope fun Y => PTs Y ifs tt) (he : InBlk X scope fun Y => PE Y elt te) (hs : ∀ x, foldedSetIterable iter X.env x = pure x := by intro _; rfl) :
    PE X (.SetComp elt [⟨tg, iter, ifs, 0⟩] scope pos) (tBag B X.w wi g tt te (own.map (·.2))) := by
  refine ⟨fun pins s σ H Q I h => ?_⟩
  rw [PpSet.eval_SetComp]
  refine set_open B (Q := Q) hN I hi ok hs h (fun D C s' m H' I' q hn f => ⟨m, hn, fun h'' sb => ?_⟩) ?_
  · obtain ⟨f0, f1, f2, f3, f4, f5⟩ := f
    exact ⟨.ref D, H', I'.turned (t' := s'.toks) (fun b o hb e => (sb.2 b hb).trans e) f0 f1 f3 f4 f5, rfl, q⟩
  intro s3 H2 C cl fp it D tn J s4 q hDn bk
  obtain ⟨W, ⟨m0, w0⟩, turn⟩ := q D hDn
  have pg := hg s3 (upd H2 D (B.bo X.w D (fun _ => false) 0)) C cl fp
  have pt := ht s3 (upd H2 D (B.bo X.w D (fun _ => false) 0)) C cl fp
  have pe := he s3 (upd H2 D (B.bo X.w D (fun _ => false) 0)) C cl fp
  have cL : (compEnvC scope cl C X.env).locals = C := rfl
  generalize compEnvC scope cl C X.env = ce at *
  have st := fun {σ' H' s'} => bk.stat (σ' := σ') (H' := H') (s' := s')
  generalize upd H2 D (B.bo X.w D (fun _ => false) 0) = H3 at *
  refine PpSet.compLoopS_any (fun n s' => ∃ i H', Inv (X.blk s3 H3 scope ce fp) [] (wipe σ (own.map (·.2))) H' s' ∧ tn i s'.heap ∧ (∀ b ∈ fp, H' b = none) ∧ W i n H') ?_ m0 ⟨0, H3, bk.inv, bk.first, bk.none, w0⟩
  rintro n s5 ⟨i, H5, I5, st5, n5, w5⟩
  rcases turn i n H5 w5 with ⟨stop, qq⟩ | ⟨go, Nx, hNx, step⟩
  · refine thnF (bk.turn.done (X.blk s3 H3 scope ce fp) rfl rfl rfl hc i [] s5 _ H5 (fun _ _ => False) I5 (st I5 n5) st5 stop) fun r s6 ⟨hr, I6⟩ => ?_
    subst hr
    have := bk.back H5 s6 I6 qq
    rw [cL] at this
    exact this
  · refine thnF (bk.turn.item (X.blk s3 H3 scope ce fp) rfl rfl rfl hc i [] s5 _ H5 (fun _ _ => False) I5 (st I5 n5) st5 go) fun r s6 ⟨u, hr, h6⟩ => ?_
    subst hr
    refine thnF h6 fun _ s7 ⟨x, H7, I7, r7, y7, st7, n7⟩ => ?_
    have I7' := I7.pinned (st I7 n7) (bk.turn.obj _ _ st7)
    refine thnF (pg.run _ s7 _ H7 x u _ I7' r7 (step x H7 y7)) fun _ s8 ⟨σ8, H8, I8, hw8, q8⟩ => ?_
    refine thnF (pt.run _ s8 σ8 H8 _ I8 q8) fun b s9 ⟨H9, I9, q9⟩ => ?_
    have fin : ∀ {s' : Shared} {H' : Hp}, Inv (X.blk s3 H3 scope ce fp) ([] ++ pinsAt fp s7.heap) σ8 H' s' → Nx H' → ∃ m, m < n ∧ ∃ i H', Inv (X.blk s3 H3 scope ce fp) [] (wipe σ (own.map (·.2))) H' s' ∧ tn i s'.heap ∧ (∀ b ∈ fp, H' b = none) ∧ W i m H' := fun {s' H'} I' nx => by
      obtain ⟨m', hm, w'⟩ := hNx H' nx
      obtain ⟨z1, z2, z3⟩ := turn_end bk.turn st7 I' (σa := wipe σ (own.map (·.2))) (by rw [← hw8, wipe_length]) (fun j v e => by rw [← hw8] at e; exact (wipe_some e).1)
      exact ⟨m', hm, i + 1, H', z1, z2, z3, w'⟩
    cases b with
    | false =>
      simp only [Bool.false_eq_true, if_false] at q9 ⊢
      exact fin I9 q9
    | true =>
      simp only [if_true] at q9 ⊢
      refine thnF (pe.run _ s9 σ8 H9 _ I9 q9) fun z s10 ⟨yv, H10, I10, r10, key, S0, n0, ey, hD10, hz10, nx⟩ => ?_
      subst ey
      exact B.add (X := X.blk s3 H3 scope ce fp) I10 hD10 hz10 r10 fun s11 I11 => fin I11 nx
/-- {elt for tg in iter if .. for tg1 in iter1 if ..} -/
theorem pe_bag2 (B : Bag κ) {elt tg iter tg1 iter1 : Expr} {ifs ifs1 : List Expr} {scope : Scope} {own : List (PySem.Str × Nat)} {vs1 : List Nat} {pos : Pos} {wi wi1 : TI} {g g1 : TG} {tt tt1 : TT} {te : TE} (hc : X.calm = true) (hN : X.N.Nodup) (hi : PI X tg iter wi) (ok : BlkOk X.N X.env.scope scope own) (hv : ∀ i ∈ vs1, i ∈ own.map (·.2))
    (hg : InBlk X scope fun Y => PG Y tg g) (ht : InBlk X scope fun Y => PTs Y ifs tt) (hi1 : InBlk X scope fun Y => PI Y tg1 iter1 wi1) (hg1 : InBlk X scope fun Y => PG Y tg1 g1) (ht1 : InBlk X scope fun Y => PTs Y ifs1 tt1) (he : InBlk X scope fun Y => PE Y elt te)
    (hs : ∀ x, foldedSetIterable iter X.env x = pure x := by intro _; rfl) (hs1 : ∀ env x, foldedSetIterable iter1 env x = pure x := by intro _ _; rfl) :
    PE X (.SetComp elt [⟨tg, iter, ifs, 0⟩, ⟨tg1, iter1, ifs1, 0⟩] scope pos) (tBag2 B X.w wi g tt wi1 g1 tt1 te (own.map (·.2)) vs1) := by
  refine ⟨fun pins s σ H Q I h => ?_⟩
  rw [PpSet.eval_SetComp]
  refine set_open B (Q := Q) hN I hi ok hs h (fun D C s' m H' I' q hn f => ⟨m, hn, fun h'' sb => ?_⟩) ?_
  · obtain ⟨f0, f1, f2, f3, f4, f5⟩ := f
    exact ⟨.ref D, H', I'.turned (t' := s'.toks) (fun b o hb e => (sb.2 b hb).trans e) f0 f1 f3 f4 f5, rfl, q⟩
  intro s3 H2 C cl fp it D tn J s4 q hDn bk
  obtain ⟨W, ⟨m0, w0⟩, turn⟩ := q D hDn
  have pg := hg s3 (upd H2 D (B.bo X.w D (fun _ => false) 0)) C cl fp
  have pt := ht s3 (upd H2 D (B.bo X.w D (fun _ => false) 0)) C cl fp
  have pe := he s3 (upd H2 D (B.bo X.w D (fun _ => false) 0)) C cl fp
  have pi1 := hi1 s3 (upd H2 D (B.bo X.w D (fun _ => false) 0)) C cl fp
  have pg1 := hg1 s3 (upd H2 D (B.bo X.w D (fun _ => false) 0)) C cl fp
  have pt1 := ht1 s3 (upd H2 D (B.bo X.w D (fun _ => false) 0)) C cl fp
  have cL : (compEnvC scope cl C X.env).locals = C := rfl
  generalize compEnvC scope cl C X.env = ce at *
  have st := fun {σ' H' s'} => bk.stat (σ' := σ') (H' := H') (s' := s')
  generalize upd H2 D (B.bo X.w D (fun _ => false) 0) = H3 at *
  refine loopSet_out (fun n s' => ∃ i H', Inv (X.blk s3 H3 scope ce fp) [] (wipe σ (own.map (·.2))) H' s' ∧ tn i s'.heap ∧ (∀ b ∈ fp, H' b = none) ∧ W i n H') ?_ m0 ⟨0, H3, bk.inv, bk.first, bk.none, w0⟩
  rintro n s5 ⟨i, H5, I5, st5, n5, w5⟩
  rcases turn i n H5 w5 with ⟨stop, qq⟩ | ⟨go, Nx, hNx, step⟩
  · refine thnF (bk.turn.done (X.blk s3 H3 scope ce fp) rfl rfl rfl hc i [] s5 _ H5 (fun _ _ => False) I5 (st I5 n5) st5 stop) fun r s6 ⟨hr, I6⟩ => ?_
    subst hr
    have := bk.back H5 s6 I6 qq
    rw [cL] at this
    exact this
  · refine thnF (bk.turn.item (X.blk s3 H3 scope ce fp) rfl rfl rfl hc i [] s5 _ H5 (fun _ _ => False) I5 (st I5 n5) st5 go) fun r s6 ⟨u, hr, h6⟩ => ?_
    subst hr
    refine thnF h6 fun _ s7 ⟨x, H7, I7, r7, y7, st7, n7⟩ => ?_
    have I7' := I7.pinned (st I7 n7) (bk.turn.obj _ _ st7)
    refine thnF (pg.run _ s7 _ H7 x u _ I7' r7 (step x H7 y7)) fun _ s8 ⟨σ8, H8, I8, hw8, q8⟩ => ?_
    refine thnF (pt.run _ s8 σ8 H8 _ I8 q8) fun b s9 ⟨H9, I9, q9⟩ => ?_
    have fin : ∀ {σ9 : L2.St} {s' : Shared} {H' : Hp}, Inv (X.blk s3 H3 scope ce fp) ([] ++ pinsAt fp s7.heap) σ9 H' s' → (wipe σ (own.map (·.2))).length = σ9.length → (∀ (j : Nat) v, (wipe σ (own.map (·.2)))[j]? = some (some v) → σ9[j]? = some (some v)) → Nx H' → ∃ m, m < n ∧ ∃ i H', Inv (X.blk s3 H3 scope ce fp) [] (wipe σ (own.map (·.2))) H' s' ∧ tn i s'.heap ∧ (∀ b ∈ fp, H' b = none) ∧ W i m H' := fun {σ9 s' H'} I' hl hk nx => by
      obtain ⟨m', hm, w'⟩ := hNx H' nx
      obtain ⟨z1, z2, z3⟩ := turn_end bk.turn st7 I' hl hk
      exact ⟨m', hm, i + 1, H', z1, z2, z3, w'⟩
    have hl8 : (wipe σ (own.map (·.2))).length = σ8.length := by rw [← hw8, wipe_length]
    have hk9 : ∀ (j : Nat) v, (wipe σ (own.map (·.2)))[j]? = some (some v) → (wipe σ8 vs1)[j]? = some (some v) := fun j v e => by
      rw [← hw8] at e
      obtain ⟨e1, e2⟩ := wipe_some e
      rw [wipe_out fun z => e2 (hv j z)]
      exact e1
    cases b with
    | false =>
      simp only [Bool.false_eq_true, if_false] at q9 ⊢
      exact fin I9 hl8 (fun j v e => by rw [← hw8] at e; exact (wipe_some e).1) q9
    | true =>
      simp only [if_true] at q9 ⊢
      refine goIn_ok (N := fun s' => ∃ m, m < n ∧ ∃ i H', Inv (X.blk s3 H3 scope ce fp) [] (wipe σ (own.map (·.2))) H' s' ∧ tn i s'.heap ∧ (∀ b ∈ fp, H' b = none) ∧ W i m H') (hs1 ce) (fun _ z => z) ?_
      refine thnF (pi1.run _ s9 σ8 H9 _ I9 q9) fun xv s10 hx => thnF hx fun itv s11 h11 => ?_
      obtain ⟨it1, fp1, tn1, J1, H11, e1, I11, T1, st11, f11, W1, ⟨m1, w1⟩, turn1⟩ := h11
      subst e1
      have stat1 : ∀ {H' : Hp}, (∀ b ∈ fp1, H' b = none) → ∀ b ∈ fp1, FpOk (X.blk s3 H3 scope ce fp) ([] ++ pinsAt fp s7.heap) H' b := fun hn b hb => ⟨hn b hb, (f11 b hb).2⟩
      have loop1 : codeAny (model X.prog X.w) X.A (.compLoop (setTwo elt tg iter tg1 iter1 ifs ifs1 scope pos) 1 (.ref it1) (.ref D) ce)
          (fun r s' => match r with
            | .ok _ => ∃ m, m < n ∧ ∃ i H', Inv (X.blk s3 H3 scope ce fp) [] (wipe σ (own.map (·.2))) H' s' ∧ tn i s'.heap ∧ (∀ b ∈ fp, H' b = none) ∧ W i m H'
            | .error _ => False) s11 := by
        refine loopSet_in (fun k s' => ∃ j H', Inv (X.blk s3 H3 scope ce fp) ([] ++ pinsAt fp s7.heap) (wipe σ8 vs1) H' s' ∧ tn1 j s'.heap ∧ (∀ b ∈ fp1, H' b = none) ∧ W1 j k H') ?_ m1 ⟨0, H11, I11.weak (wipe_length _ _) (fun j v e => (wipe_some e).1), st11, fun b hb => (f11 b hb).1, w1⟩
        rintro k s12 ⟨j, H12, I12, st12, n12, w12⟩
        rcases turn1 j k H12 w12 with ⟨stop1, nx1⟩ | ⟨go1, Nx1, hNx1, step1⟩
        · refine thnF (T1.done (X.blk s3 H3 scope ce fp) rfl rfl rfl hc j _ s12 (wipe σ8 vs1) H12 (fun _ _ => False) I12 (stat1 n12) st12 stop1) fun r s13 ⟨hr, I13⟩ => ?_
          subst hr
          exact fin I13 (hl8.trans (wipe_length σ8 vs1).symm) hk9 nx1
        · refine thnF (T1.item (X.blk s3 H3 scope ce fp) rfl rfl rfl hc j _ s12 (wipe σ8 vs1) H12 (fun _ _ => False) I12 (stat1 n12) st12 go1) fun r s13 ⟨u1, hr, h13⟩ => ?_
          subst hr
          refine thnF h13 fun _ s14 ⟨x1, H14, I14, r14, y14, st14, n14⟩ => ?_
          have I14' := I14.pinned (stat1 n14) (T1.obj _ _ st14)
          refine thnF (pg1.run _ s14 (wipe σ8 vs1) H14 x1 u1 _ I14' r14 (step1 x1 H14 y14)) fun _ s15 ⟨σ15, H15, I15, hw15, q15⟩ => ?_
          refine thnF (pt1.run _ s15 σ15 H15 _ I15 q15) fun b1 s16 ⟨H16, I16, q16⟩ => ?_
          have fin1 : ∀ {s' : Shared} {H' : Hp}, Inv (X.blk s3 H3 scope ce fp) (([] ++ pinsAt fp s7.heap) ++ pinsAt fp1 s14.heap) σ15 H' s' → Nx1 H' → ∃ m, m < k ∧ ∃ j H', Inv (X.blk s3 H3 scope ce fp) ([] ++ pinsAt fp s7.heap) (wipe σ8 vs1) H' s' ∧ tn1 j s'.heap ∧ (∀ b ∈ fp1, H' b = none) ∧ W1 j m H' := fun {s' H'} I' nx => by
            obtain ⟨m', hm, w'⟩ := hNx1 H' nx
            obtain ⟨z1, z2, z3⟩ := turn_end T1 st14 I' (σa := wipe σ8 vs1) (by rw [← hw15, wipe_length]) (fun j v e => by rw [← hw15] at e; exact (wipe_some e).1)
            exact ⟨m', hm, j + 1, H', z1, z2, z3, w'⟩
          cases b1 with
          | false =>
            simp only [Bool.false_eq_true, if_false] at q16 ⊢
            exact fin1 I16 q16
          | true =>
            simp only [if_true] at q16 ⊢
            refine addOne_ok B (Y := X.blk s3 H3 scope ce fp) (Nx := Nx1) rfl pe I16 q16 fun s' H' I' nx => ?_
            exact fin1 I' nx
      exact startIn rfl loop1 (T1.self X.A 0 _ _ _ st11 loop1)
end
end Bw

/-! set comprehensions: readings; sorted of such a set; lists held against the empty one -/
namespace Bw
open PySem PySem.Spec PyProof.Rows L2
section
variable {κ : Type} [DecidableEq κ] {B : Bag κ} {w : World}
/-- one more member, once -/
def addU (us : List κ) (k : κ) : List κ := if k ∈ us then us else us ++ [k]
theorem mem_addU {us : List κ} {k j : κ} : j ∈ addU us k ↔ j ∈ us ∨ j = k := by
  unfold addU
  split
  · rename_i h
    exact ⟨.inl, fun z => z.elim id fun e => e ▸ h⟩
  · simp
theorem addU_nodup {us : List κ} {k : κ} (h : us.Nodup) : (addU us k).Nodup := by
  unfold addU
  split
  · exact h
  · rename_i hk
    refine List.nodup_append.mpr ⟨h, by simp, fun x hx y hy z => hk ?_⟩
    rw [List.mem_singleton.mp hy] at z
    exact z ▸ hx
/-- the set at D has just these members -/
def BagU (B : Bag κ) (w : World) (H : Hp) (D : Addr) (us : List κ) : Prop := us.Nodup ∧ ∃ S, H D = some (B.bo w D S us.length) ∧ ∀ k, S k = decide (k ∈ us)
theorem bagU_nil {H : Hp} {D : Addr} (h : H D = some (B.bo w D (fun _ => false) 0)) : BagU B w H D [] := ⟨.nil, _, h, fun k => by simp⟩
theorem BagU.same {H H' : Hp} {D : Addr} {us : List κ} (h : BagU B w H D us) (s : Same H H') : BagU B w H' D us := ⟨h.1, h.2.imp fun S z => ⟨s _ _ z.1, z.2⟩⟩
theorem w_bagPut {D : Addr} {Nx : Hp → Prop} {us : List κ} {k : κ} {H : Hp} (hD : BagU B w H D us) (hm : us.length ≤ 1000) (q : ∀ H', KB D H H' → BagU B w H' D (addU us k) → Nx H') : bagPut B w D Nx (B.kv k) H := by
  obtain ⟨nd, S, h1, h2⟩ := hD
  refine ⟨k, S, us.length, rfl, h1, Nat.lt_of_le_of_lt (Nat.succ_le_succ hm) (by decide), q _ kb_upd ⟨addU_nodup nd, fun j => S j || decide (j = k), ?_, fun j => ?_⟩⟩
  · rw [upd_same]
    have e : (if S k = true then us.length else us.length + 1) = (addU us k).length := by
      rw [h2]
      unfold addU
      by_cases h : k ∈ us
      · rw [if_pos (decide_eq_true h), if_pos h]
      · rw [if_neg (fun z => h (of_decide_eq_true z)), if_neg h]
        simp
    rw [e]
  · show (S j || decide (j = k)) = _
    rw [h2]
    by_cases h : j ∈ us
    · rw [decide_eq_true h, decide_eq_true (mem_addU.mpr (.inl h))]
      rfl
    · rw [decide_eq_false h, Bool.false_or]
      exact decide_eq_decide.mpr ⟨fun z => mem_addU.mpr (.inr z), fun z => (mem_addU.mp z).resolve_left h⟩
def NxU (B : Bag κ) (w : World) (D : Addr) (i : Nat) (Iv : Nat → List κ → Hp → Prop) : Hp → Prop := fun H' => ∃ us, BagU B w H' D us ∧ Iv (i + 1) us H'
/-- {elt for tg in iter if ..} -/
theorem bag_fin {J : It} {n : Nat} {ok : Hp → Prop} {it : Nat → V → Hp → Hp → Prop} {g : TG} {tt : TT} {te : TE} {vs : List Nat} {σ : L2.St} {H1 : Hp} {Qd : Addr → Hp → Prop} (F : Fini J n ok it) (Iv : Nat → List κ → Hp → Prop)
    (h0 : ∀ D H2, H1 D = none → Same H1 H2 → Iv 0 [] H2) (hl : ∀ i us H, i ≤ n → Iv i us H → ok H)
    (hs : ∀ D i x us H H', H1 D = none → i < n → Iv i us H → BagU B w H D us → it i x H H' → g x (wipe σ vs) H' fun σ2 H2 => wipe σ2 vs = wipe σ vs ∧ tt σ2 H2 fun b H3 => if b = true then te σ2 H3 (bagPut B w D (NxU B w D i Iv)) else NxU B w D i Iv H3)
    (hd : ∀ D us H, H1 D = none → Iv n us H → BagU B w H D us → Qd D H) :
    ∀ D, H1 D = none → ∃ W : Nat → Nat → Hp → Prop, (∃ m, W 0 m (upd H1 D (B.bo w D (fun _ => false) 0))) ∧ ∀ i m H, W i m H →
      (J.stop i H ∧ Qd D H) ∨ (J.go i H ∧ ∃ Nx : Hp → Prop, (∀ H', Nx H' → ∃ m', m' < m ∧ W (i + 1) m' H') ∧ ∀ x H', J.yld i H x H' → g x (wipe σ vs) H' fun σ2 H2 => wipe σ2 vs = wipe σ vs ∧ tt σ2 H2 fun b H3 => if b = true then te σ2 H3 (bagPut B w D Nx) else Nx H3) := by
  intro D nD
  refine ⟨fun i m H => m = n - i ∧ i ≤ n ∧ ∃ us, BagU B w H D us ∧ Iv i us H, ⟨n, by simp, Nat.zero_le _, [], bagU_nil upd_same, h0 D _ nD (same_new nD)⟩, ?_⟩
  rintro i m H ⟨rfl, hi, us, hD, p⟩
  have o := hl i us H hi p
  rcases Nat.lt_or_ge i n with hlt | hge
  · exact .inr ⟨F.go i H hlt o, NxU B w D i Iv, fun H' p' => ⟨n - (i + 1), by omega, rfl, hlt, p'⟩, fun x H' y => hs D i x us H H' nD hlt p hD (F.yl i H x H' hlt o y)⟩
  · obtain rfl : i = n := Nat.le_antisymm hi hge
    exact .inl ⟨F.st H o, hd D us H nD p hD⟩
/-- the inner for of two -/
theorem bag_in {J : It} {n : Nat} {ok : Hp → Prop} {it : Nat → V → Hp → Hp → Prop} {g : TG} {tt : TT} {te : TE} {vs : List Nat} {σ : L2.St} {H1 : Hp} {D : Addr} {Nx : Hp → Prop} (F : Fini J n ok it) (Jv : Nat → List κ → Hp → Prop)
    (h0 : ∃ us, BagU B w H1 D us ∧ Jv 0 us H1) (hl : ∀ i us H, i ≤ n → Jv i us H → ok H)
    (hs : ∀ i x us H H', i < n → Jv i us H → BagU B w H D us → it i x H H' → g x (wipe σ vs) H' fun σ2 H2 => wipe σ2 vs = wipe σ vs ∧ tt σ2 H2 fun b H3 => if b = true then te σ2 H3 (bagPut B w D (NxU B w D i Jv)) else NxU B w D i Jv H3)
    (hd : ∀ us H, Jv n us H → BagU B w H D us → Nx H) :
    ∃ W1 : Nat → Nat → Hp → Prop, (∃ m, W1 0 m H1) ∧ ∀ j k H, W1 j k H →
      (J.stop j H ∧ Nx H) ∨ (J.go j H ∧ ∃ Nx1 : Hp → Prop, (∀ H', Nx1 H' → ∃ k', k' < k ∧ W1 (j + 1) k' H') ∧ ∀ x H', J.yld j H x H' → g x (wipe σ vs) H' fun σ3 H5 => wipe σ3 vs = wipe σ vs ∧ tt σ3 H5 fun b H6 => if b = true then te σ3 H6 (bagPut B w D Nx1) else Nx1 H6) := by
  obtain ⟨us0, e0, i0⟩ := h0
  refine ⟨fun i m H => m = n - i ∧ i ≤ n ∧ ∃ us, BagU B w H D us ∧ Jv i us H, ⟨n, by simp, Nat.zero_le _, us0, e0, i0⟩, ?_⟩
  rintro i m H ⟨rfl, hi, us, hD, p⟩
  have o := hl i us H hi p
  rcases Nat.lt_or_ge i n with hlt | hge
  · exact .inr ⟨F.go i H hlt o, NxU B w D i Jv, fun H' p' => ⟨n - (i + 1), by omega, rfl, hlt, p'⟩, fun x H' y => hs i x us H H' hlt p hD (F.yl i H x H' hlt o y)⟩
  · obtain rfl : i = n := Nat.le_antisymm hi hge
    exact .inl ⟨F.st H o, hd us H p hD⟩
/-- {elt for tg in iter for tg1 in iter1}: the outer for -/
theorem bag2_fin {J : It} {n : Nat} {ok : Hp → Prop} {it : Nat → V → Hp → Hp → Prop} {wi1 : TI} {g g1 : TG} {tt tt1 : TT} {te : TE} {vs vs1 : List Nat} {σ : L2.St} {H1 : Hp} {Qd : Addr → Hp → Prop} (F : Fini J n ok it) (Iv : Nat → List κ → Hp → Prop)
    (h0 : ∀ D H2, H1 D = none → Same H1 H2 → Iv 0 [] H2) (hl : ∀ i us H, i ≤ n → Iv i us H → ok H)
    (hs : ∀ D i x us H H', H1 D = none → i < n → Iv i us H → BagU B w H D us → it i x H H' → g x (wipe σ vs) H' fun σ2 H2 => wipe σ2 vs = wipe σ vs ∧ tt σ2 H2 fun b H3 =>
      if b = true then wi1 σ2 H3 fun J1 H4 => ∃ W1 : Nat → Nat → Hp → Prop, (∃ m, W1 0 m H4) ∧ ∀ j k H, W1 j k H →
        (J1.stop j H ∧ NxU B w D i Iv H) ∨ (J1.go j H ∧ ∃ Nx1 : Hp → Prop, (∀ H', Nx1 H' → ∃ k', k' < k ∧ W1 (j + 1) k' H') ∧ ∀ x H', J1.yld j H x H' → g1 x (wipe σ2 vs1) H' fun σ3 H5 => wipe σ3 vs1 = wipe σ2 vs1 ∧ tt1 σ3 H5 fun b H6 => if b = true then te σ3 H6 (bagPut B w D Nx1) else Nx1 H6)
      else NxU B w D i Iv H3)
    (hd : ∀ D us H, H1 D = none → Iv n us H → BagU B w H D us → Qd D H) :
    ∀ D, H1 D = none → ∃ W : Nat → Nat → Hp → Prop, (∃ m, W 0 m (upd H1 D (B.bo w D (fun _ => false) 0))) ∧ ∀ i m H, W i m H →
      (J.stop i H ∧ Qd D H) ∨ (J.go i H ∧ ∃ Nx : Hp → Prop, (∀ H', Nx H' → ∃ m', m' < m ∧ W (i + 1) m' H') ∧ ∀ x H', J.yld i H x H' → g x (wipe σ vs) H' fun σ2 H2 => wipe σ2 vs = wipe σ vs ∧ tt σ2 H2 fun b H3 =>
        if b = true then wi1 σ2 H3 fun J1 H4 => ∃ W1 : Nat → Nat → Hp → Prop, (∃ m, W1 0 m H4) ∧ ∀ j k H, W1 j k H →
          (J1.stop j H ∧ Nx H) ∨ (J1.go j H ∧ ∃ Nx1 : Hp → Prop, (∀ H', Nx1 H' → ∃ k', k' < k ∧ W1 (j + 1) k' H') ∧ ∀ x H', J1.yld j H x H' → g1 x (wipe σ2 vs1) H' fun σ3 H5 => wipe σ3 vs1 = wipe σ2 vs1 ∧ tt1 σ3 H5 fun b H6 => if b = true then te σ3 H6 (bagPut B w D Nx1) else Nx1 H6)
        else Nx H3) := by
  intro D nD
  refine ⟨fun i m H => m = n - i ∧ i ≤ n ∧ ∃ us, BagU B w H D us ∧ Iv i us H, ⟨n, by simp, Nat.zero_le _, [], bagU_nil upd_same, h0 D _ nD (same_new nD)⟩, ?_⟩
  rintro i m H ⟨rfl, hi, us, hD, p⟩
  have o := hl i us H hi p
  rcases Nat.lt_or_ge i n with hlt | hge
  · exact .inr ⟨F.go i H hlt o, NxU B w D i Iv, fun H' p' => ⟨n - (i + 1), by omega, rfl, hlt, p'⟩, fun x H' y => hs D i x us H H' nD hlt p hD (F.yl i H x H' hlt o y)⟩
  · obtain rfl : i = n := Nat.le_antisymm hi hge
    exact .inl ⟨F.st H o, hd D us H nD p hD⟩
theorem w_bagE {wi : TI} {g : TG} {tt : TT} {te : TE} {vs : List Nat} {σ : L2.St} {H : Hp} {Q : VK} (h : wi σ H fun J H1 => ∀ D, H1 D = none → ∃ W : Nat → Nat → Hp → Prop, (∃ m, W 0 m (upd H1 D (B.bo w D (fun _ => false) 0))) ∧ ∀ i m H, W i m H →
  (J.stop i H ∧ Q (.ref D) H) ∨ (J.go i H ∧ ∃ Nx : Hp → Prop, (∀ H', Nx H' → ∃ m', m' < m ∧ W (i + 1) m' H') ∧ ∀ x H', J.yld i H x H' → g x (wipe σ vs) H' fun σ2 H2 => wipe σ2 vs = wipe σ vs ∧ tt σ2 H2 fun b H3 => if b = true then te σ2 H3 (bagPut B w D Nx) else Nx H3)) : tBag B w wi g tt te vs σ H Q := h
theorem w_bag2E {wi wi1 : TI} {g g1 : TG} {tt tt1 : TT} {te : TE} {vs vs1 : List Nat} {σ : L2.St} {H : Hp} {Q : VK} (h : wi σ H fun J H1 => ∀ D, H1 D = none → ∃ W : Nat → Nat → Hp → Prop, (∃ m, W 0 m (upd H1 D (B.bo w D (fun _ => false) 0))) ∧ ∀ i m H, W i m H →
  (J.stop i H ∧ Q (.ref D) H) ∨ (J.go i H ∧ ∃ Nx : Hp → Prop, (∀ H', Nx H' → ∃ m', m' < m ∧ W (i + 1) m' H') ∧ ∀ x H', J.yld i H x H' → g x (wipe σ vs) H' fun σ2 H2 => wipe σ2 vs = wipe σ vs ∧ tt σ2 H2 fun b H3 =>
    if b = true then wi1 σ2 H3 fun J1 H4 => ∃ W1 : Nat → Nat → Hp → Prop, (∃ m, W1 0 m H4) ∧ ∀ j k H, W1 j k H →
      (J1.stop j H ∧ Nx H) ∨ (J1.go j H ∧ ∃ Nx1 : Hp → Prop, (∀ H', Nx1 H' → ∃ k', k' < k ∧ W1 (j + 1) k' H') ∧ ∀ x H', J1.yld j H x H' → g1 x (wipe σ2 vs1) H' fun σ3 H5 => wipe σ3 vs1 = wipe σ2 vs1 ∧ tt1 σ3 H5 fun b H6 => if b = true then te σ3 H6 (bagPut B w D Nx1) else Nx1 H6)
    else Nx H3)) : tBag2 B w wi g tt wi1 g1 tt1 te vs vs1 σ H Q := h
end
/-- sorted(a set of whole numbers) -/
theorem cl_sortedSet {X : Cx} (hc : X.calm = true) : CallR X (.builtin "sorted") (rSortedSet X.w) := cr_sortedSet hc
theorem w_sortedI {w : World} {H : Hp} {Q : VK} {D : Addr} {us : List Int} (h : BagU bagI w H D us) (hl : us.length < 64) (k : ∀ (ns : List Int) p H', ns.Pairwise (· < ·) → (∀ j, j ∈ ns ↔ j ∈ us) → ns.length = us.length → H p = none → Same H H' → H' p = some (.lst (ns.map V.int)) → Q (.ref p) H') : rSortedSet w [.ref D] H Q := by
  obtain ⟨nd, S, h1, h2⟩ := h
  refine ⟨D, S, us.length, rfl, h1, hl, fun ns p s m l n => k ns p _ s (fun j => ?_) l n (same_new n) upd_same⟩
  rw [m, h2, decide_eq_true_eq]
/-! ### xs != [], xs == [] of any list -/
def rNeNil : R2 := fun x y H Q => ∃ a c xs, x = .ref a ∧ y = .ref c ∧ H a = some (.lst xs) ∧ H c = some (.lst []) ∧ Q (.bl (!xs.isEmpty)) H
def rEqNil : R2 := fun x y H Q => ∃ a c xs, x = .ref a ∧ y = .ref c ∧ H a = some (.lst xs) ∧ H c = some (.lst []) ∧ Q (.bl xs.isEmpty) H
section
variable {X : Cx}
theorem isList_of {pins : List (Addr × Obj)} {σ : L2.St} {H : Hp} {s : Shared} {a : Addr} {xs : List V} (I : Inv X pins σ H s) (h : H a = some (.lst xs)) : ∃ its : List Value, s.heap.IsList a its.toArray ∧ its.length = xs.length := by
  obtain ⟨_, its, n, r, e⟩ := (show ObjOk X.prog X.w H s.heap a (.lst xs) from I.hok a _ h)
  exact ⟨its, ⟨_, e, rfl, n, rfl⟩, r.length.symm⟩
theorem op_neNil (hu : X.A.units < cLine) : OpR X (compareOp .NotEq) rNeNil := by
  intro pins s σ H x y v u Q I rx ry h
  obtain ⟨a, c, xs, rfl, rfl, ha, hc, q⟩ := h
  cases rx
  cases ry
  obtain ⟨i1, l1, e1⟩ := isList_of I ha
  obtain ⟨i2, l2, e2⟩ := isList_of I hc
  show wpAny (model X.prog X.w) X.A (richCompare .NotEq (.ref a) (.ref c)) (EP X pins σ Q) X.xe s
  cases xs with
  | nil =>
    refine SeqAt.RcNeAt.lists (e := fun _ => true) l1 l2 (by simp [e1, e2]) hu (fun j h1 _ => ?_) X.prog X.w X.xe _ ?_
    · simp [e1] at h1
    · refine ⟨.bl false, H, I, ?_, q⟩
      rw [List.size_toArray, e1]
      rfl
  | cons z r => exact SeqAt.RcNeAt.lists_lengths l1 l2 (by simp [e1, e2]) hu X.prog X.w X.xe _ ⟨.bl true, H, I, rfl, q⟩
theorem op_eqNil (hu : X.A.units < cLine) : OpR X (compareOp .Eq) rEqNil := by
  intro pins s σ H x y v u Q I rx ry h
  obtain ⟨a, c, xs, rfl, rfl, ha, hc, q⟩ := h
  cases rx
  cases ry
  obtain ⟨i1, l1, e1⟩ := isList_of I ha
  obtain ⟨i2, l2, e2⟩ := isList_of I hc
  show wpAny (model X.prog X.w) X.A (richCompare .Eq (.ref a) (.ref c)) (EP X pins σ Q) X.xe s
  cases xs with
  | nil =>
    refine SeqAt.RcAt.lists (e := fun _ => true) l1 l2 (by simp [e1, e2]) hu (fun j h1 _ => ?_) X.prog X.w X.xe _ ?_
    · simp [e1] at h1
    · refine ⟨.bl true, H, I, ?_, q⟩
      rw [List.size_toArray, e1]
      rfl
  | cons z r => exact SeqAt.RcAt.lists_lengths l1 l2 (by simp [e1, e2]) hu X.prog X.w X.xe _ ⟨.bl false, H, I, rfl, q⟩
end
theorem w_neNilL {a c : Addr} {xs : List V} {H : Hp} {Q : VK} (ha : H a = some (.lst xs)) (hc : H c = some (.lst [])) (q : Q (.bl (!xs.isEmpty)) H) : rNeNil (.ref a) (.ref c) H Q := ⟨a, c, xs, rfl, rfl, ha, hc, q⟩
theorem w_eqNilL {a c : Addr} {xs : List V} {H : Hp} {Q : VK} (ha : H a = some (.lst xs)) (hc : H c = some (.lst [])) (q : Q (.bl xs.isEmpty) H) : rEqNil (.ref a) (.ref c) H Q := ⟨a, c, xs, rfl, rfl, ha, hc, q⟩
end Bw
namespace Bw
open PySem PySem.Spec PyProof.Rows L2
theorem w_allI {K : PySem.W.Frag} {bs : List Bool} {a : Addr} {xs : List V} {H : Hp} {Q : VK} (e : xs = bs.map V.bl) (h : H a = some (.lst xs)) (q : Q (.bl (bs.all id)) H) : rAll K [.ref a] H Q := ⟨a, bs, rfl, .of (e ▸ h), q⟩
theorem w_anyI {K : PySem.W.Frag} {bs : List Bool} {a : Addr} {xs : List V} {H : Hp} {Q : VK} (e : xs = bs.map V.bl) (h : H a = some (.lst xs)) (q : Q (.bl (bs.any id)) H) : rAny K [.ref a] H Q := ⟨a, bs, rfl, .of (e ▸ h), q⟩
/-- a number among numbers -/
theorem inV_ints {n : Int} {ms : List Int} : inV (.int n) (ms.map V.int) = decide (n ∈ ms) := by
  induction ms with
  | nil => rfl
  | cons m r ih =>
    have e : inV (.int n) (V.int m :: r.map V.int) = (eqV (.int m) (.int n) || inV (.int n) (r.map V.int)) := by simp [inV]
    rw [List.map_cons, e, ih]
    by_cases h : m = n
    · subst h
      simp [eqV]
    · have h' : ¬ n = m := fun z => h z.symm
      simp [eqV, h, h']
theorem flat_ints (ms : List Int) : (ms.map V.int).all flatV = true := by
  rw [List.all_eq_true]
  intro v hv
  obtain ⟨m, _, rfl⟩ := List.mem_map.mp hv
  rfl
/-- two rising lists of the same numbers are one -/
theorem rising_ext {ns ms : List Int} (h1 : ns.Pairwise (· < ·)) (h2 : ms.Pairwise (· < ·)) (h : ∀ k, k ∈ ns ↔ k ∈ ms) : ns = ms := by
  have nd : ∀ {l : List Int}, l.Pairwise (· < ·) → l.Nodup := fun h => h.imp fun {a b} z e => by omega
  have p : ns.Perm ms := (List.perm_ext_iff_of_nodup (nd h1) (nd h2)).mpr h
  exact List.Perm.eq_of_pairwise (le := fun a b => a < b) (fun a b _ _ x y => by omega) h1 h2 p
/-- lists of the very same things -/
def DIdent : Eqb := fun x y _ b => ∃ a, x = .ref a ∧ y = .ref a ∧ b = true
theorem eqb_ident {X : Cx} : EqbX X 0 DIdent := fun A pins s σ H x y u v b sb I rx ry d => by
  obtain ⟨a, rfl, rfl, rfl⟩ := d
  cases rx
  cases ry
  exact SeqAt.EqAt.same (A := A) (s := s) (.ref a) X.prog X.w X.xe _ ⟨rfl, H, I, fun _ _ h => h⟩
theorem rcb_ident {X : Cx} : RcbX X 1 (BList DIdent) := rcb_list (fun _ _ _ _ _ _ d => d) eqb_ident
theorem w_ident {a c : Addr} {rs : List Addr} {H : Hp} {Q : VK} (ha : H a = some (.lst (rs.map V.ref))) (hc : H c = some (.lst (rs.map V.ref))) (k : ∀ H', Same H H' → Q (.bl true) H') : rEqb (BList DIdent) (.ref a) (.ref c) H Q := by
  refine ⟨true, ⟨a, c, _, _, rfl, rfl, ha, hc, .inr ⟨rfl, fun _ => true, fun i x y h1 h2 => ?_, by simp⟩⟩, k⟩
  rw [h1] at h2
  cases h2
  obtain ⟨r, _, rfl⟩ := List.mem_map.mp (List.mem_of_getElem? h1)
  exact ⟨r, rfl, rfl, rfl⟩
end Bw
namespace Bw
open PySem PySem.Spec PyProof.Rows L2
theorem w_zipL {K : PySem.W.Frag} {ta : TA} {σ : L2.St} {H : Hp} {R : It → Hp → Prop} (h : ta σ H fun vs H1 => ∃ a b xs ys, vs = [.ref a, .ref b] ∧ SqL K H1 a xs ∧ SqL K H1 b ys ∧ R (Itz K a b) H1) : iZip K ta σ H R := h
theorem fin_zipL {K : PySem.W.Frag} {a b : Addr} {xs ys : List V} (hl : xs.length = ys.length) : Fini (Itz K a b) xs.length (fun H => SqL K H a xs ∧ SqL K H b ys) (fun i v H H' => ∃ T x y, v = .ref T ∧ H T = none ∧ Same H H' ∧ H' T = some (.tup [x, y]) ∧ xs[i]? = some x ∧ ys[i]? = some y) :=
  ⟨fun i H h o => ⟨xs, ys, xs[i], ys[i], o.1, o.2, by simp [h], by simp [hl ▸ h]⟩, fun i H v H' h o y => by
    obtain ⟨T, x, z, e, n, e', q, r⟩ := y
    subst e'
    exact ⟨T, x, z, e, n, same_new n, upd_same, q xs o.1, r ys o.2⟩, fun H o => ⟨xs, ys, o.1, o.2, .inl (Nat.le_refl _)⟩⟩
theorem w_notInV {K : PySem.W.Frag} {p : Addr} {xs : List V} {x : V} {H : Hp} {Q : VK} (hs : SqL K H p xs ∨ SqT K H p xs) (fx : flatV x = true) (fs : xs.all flatV = true) (q : Q (.bl (!inV x xs)) H) : rIn K true x (.ref p) H Q := ⟨p, xs, rfl, hs, fx, fs, q⟩
theorem dp_ints {K : PySem.W.Frag} {H : Hp} {c : Addr} {ms : List Int} (h : H c = some (.lst (ms.map V.int))) : Dp K H (.ref c) (.list (ms.map PyData.int)) := .lst (.of h) (by
  clear h
  induction ms with
  | nil => exact .nil
  | cons m r ih => exact .cons (.int m) ih)
theorem good_intl (ms : List Int) : GoodD (.list (ms.map PyData.int)) 1 := good_list fun d hd => by
  obtain ⟨m, _, rfl⟩ := List.mem_map.mp hd
  exact good_int
theorem w_neInts {K : PySem.W.Frag} {H : Hp} {c d : Addr} {ms ns : List Int} {Q : VK} (h1 : H c = some (.lst (ms.map V.int))) (h2 : H d = some (.lst (ns.map V.int))) (q : Q (.bl (!decide (ms = ns))) H) : rNeD K (.ref c) (.ref d) H Q :=
  w_neD (dp_ints h1) (dp_ints h2) ((good_intl ms).shaped (by decide)) ((good_intl ns).shaped (by decide)) (eqv_ints ms ns) q
end Bw
namespace Bw
open PySem PySem.Spec PyProof.Rows L2
theorem cutV_toL (xs : List V) (k : Nat) : cutV xs none (some (k : Int)) = xs.take k := by
  have e : HT.sIx xs.length xs.length (some (k : Int)) = min k xs.length := HT.sIx_nat _ _ k
  unfold cutV
  rw [e, HT.sIx_none]
  show (xs.drop 0).take _ = _
  rw [List.drop_zero, Nat.sub_zero]
  rcases Nat.le_total k xs.length with h | h
  · rw [Nat.min_eq_left h]
  · rw [Nat.min_eq_right h, List.take_length, List.take_of_length_le h]
theorem cutV_1 {α : Type} (f : α → V) (xs : List α) : cutV (xs.map f) none (some 1) = (xs.take 1).map f := by
  rw [show (1 : Int) = ((1 : Nat) : Int) from rfl, cutV_toL, List.map_take]
end Bw

/-! a comprehension within a comprehension -/
namespace Bw
open PySem PySem.Spec PyProof.Rows L2
theorem blkOk_in {N : List PySem.Str} {sc scope1 scope2 : Scope} {own : List (PySem.Str × Nat)} {env : Env} {cl : List (PySem.Str × Addr)} {C : Addr} (he : env.scope = sc) (h : blkC N (relS scope1 sc) scope2 own = true) : BlkOk N (compEnvC scope1 cl C env).scope scope2 own := by
  subst he
  have e : (compEnvC scope1 cl C env).scope = relS scope1 env.scope := rfl
  rw [e]
  exact blkOk_by h
end Bw

/-! zip of two tuples of one length, strict -/
namespace Bw
open PySem PySem.Spec PyProof.Rows L2
open PySem.Sem (wp)
abbrev IsZipS (h : Heap) (z TI TO : Addr) (f0 : Value) : Prop :=
  h.get? z = some { cls := .type "zip", dict := none, data := .fields #[f0, .bool false, .bool true, .ref TI, .ref TO], slots := #[] }
section
variable {prog : Program} {w : World} {A : Around} {E : Value → Shared → Prop} {s : Shared}
theorem nextOrEnd_item {it l : Addr} {i : Nat} {items : Array Value} {x : Value} {Q : Option Value → Shared → Prop} (hit : s.heap.IsTupleIter it l i) (hl : s.heap.IsTuple l items) (hx : items[i]? = some x)
    (hQ : ∀ h', h'.IsTupleIter it l (i + 1) → Heap.SameBut it s.heap h' → Q (some x) { s with heap := h' }) : wpAny (model prog w) A (Builtin.SmallTypes.nextOrEnd (.ref it)) Q E s := by
  unfold Builtin.SmallTypes.nextOrEnd
  exact wpAny_bind (wpAny_attempt (RZ.nextOf_tuple_item hit hl hx fun h' a b => wpAny_pure (hQ h' a b)))
theorem nextOrEnd_end {it l : Addr} {i : Nat} {items : Array Value} {Q : Option Value → Shared → Prop} (hh : A.handled = none) (hit : s.heap.IsTupleIter it l i) (hl : s.heap.IsTuple l items) (hx : items[i]? = none)
    (hQ : ∀ h', Heap.ExtBut it s.heap h' → Q none { s with heap := h' }) : wpAny (model prog w) A (Builtin.SmallTypes.nextOrEnd (.ref it)) Q E s := by
  unfold Builtin.SmallTypes.nextOrEnd
  refine wpAny_bind (wpAny_attempt (RZ.nextOf_tuple_end hh hit hl hx fun h' e ext he => ?_))
  obtain ⟨o, ho, hc⟩ := he
  refine wpAny_bind (wpAny_isInstance (T := "StopIteration") (b := true) ⟨o, ho, hc⟩ isSubtype_stop ?_)
  exact wpAny_pure (hQ _ ext)
theorem zipS_item {z TI TO i1 i2 l1 l2 : Addr} {k1 k2 : Nat} {xs ys : Array Value} {x y a b : Value} {Q : Value → Shared → Prop} (D : ZipApart z TI TO i1 i2 l1 l2)
    (hz : IsZipS s.heap z TI TO .none) (hTI : IsPair s.heap TI (.ref i1) (.ref i2)) (hTO : IsPair s.heap TO a b)
    (h1 : s.heap.IsTupleIter i1 l1 k1) (h2 : s.heap.IsTupleIter i2 l2 k2) (hl1 : s.heap.IsTuple l1 xs) (hl2 : s.heap.IsTuple l2 ys) (hx : xs[k1]? = some x) (hy : ys[k2]? = some y)
    (hQ : ∀ h', IsZipS h' z TI TO (rawInt s.heap.objs.size) → IsPair h' TO x y → h'.IsTupleIter i1 l1 (k1 + 1) → h'.IsTupleIter i2 l2 (k2 + 1) → IsPair h' s.heap.objs.size x y → h'.objs.size = s.heap.objs.size + 1 →
      (∀ c o, c ≠ z → c ≠ TO → c ≠ i1 → c ≠ i2 → s.heap.get? c = some o → h'.get? c = some o) → Q (.ref s.heap.objs.size) { s with heap := h' }) :
    wpAny (model prog w) A (Builtin.«zip.__next__» ⟨[.ref z], []⟩) (fun fin s' => ∃ v, fin = .done (.ret v) ∧ Q v s') E s := by
  show wpAny _ _ (field (.ref z) 2 >>= _) _ _ _
  refine wpAny_bind (wpAny_field hz rfl (x := .bool true) rfl ?_)
  show wpAny _ _ (field (.ref z) 3 >>= _) _ _ _
  refine wpAny_bind (wpAny_field hz rfl (x := .ref TI) rfl ?_)
  refine wpAny_bind (wpAny_seqItems hTI rfl ?_)
  show wpAny _ _ (Builtin.SmallTypes.ownedTupleIsFree (.ref z) >>= _) _ _ _
  refine wpAny_bind ?_
  unfold Builtin.SmallTypes.ownedTupleIsFree
  refine wpAny_bind (wpAny_field hz rfl (x := .none) rfl (wpAny_pure ?_))
  simp only [if_true]
  refine wpAny_bind (wpAny_rule ?_)
  refine wpAny_bind (wpAny_field hz rfl (x := .ref TO) rfl ?_)
  refine wpAny_bind (wpAny_setField_rec hz (by simp) fun h₁ hz₁ hs₁ => ?_)
  replace hz₁ : IsZipS h₁ z TI TO .ellipsis := hz₁
  refine wpAny_bind ?_
  simp only [List.zipIdx_cons, List.zipIdx_nil, List.forIn_cons, List.forIn_nil]
  refine wpAny_bind (wpAny_bind (wpAny_onRaise ?_))
  show wpAny _ _ (Builtin.SmallTypes.nextOrEnd (.ref i1)) _ _ _
  refine nextOrEnd_item (h1.extBut hs₁.extBut D.i1z) (hl1.extBut hs₁.extBut D.l1z) hx fun h₂ h1₂ hs₂ => ?_
  have hTO₂ : IsPair h₂ TO a b := hs₂.extBut _ _ D.TOi1 (hs₁.extBut _ _ D.TOz hTO)
  refine wpAny_bind (wpAny_seqItems hTO₂ rfl ?_)
  refine wpAny_bind (wpAny_updateSeq_pair hTO₂ fun h₃ hTO₃ hs₃ => ?_)
  replace hTO₃ : IsPair h₃ TO x b := hTO₃
  refine wpAny_bind (wpAny_letGo (wpAny_pure ?_))
  refine wpAny_bind (wpAny_bind (wpAny_onRaise ?_))
  show wpAny _ _ (Builtin.SmallTypes.nextOrEnd (.ref i2)) _ _ _
  refine nextOrEnd_item (((h2.extBut hs₁.extBut D.i2z).extBut hs₂.extBut D.i12.symm).extBut hs₃.extBut D.TOi2.symm)
    (((hl2.extBut hs₁.extBut D.l2z).extBut hs₂.extBut D.l2i1).extBut hs₃.extBut D.l2TO) hy fun h₄ h2₄ hs₄ => ?_
  have hTO₄ : IsPair h₄ TO x b := hs₄.extBut _ _ D.TOi2 hTO₃
  refine wpAny_bind (wpAny_seqItems hTO₄ rfl ?_)
  refine wpAny_bind (wpAny_updateSeq_pair hTO₄ fun h₅ hTO₅ hs₅ => ?_)
  replace hTO₅ : IsPair h₅ TO x y := hTO₅
  refine wpAny_bind (wpAny_letGo (wpAny_pure (wpAny_pure ?_)))
  refine wpAny_bind (wpAny_seqItems hTO₅ rfl ?_)
  refine wpAny_bind (wpAny_newTuple ?_)
  have hsz : h₅.objs.size = s.heap.objs.size := by rw [hs₅.1, hs₄.1, hs₃.1, hs₂.1, hs₁.1]
  have hz₅ : IsZipS h₅ z TI TO .ellipsis := hs₅.extBut _ _ D.TOz.symm (hs₄.extBut _ _ D.i2z.symm (hs₃.extBut _ _ D.TOz.symm (hs₂.extBut _ _ D.i1z.symm hz₁)))
  have hk₅ : ∀ c o, c ≠ z → c ≠ TO → c ≠ i1 → c ≠ i2 → s.heap.get? c = some o → h₅.get? c = some o := fun c o c1 c2 c3 c4 e =>
    hs₅.extBut _ _ c2 (hs₄.extBut _ _ c4 (hs₃.extBut _ _ c2 (hs₂.extBut _ _ c3 (hs₁.extBut _ _ c1 e))))
  have h1₅ : h₅.IsTupleIter i1 l1 (k1 + 1) := ((h1₂.extBut hs₃.extBut D.TOi1.symm).extBut hs₄.extBut D.i12).extBut hs₅.extBut D.TOi1.symm
  have h2₅ : h₅.IsTupleIter i2 l2 (k2 + 1) := h2₄.extBut hs₅.extBut D.TOi2.symm
  have hzlt : z < h₅.objs.size := Heap.lt_size hz₅
  show wpAny _ _ (Builtin.SmallTypes.ownedTupleHandOut (.ref z) (.ref h₅.objs.size) >>= _) _ _ _
  refine wpAny_bind ?_
  unfold Builtin.SmallTypes.ownedTupleHandOut
  have hz₆ : IsZipS (h₅.push { cls := .type "tuple", data := .seq #[x, y] }) z TI TO .ellipsis := Heap.get?_push_of_some _ hz₅
  refine wpAny_bind (wpAny_setField_rec hz₆ (by simp) fun h₇ hz₇ hs₇ => ?_)
  replace hz₇ : IsZipS h₇ z TI TO (rawInt h₅.objs.size) := hz₇
  refine wpAny_setField_rec hz₇ (by simp) fun h₈ hz₈ hs₈ => ?_
  replace hz₈ : IsZipS h₈ z TI TO (rawInt h₅.objs.size) := hz₈
  have up : ∀ c o, c ≠ z → h₅.get? c = some o → h₈.get? c = some o := fun c o c1 e => hs₈.extBut _ _ c1 (hs₇.extBut _ _ c1 (Heap.get?_push_of_some _ e))
  have hT₈ : IsPair h₈ h₅.objs.size x y := hs₈.extBut _ _ (Nat.ne_of_gt hzlt) (hs₇.extBut _ _ (Nat.ne_of_gt hzlt) (Heap.get?_push_size _ rfl))
  have hz8 : h₈.objs.size = h₅.objs.size + 1 := by rw [hs₈.1, hs₇.1, Heap.size_push]
  rw [hsz] at hz₈ hT₈ hz8
  refine wpAny_pure ⟨_, rfl, ?_⟩
  show Q (.ref h₅.objs.size) _
  rw [hsz]
  exact hQ h₈ hz₈ (up _ _ D.TOz hTO₅) (h1₅.at fun o e => up _ o D.i1z e) (h2₅.at fun o e => up _ o D.i2z e) hT₈ hz8 fun c o c1 c2 c3 c4 e => up c o c1 (hk₅ c o c1 c2 c3 c4 e)
theorem zipS_end {z TI TO i1 i2 l1 l2 : Addr} {k1 k2 : Nat} {xs ys : Array Value} {a b : Value} {Q : Fin → Shared → Prop} (hh : A.handled = none) (D : ZipApart z TI TO i1 i2 l1 l2)
    (hz : IsZipS s.heap z TI TO .none) (hTI : IsPair s.heap TI (.ref i1) (.ref i2)) (hTO : IsPair s.heap TO a b)
    (h1 : s.heap.IsTupleIter i1 l1 k1) (h2 : s.heap.IsTupleIter i2 l2 k2) (hl1 : s.heap.IsTuple l1 xs) (hl2 : s.heap.IsTuple l2 ys) (hx : xs[k1]? = none) (hy : ys[k2]? = none)
    (hE : ∀ h' e, (∀ c o, c ≠ z → c ≠ TO → c ≠ i1 → c ≠ i2 → s.heap.get? c = some o → h'.get? c = some o) → (∃ o, h'.get? e = some o ∧ o.cls = .type "StopIteration") → E (.ref e) { s with heap := h' }) :
    wpAny (model prog w) A (Builtin.«zip.__next__» ⟨[.ref z], []⟩) Q E s := by
  show wpAny _ _ (field (.ref z) 2 >>= _) _ _ _
  refine wpAny_bind (wpAny_field hz rfl (x := .bool true) rfl ?_)
  show wpAny _ _ (field (.ref z) 3 >>= _) _ _ _
  refine wpAny_bind (wpAny_field hz rfl (x := .ref TI) rfl ?_)
  refine wpAny_bind (wpAny_seqItems hTI rfl ?_)
  show wpAny _ _ (Builtin.SmallTypes.ownedTupleIsFree (.ref z) >>= _) _ _ _
  refine wpAny_bind ?_
  unfold Builtin.SmallTypes.ownedTupleIsFree
  refine wpAny_bind (wpAny_field hz rfl (x := .none) rfl (wpAny_pure ?_))
  simp only [if_true]
  refine wpAny_bind (wpAny_rule ?_)
  refine wpAny_bind (wpAny_field hz rfl (x := .ref TO) rfl ?_)
  refine wpAny_bind (wpAny_setField_rec hz (by simp) fun h₁ hz₁ hs₁ => ?_)
  replace hz₁ : IsZipS h₁ z TI TO .ellipsis := hz₁
  refine wpAny_bind ?_
  simp only [List.zipIdx_cons, List.zipIdx_nil, List.forIn_cons, List.forIn_nil]
  refine wpAny_bind (wpAny_bind (wpAny_onRaise ?_))
  show wpAny _ _ (Builtin.SmallTypes.nextOrEnd (.ref i1)) _ _ _
  refine nextOrEnd_end hh (h1.extBut hs₁.extBut D.i1z) (hl1.extBut hs₁.extBut D.l1z) hx fun h₂ hs₂ => ?_
  have hz₂ : IsZipS h₂ z TI TO .ellipsis := hs₂ _ _ D.i1z.symm hz₁
  refine wpAny_bind (wpAny_setField_rec hz₂ (by simp) fun h₃ _ hs₃ => ?_)
  refine wpAny_bind ?_
  show wpAny (model prog w) A (forIn [(Value.ref i2, 1)] PUnit.unit _ >>= _) _ _ _
  simp only [List.forIn_cons, List.forIn_nil]
  refine wpAny_bind (wpAny_bind (wpAny_bind ?_))
  refine nextOrEnd_end hh (((h2.extBut hs₁.extBut D.i2z).extBut hs₂ D.i12.symm).extBut hs₃.extBut D.i2z) (((hl2.extBut hs₁.extBut D.l2z).extBut hs₂ D.l2i1).extBut hs₃.extBut D.l2z) hy fun h₄ hs₄ => ?_
  simp only [Option.isSome_none, Bool.false_eq_true, if_false]
  refine wpAny_pure (wpAny_pure (wpAny_bind (wpAny_rule ?_)))
  unfold Builtin.SmallTypes.stopIteration
  refine wpAny_bind ?_
  simp only [newExc, newTuple]
  refine wpAny_bind (wpAny_newObj_type ?_ (by size_fits))
  refine wpAny_bind (m := firstArgMember _ _) (wpAny_of_eq (a := Value.none) (by first | rfl | (simp only [firstArgMember]; rfl)) ?_)
  refine wpAny_newObj_type ?_ (by size_fits)
  simp only [raiseNew]
  refine wpAny_bind (wpAny_handled ?_)
  first | rw [show A.in1.handled = none from hh] | rw [hh]
  refine wpAny_bind (wpAny_pure (wpAny_throw ?_))
  refine hE _ _ (fun c o c1 c2 c3 c4 e => Heap.get?_push_of_some _ (Heap.get?_push_of_some _ (hs₄ _ _ c4 (hs₃.extBut _ _ c1 (hs₂ _ _ c3 (hs₁.extBut _ _ c1 e)))))) ⟨_, Heap.get?_push_size _ rfl, rfl⟩
theorem pyNext_zipS_item {z TI TO i1 i2 l1 l2 : Addr} {k1 k2 : Nat} {xs ys : Array Value} {x y a b : Value} {Q : Option Value → Shared → Prop} (D : ZipApart z TI TO i1 i2 l1 l2)
    (hz : IsZipS s.heap z TI TO .none) (hTI : IsPair s.heap TI (.ref i1) (.ref i2)) (hTO : IsPair s.heap TO a b)
    (h1 : s.heap.IsTupleIter i1 l1 k1) (h2 : s.heap.IsTupleIter i2 l2 k2) (hl1 : s.heap.IsTuple l1 xs) (hl2 : s.heap.IsTuple l2 ys) (hx : xs[k1]? = some x) (hy : ys[k2]? = some y)
    (hQ : ∀ h', IsZipS h' z TI TO (rawInt s.heap.objs.size) → IsPair h' TO x y → h'.IsTupleIter i1 l1 (k1 + 1) → h'.IsTupleIter i2 l2 (k2 + 1) → IsPair h' s.heap.objs.size x y → h'.objs.size = s.heap.objs.size + 1 →
      (∀ c o, c ≠ z → c ≠ TO → c ≠ i1 → c ≠ i2 → s.heap.get? c = some o → h'.get? c = some o) → Q (some (.ref s.heap.objs.size)) { s with heap := h' }) :
    wpAny (model prog w) A (pyNext (.ref z)) Q E s := by
  have hT : s.TypeIs (.ref z) "zip" := ⟨_, hz, rfl⟩
  unfold pyNext
  exact wpAny_bind (wpAny_attempt (wpAny_callSpecial?_slot (name := Str.ofString "__next__") hT F.slot_zip_next
    (wpAny_call_entry F.slot_zip_next hT F.entry_zip_next
      (zipS_item D hz hTI hTO h1 h2 hl1 hl2 hx hy fun h' a1 a2 a3 a4 a5 a6 a7 => wpAny_pure (hQ h' a1 a2 a3 a4 a5 a6 a7)) (F.args_zip_next_1 _))))
theorem pyNext_zipS_end {z TI TO i1 i2 l1 l2 : Addr} {k1 k2 : Nat} {xs ys : Array Value} {a b : Value} {Q : Option Value → Shared → Prop} (hh : A.handled = none) (D : ZipApart z TI TO i1 i2 l1 l2)
    (hz : IsZipS s.heap z TI TO .none) (hTI : IsPair s.heap TI (.ref i1) (.ref i2)) (hTO : IsPair s.heap TO a b)
    (h1 : s.heap.IsTupleIter i1 l1 k1) (h2 : s.heap.IsTupleIter i2 l2 k2) (hl1 : s.heap.IsTuple l1 xs) (hl2 : s.heap.IsTuple l2 ys) (hx : xs[k1]? = none) (hy : ys[k2]? = none)
    (hQ : ∀ h', (∀ c o, c ≠ z → c ≠ TO → c ≠ i1 → c ≠ i2 → s.heap.get? c = some o → h'.get? c = some o) → Q none { s with heap := h' }) : wpAny (model prog w) A (pyNext (.ref z)) Q E s := by
  have hT : s.TypeIs (.ref z) "zip" := ⟨_, hz, rfl⟩
  unfold pyNext
  refine wpAny_bind (wpAny_attempt (wpAny_callSpecial?_slot (name := Str.ofString "__next__") hT F.slot_zip_next
    (wpAny_call_entry F.slot_zip_next hT F.entry_zip_next (zipS_end hh D hz hTI hTO h1 h2 hl1 hl2 hx hy fun h' e hk he => ?_) (F.args_zip_next_1 _))))
  obtain ⟨o, ho, hc⟩ := he
  refine wpAny_bind (wpAny_isInstance (T := "StopIteration") (b := true) ⟨o, ho, hc⟩ isSubtype_stop ?_)
  exact wpAny_pure (hQ _ hk)
theorem letGo_zipS {elts : List Expr} {x1 : Nat} {pos : Pos} {z TI TO T : Addr} {Q : Unit → Shared → Prop} (hz : IsZipS s.heap z TI TO (rawInt T))
    (hQ : ∀ h', IsZipS h' z TI TO .none → Heap.SameBut z s.heap h' → Q () { s with heap := h' }) : wpAny (model prog w) A (letOwnedTupleGo (.Tuple elts x1 pos) (.ref z) (.ref T)) Q E s := by
  unfold letOwnedTupleGo
  refine wpAny_bind (wpAny_load hz ?_)
  show wpAny _ _ (if (["enumerate", "zip", "dict_itemiterator", "dict_reverseitemiterator", "odict_iterator", "itertools.zip_longest", "itertools.pairwise"].contains "zip" &&
      (#[rawInt T, .bool false, .bool true, .ref TI, .ref TO] : Array Value)[0]? == some (rawInt T)) = true then _ else _) Q E s
  rw [if_pos (by simp)]
  refine wpAny_bind (wpAny_rule ?_)
  show wpAny _ _ (setField (.ref z) 0 .none) Q E s
  exact wpAny_setField_rec hz (by simp) fun h' hz' hs' => hQ h' hz' hs'
theorem pyIter_zipS {z TI TO : Addr} {f0 : Value} {Q : Value → Shared → Prop} (hz : IsZipS s.heap z TI TO f0) (h : Q (.ref z) s) : wpAny (model prog w) A (pyIter (.ref z)) Q E s := by
  have hT : s.TypeIs (.ref z) "zip" := ⟨_, hz, rfl⟩
  refine wpAny_pyIter_slot hT F.slot_zip_iter (wpAny_call_entry F.slot_zip_iter hT F.entry_zip_iter ?_ (F.args_zip_iter_1 _))
  show wpAny _ _ (ret (.ref z)) _ _ s
  exact wpAny_pure ⟨_, rfl, "zip", _, hT, F.slot_zip_next.lookup, h⟩
end
/-! the call with the keyword -/
section
variable {prog : Program} {w : World} {A : Around} {E : Value → Shared → Prop} {s : Shared}
theorem typeKw {T newId initId : String} {Bn Bi : Builtin} {args : List Value} {kw : List (Str × Value)} {S : PySem.Spec} {Q Q₁ : Value → Shared → Prop} (ft : TypeCalled T newId initId)
    (hct : checkTypeCall T ⟨args, kw⟩ = pure ()) (hcn : checkBuiltinCall newId ⟨.type T :: args, kw⟩ = pure ())
    (entryN : entryFor table newId = some Bn) (entryI : entryFor table initId = some Bi) (g : Meets (Bn ⟨.type T :: args, kw⟩) S)
    (h : S A.in1 (wants Q₁ E) s)
    (hnext : ∀ obj s₁, Q₁ obj s₁ → s₁.TypeIs obj T ∧ argsOk initId ⟨obj :: args, kw⟩ ∧ ∃ Si, Meets (Bi ⟨obj :: args, kw⟩) Si ∧ Si A.in1 (wants (fun r s₂ => r = .none ∧ Q obj s₂) E) s₁) :
    wpAny (model prog w) A (call (.type T) args kw) Q E s := by
  obtain ⟨c, tl, hmro⟩ := ft.mro
  have hmade := ft.made
  have hsub := ft.sub
  refine wpAny_call (codeAny_of_tree ?_)
  show wpAny _ _ (callAny (.type T) _) _ _ _
  refine wpAny_pure ⟨Code.quiet_builtin _ (by decide +kernel), codeAny_builtin F.entry_type_call ?_⟩
  rw [Around.under_plain (weight_type_call_type T args kw) (units_type_call_type T args kw)]
  have h1 := ft.notType
  have h2 := ft.canCreate
  repeat (any_goals (first | assumption | wp_step))
  refine codeAny_mono (codeAny_call_builtin ft.plain entryN (wpAny_of_eq hcn (g prog w A.in1 _ s h))) fun r s₁ hr => ?_
  cases r with
  | error e => exact hr
  | ok fl =>
    cases fl with
    | ret obj =>
      obtain ⟨hT, hok, Si, gi, hsi⟩ := hnext _ _ hr
      have hli := ft.init.lookup
      have hbi := ft.init.bind obj
      repeat (any_goals (first | assumption | wp_step))
      refine codeAny_mono (codeAny_call_builtin ft.init.plain entryI (ft.init.check _ _ _ _ _ _ _ _ hT hok (gi prog w A.in1 _ s₁ hsi))) fun r₂ s₂ hr₂ => ?_
      cases r₂ with
      | error e => exact hr₂
      | ok fl₂ =>
        cases fl₂ with
        | ret r =>
          obtain ⟨rfl, hq⟩ := hr₂
          repeat (any_goals (first | assumption | wp_step))
        | _ => exact hr₂.elim
    | _ => exact hr.elim
theorem initKw {T newId : String} {self : Value} {a : Value} {rest : List Value} {kw : List (Str × Value)} (hl : typeLookup (.type T) "__init__" = pure (some (.builtin "object.__init__")))
    (hm : Bind.madeBy (.type T) = pure (some newId)) (hne : (some newId != some "object.__new__") = true) :
    Meets (Builtin.«object.__init__» ⟨self :: a :: rest, kw⟩) (fun _ R s => s.TypeIs self T ∧ R (.ok (.ret .none)) s) := by
  refine Meets.of_wp fun prog w A R s hs => ?_
  obtain ⟨hT, hq⟩ := hs
  repeat (any_goals (first | assumption | wp_step))
  exact ⟨_, rfl, hq⟩
theorem newKw {T newId : String} {Bn : Builtin} {a : Value} {args : List Value} {kw : List (Str × Value)} {S : PySem.Spec} {Q : Value → Shared → Prop} (ft : TypeCalled T newId "object.__init__")
    (hne : (some newId != some "object.__new__") = true) (hct : checkTypeCall T ⟨a :: args, kw⟩ = pure ()) (hcn : checkBuiltinCall newId ⟨.type T :: a :: args, kw⟩ = pure ())
    (hok : ∀ obj, argsOk "object.__init__" ⟨obj :: a :: args, kw⟩) (entryN : entryFor table newId = some Bn) (g : Meets (Bn ⟨.type T :: a :: args, kw⟩) S)
    (h : S A.in1 (wants (fun obj s₁ => s₁.TypeIs obj T ∧ Q obj s₁) E) s) : wpAny (model prog w) A (call (.type T) (a :: args) kw) Q E s :=
  typeKw ft hct hcn entryN F.entry_object_init g h fun obj _ hq =>
    ⟨hq.1, hok obj, _, initKw ft.init.lookup ft.made hne, hq.1, rfl, hq.2⟩
end
abbrev zKw : List (Str × Value) := [("strict", .bool true)]
theorem zS_type (a b : Value) : checkTypeCall "zip" ⟨[a, b], zKw⟩ = pure () := by kernel_rfl
theorem zS_new (a b : Value) : checkBuiltinCall "zip.__new__" ⟨[.type "zip", a, b], zKw⟩ = pure () := by kernel_rfl
theorem zS_init (a b c : Value) : argsOk "object.__init__" ⟨[a, b, c], zKw⟩ := by
  unfold argsOk; rw [signature?_of (id := "object.__init__") (n := ['_', '_', 't', 'i', 'n', 'i', '_', '_']) (o := ['t', 'c', 'e', 'j', 'b', 'o']) (by kernel_rfl) F.owner_object]; kernel_rfl
abbrev zSH (h : Heap) (l1 l2 : Addr) : Heap := (RZ.zipTH4 h l1 l2).push { cls := .type "zip", data := .fields #[.none, .bool false, .bool true, .ref (RZ.zipTH2 h l1 l2).objs.size, .ref (RZ.zipTH3 h l1 l2).objs.size] }
theorem meets_zipS_new (l1 l2 : Addr) (xs ys : Array Value) :
    Meets (Builtin.«zip.__new__» ⟨[.type "zip", .ref l1, .ref l2], zKw⟩) (fun _ R s => s.heap.IsTuple l1 xs ∧ s.heap.IsTuple l2 ys ∧
      R (.ok (.ret (.ref (RZ.zipTH4 s.heap l1 l2).objs.size))) { s with heap := zSH s.heap l1 l2 }) :=
  .of_wp fun prog w A R s h => by
    obtain ⟨hp, g, d, tk, os⟩ := s; obtain ⟨hl1, hl2, h⟩ := h
    have hsub := sub_zip
    have hL1 : Heap.IsTuple (Shared.heap ⟨hp, g, d, tk, os⟩) l1 xs := hl1
    have hL2 : Heap.IsTuple (Shared.heap ⟨hp.push { cls := .type "tuple_iterator", data := .fields #[.ref l1, .int 0 0] }, g, d, tk, os⟩) l2 ys := Heap.IsTuple.push hl2 _
    wp_walk using wpAny_pyIter_tuple hL1, wpAny_pyIter_tuple hL2
    exact ⟨_, rfl, h⟩
section
variable {prog : Program} {w : World} {A : Around} {E : Value → Shared → Prop} {s : Shared}
theorem call_zipS {l1 l2 : Addr} {xs ys : Array Value} {Q : Value → Shared → Prop} (hl1 : s.heap.IsTuple l1 xs) (hl2 : s.heap.IsTuple l2 ys)
    (h : ∀ h', IsZipS h' (s.heap.objs.size + 4) (s.heap.objs.size + 2) (s.heap.objs.size + 3) .none → IsPair h' (s.heap.objs.size + 2) (.ref s.heap.objs.size) (.ref (s.heap.objs.size + 1)) →
      IsPair h' (s.heap.objs.size + 3) .none .none → h'.IsTupleIter s.heap.objs.size l1 0 → h'.IsTupleIter (s.heap.objs.size + 1) l2 0 → h'.objs.size = s.heap.objs.size + 5 →
      (∀ c o, s.heap.get? c = some o → h'.get? c = some o) → Q (.ref (s.heap.objs.size + 4)) { s with heap := h' }) :
    wpAny (model prog w) A (call (.type "zip") [.ref l1, .ref l2] zKw) Q E s := by
  refine newKw F.called_zip (by decide) (zS_type _ _) (zS_new _ _) (fun obj => zS_init obj _ _) F.entry_zip_new (meets_zipS_new l1 l2 xs ys) ⟨hl1, hl2, ?_⟩
  have z1 : (RZ.zipTH1 s.heap l1).objs.size = s.heap.objs.size + 1 := Heap.size_push ..
  have z2 : (RZ.zipTH2 s.heap l1 l2).objs.size = s.heap.objs.size + 2 := by rw [Heap.size_push, z1]
  have z3 : (RZ.zipTH3 s.heap l1 l2).objs.size = s.heap.objs.size + 3 := by rw [Heap.size_push, z2]
  have z4 : (RZ.zipTH4 s.heap l1 l2).objs.size = s.heap.objs.size + 4 := by rw [Heap.size_push, z3]
  have z5 : (zSH s.heap l1 l2).objs.size = s.heap.objs.size + 5 := by rw [Heap.size_push, z4]
  have g5 : (zSH s.heap l1 l2).get? (RZ.zipTH4 s.heap l1 l2).objs.size = some _ := Heap.get?_push_size _ rfl
  have g4 : (zSH s.heap l1 l2).get? (RZ.zipTH3 s.heap l1 l2).objs.size = some _ := Heap.get?_push_of_some _ (Heap.get?_push_size _ rfl)
  have g3 : (zSH s.heap l1 l2).get? (RZ.zipTH2 s.heap l1 l2).objs.size = some _ := Heap.get?_push_of_some _ (Heap.get?_push_of_some _ (Heap.get?_push_size _ rfl))
  have g2 : (zSH s.heap l1 l2).get? (RZ.zipTH1 s.heap l1).objs.size = some _ := Heap.get?_push_of_some _ (Heap.get?_push_of_some _ (Heap.get?_push_of_some _ (Heap.get?_push_size _ rfl)))
  have g1 : (zSH s.heap l1 l2).get? s.heap.objs.size = some _ := Heap.get?_push_of_some _ (Heap.get?_push_of_some _ (Heap.get?_push_of_some _ (Heap.get?_push_of_some _ (Heap.get?_push_size _ rfl))))
  show _ ∧ _
  rw [z2, z3, z4] at g5
  rw [z1, z2] at g3
  rw [z3] at g4
  rw [z1] at g2
  rw [z4]
  exact ⟨⟨_, g5, rfl⟩, h _ g5 g3 g4 ⟨_, g1, rfl, rfl⟩ ⟨_, g2, rfl, rfl⟩ z5 fun c o x =>
    Heap.get?_push_of_some _ (Heap.get?_push_of_some _ (Heap.get?_push_of_some _ (Heap.get?_push_of_some _ (Heap.get?_push_of_some _ x))))⟩
end
/-! the walk -/
def ItzS (K : PySem.W.Frag) (a b : Addr) : It :=
  ⟨fun i H => ∃ (xs ys : List V) (x y : V), SqT K H a xs ∧ SqT K H b ys ∧ xs[i]? = some x ∧ ys[i]? = some y,
    fun i H v H' => ∃ T x y, v = .ref T ∧ H T = none ∧ H' = upd H T (.tup [x, y]) ∧ (∀ xs, SqT K H a xs → xs[i]? = some x) ∧ ∀ ys, SqT K H b ys → ys[i]? = some y,
    fun i H => ∃ xs ys : List V, SqT K H a xs ∧ SqT K H b ys ∧ xs.length ≤ i ∧ ys.length ≤ i⟩
theorem turn_zipS {P : Program} {w : World} {K : PySem.W.Frag} {elts : List Expr} {kk : Nat} {tpos : Pos} {a b z TI TO i1 i2 : Addr} (D : ZipApart z TI TO i1 i2 a b) :
    Turn P w K (.Tuple elts kk tpos) (ItzS K a b) [z, TI, TO, i1, i2] z (fun i h => IsZipS h z TI TO .none ∧ IsPair h TI (.ref i1) (.ref i2) ∧ (∃ x y, IsPair h TO x y) ∧ h.IsTupleIter i1 a i ∧ h.IsTupleIter i2 b i) where
  mem := by simp
  obj := fun i h st c hc => by
    obtain ⟨hz, hTI, ⟨x, y, hTO⟩, ⟨o1, e1, _, d1⟩, ⟨o2, e2, _, d2⟩⟩ := st
    have e' : c = z ∨ c = TI ∨ c = TO ∨ c = i1 ∨ c = i2 := by simpa using hc
    rcases e' with q | q | q | q | q
    · rw [q]; exact ⟨_, hz, fun v q => nomatch q⟩
    · rw [q]; exact ⟨_, hTI, fun v q => nomatch q⟩
    · rw [q]; exact ⟨_, hTO, fun v q => nomatch q⟩
    · rw [q]; exact ⟨o1, e1, fun v q => by rw [d1] at q; cases q⟩
    · rw [q]; exact ⟨o2, e2, fun v q => by rw [d2] at q; cases q⟩
  keep := fun i h h' st k => by
    obtain ⟨hz, hTI, ⟨x, y, hTO⟩, h1, h2⟩ := st
    exact ⟨k z (by simp) _ hz, k TI (by simp) _ hTI, ⟨x, y, k TO (by simp) _ hTO⟩, h1.at fun o q => k i1 (by simp) o q, h2.at fun o q => k i2 (by simp) o q⟩
  item := by
    intro X hP hw hK hc i pins s σ H E I hf st hg
    subst hP hw hK
    obtain ⟨hz, hTI, ⟨x0, y0, hTO⟩, h1, h2⟩ := st
    obtain ⟨xs, ys, x, y, hqx, hqy, hx, hy⟩ := hg
    obtain ⟨its, rv, p, _⟩ := I.tuple hqx
    obtain ⟨its2, rv2, p2, _⟩ := I.tuple hqy
    obtain ⟨u, hu, ru⟩ := rv.get hx
    obtain ⟨u2, hu2, ru2⟩ := rv2.get hy
    have hzl : z < s.heap.objs.size := Heap.lt_size hz
    refine pyNext_zipS_item D hz hTI hTO h1 h2 p p2 (x := u) (y := u2) (by simpa using hu) (by simpa using hu2) fun h' z' TO' h1' h2' hT hsz hk => ?_
    refine ⟨_, rfl, letGo_zipS (s := { s with heap := h' }) z' fun h'' z'' sb => ?_⟩
    have hT2 : h''.get? s.heap.objs.size = some { cls := .type "tuple", data := .seq #[u, u2] } := (sb.2 _ (Nat.ne_of_gt hzl)).trans hT
    have new : ObjOk X.prog X.w (upd H s.heap.objs.size (.tup [x, y])) h'' s.heap.objs.size (.tup [x, y]) :=
      ⟨by show 2 ≤ sizeLine; decide, [u, u2], .cons ru (.cons ru2 .nil), ⟨_, hT2, rfl, _, rfl⟩⟩
    have I1 : Inv X pins σ (upd H s.heap.objs.size (.tup [x, y])) { s with heap := h'' } :=
      I.turnedNew (t' := s.toks) (ch := [z, TI, TO, i1, i2]) (fun c o hb q => (sb.2 c (fun q' => hb (by simp [q']))).trans (hk c o (fun q' => hb (by simp [q'])) (fun q' => hb (by simp [q'])) (fun q' => hb (by simp [q'])) (fun q' => hb (by simp [q'])) q)) hf (Nat.le_refl _) new
    refine ⟨.ref s.heap.objs.size, _, I1, rfl, ⟨_, x, y, rfl, I.hok.fresh (Nat.le_refl _), rfl, fun l hl => by rw [I.tuple_inj hl hqx]; exact hx, fun l hl => by rw [I.tuple_inj hl hqy]; exact hy⟩, ⟨z'', ?_, ⟨u, u2, ?_⟩, ?_, ?_⟩, fun c hcm => ?_⟩
    · exact (sb.2 _ D.TIz).trans (hk _ _ D.TIz D.TITO D.TIi1 D.TIi2 hTI)
    · exact (sb.2 _ D.TOz).trans TO'
    · exact h1'.at fun o q => (sb.2 _ D.i1z).trans q
    · exact h2'.at fun o q => (sb.2 _ D.i2z).trans q
    · have hlt : c < s.heap.objs.size := by
        have e' : c = z ∨ c = TI ∨ c = TO ∨ c = i1 ∨ c = i2 := by simpa using hcm
        rcases e' with q | q | q | q | q
        · rw [q]; exact hzl
        · rw [q]; exact Heap.lt_size hTI
        · rw [q]; exact Heap.lt_size hTO
        · rw [q]; obtain ⟨_, e1, _⟩ := h1; exact Heap.lt_size e1
        · rw [q]; obtain ⟨_, e2, _⟩ := h2; exact Heap.lt_size e2
      rw [upd_ne (Nat.ne_of_lt hlt)]
      exact (hf c hcm).1
  done := by
    intro X hP hw hK hc i pins s σ H E I hf st hg
    subst hP hw hK
    obtain ⟨hz, hTI, ⟨x0, y0, hTO⟩, h1, h2⟩ := st
    obtain ⟨xs, ys, hqx, hqy, q1, q2⟩ := hg
    obtain ⟨its, rv, p, _⟩ := I.tuple hqx
    obtain ⟨its2, rv2, p2, _⟩ := I.tuple hqy
    have l1 := rv.length
    have l2 := rv2.length
    exact pyNext_zipS_end (I.ok.hd hc) D hz hTI hTO h1 h2 p p2 (by simp; omega) (by simp; omega) fun h' hk => ⟨rfl, I.turnedL (t' := s.toks) (ch := [z, TI, TO, i1, i2]) (fun c o hb q =>
      hk c o (fun q' => hb (by simp [q'])) (fun q' => hb (by simp [q'])) (fun q' => hb (by simp [q'])) (fun q' => hb (by simp [q'])) q) hf⟩
  self := fun A i s Q E st h => pyIter_zipS st.1 h
theorem callWith_tkw {M : Model} {A : Around} {E : Value → Shared → Prop} {s : Shared} {env : Env} {pos : Pos} {T : String} {e : Expr} {rest : List Expr} {kws : List Keyword} {Q : Value → Shared → Prop}
    (h : wpAny M A (spliced (backTo pos (starEach (e :: rest) env))) (fun vs s₁ => wpAny M A (evalAll ((backToKw pos (keywordEach kws env)).map (·.2)))
      (fun kvs s₂ => wpAny M A (call (.type T) vs (((backToKw pos (keywordEach kws env)).filterMap (·.1)).zip kvs)) Q E s₂) E s₁) E s)
    (he : backTo pos (starEach (e :: rest) env) = (false, eval e env) :: backTo pos (starEach rest env) := by rfl)
    (hplain : (backTo pos (starEach (e :: rest) env)).any (·.1) = false := by rfl)
    (hall : (backToKw pos (keywordEach kws env)).all (·.1.isSome) = true := by rfl)
    (hkw : (backToKw pos (keywordEach kws env)).any (·.1.isNone) = false := by rfl) :
    wpAny M A (callWith pos (.type T) [] (backTo pos (starEach (e :: rest) env)) (backToKw pos (keywordEach kws env))) Q E s := by
  have h2 : wpAny M A (evalArgs (.type T) true (backTo pos (starEach (e :: rest) env)) (backToKw pos (keywordEach kws env))) (fun a s₁ => wpAny M A (call (.type T) ([] ++ a.pos) a.kw) Q E s₁) E s := by
    rw [he] at h ⊢
    exact evalArgs_kwB hall h
  unfold callWith
  refine wpAny_bind (wpAny_holding (wpAny_mono h2 (fun a s₁ h₁ => wpAny_bind (wpAny_standAt ?_)) fun _ _ x => x))
  simp only [hplain, hkw, Bool.or_false]
  refine wpAny_bind (wpAny_pure ?_)
  exact wpAny_bind (wpAny_mono h₁ (fun r s₂ hr => wpAny_bind (wpAny_holding (wpAny_point (wpAny_pure hr)))) fun _ _ x => x)
def iZipS (K : PySem.W.Frag) (ta tk : TA) : TI := fun σ H R => ta σ H fun vs H1 => tk σ H1 fun zs H2 => ∃ a b xs ys, vs = [.ref a, .ref b] ∧ zs = [.bl true] ∧ SqT K H2 a xs ∧ SqT K H2 b ys ∧ R (ItzS K a b) H2
theorem pi_zipS {X : Cx} {e e2 ve : Expr} {ta tk : TA} {p pos kp tpos : Pos} {elts : List Expr} {kk : Nat} (hg : Gl X "zip") (hm : X.mg "zip" = none) (ha : PA X [e, e2] ta) (hk : PK X [⟨some "strict", ve, kp⟩] tk)
    (he : backTo pos (starEach [e, e2] X.env) = (false, eval e X.env) :: backTo pos (starEach [e2] X.env) := by rfl) (hpl : (backTo pos (starEach [e, e2] X.env)).any (·.1) = false := by rfl) :
    PI X (.Tuple elts kk tpos) (.Call (.Name "zip" p) [e, e2] [⟨some "strict", ve, kp⟩] pos) (iZipS X.K ta tk) := by
  refine ⟨fun pins s σ H R I h => ?_⟩
  refine wpAny_Call_Name_kw (ld_blt I hg hm PyProof.Rows.boot_zip ?_)
  refine callWith_tkw (thn (ha.run pos pins s σ H _ I h) fun us s1 ⟨vs, H1, I1, r1, q1⟩ => thn (hk.run pos pins s1 σ H1 _ I1 q1) fun ws s2 ⟨zs, H2, I2, r2, q2⟩ => ?_) he hpl rfl rfl
  obtain ⟨a, b, xs, ys, ex, ez, hqx, hqy, q⟩ := q2
  subst ex
  subst ez
  cases r1 with
  | cons r rr =>
    cases rr with
    | cons r' rr =>
      cases rr
      cases r
      cases r'
      cases r2 with
      | cons rz rr =>
        cases rr
        cases rz
        have fresh5 : ∀ c, c ∈ [s2.heap.objs.size + 4, s2.heap.objs.size + 2, s2.heap.objs.size + 3, s2.heap.objs.size, s2.heap.objs.size + 1] → FpOk X pins H2 c := fun c hcm => by
          have e' : c = s2.heap.objs.size + 4 ∨ c = s2.heap.objs.size + 2 ∨ c = s2.heap.objs.size + 3 ∨ c = s2.heap.objs.size ∨ c = s2.heap.objs.size + 1 := by simpa using hcm
          have hle : s2.heap.objs.size ≤ c := by
            rcases e' with z | z | z | z | z
            · rw [z]; exact Nat.le_add_right _ _
            · rw [z]; exact Nat.le_add_right _ _
            · rw [z]; exact Nat.le_add_right _ _
            · rw [z]; exact Nat.le_refl _
            · rw [z]; exact Nat.le_add_right _ _
          exact I2.fpOk hle (I2.hok.fresh hle)
        obtain ⟨its, rv, p1, _⟩ := I2.tuple hqx
        obtain ⟨its2, rv2, p2, _⟩ := I2.tuple hqy
        obtain ⟨o1, ho1, _⟩ := id p1
        obtain ⟨o2, ho2, _⟩ := id p2
        refine call_zipS (show s2.heap.IsTuple a its.toArray from p1) (show s2.heap.IsTuple b its2.toArray from p2) fun h' hz hTI hTO h1 h2 hsz hk => pyIter_zipS hz ?_
        have I3 : Inv X pins σ H2 { s2 with heap := h' } := I2.kept (t' := s2.toks) hk
        exact ⟨s2.heap.objs.size + 4, [s2.heap.objs.size + 4, s2.heap.objs.size + 2, s2.heap.objs.size + 3, s2.heap.objs.size, s2.heap.objs.size + 1], _, _, H2, rfl, I3, turn_zipS (PySem.W.ktu_apart s2.heap.objs.size a b (Heap.lt_size ho1) (Heap.lt_size ho2)), ⟨hz, hTI, ⟨_, _, hTO⟩, h1, h2⟩, fresh5, q⟩
theorem w_zipS {K : PySem.W.Frag} {ta tk : TA} {σ : L2.St} {H : Hp} {R : It → Hp → Prop} (h : ta σ H fun vs H1 => tk σ H1 fun zs H2 => ∃ a b xs ys, vs = [.ref a, .ref b] ∧ zs = [.bl true] ∧ SqT K H2 a xs ∧ SqT K H2 b ys ∧ R (ItzS K a b) H2) : iZipS K ta tk σ H R := h
theorem fin_zipS {K : PySem.W.Frag} {a b : Addr} {xs ys : List V} (hl : xs.length = ys.length) : Fini (ItzS K a b) xs.length (fun H => SqT K H a xs ∧ SqT K H b ys) (fun i v H H' => ∃ T x y, v = .ref T ∧ H T = none ∧ Same H H' ∧ H' T = some (.tup [x, y]) ∧ xs[i]? = some x ∧ ys[i]? = some y) :=
  ⟨fun i H h o => ⟨xs, ys, xs[i], ys[i], o.1, o.2, by simp [h], by simp [hl ▸ h]⟩, fun i H v H' h o y => by
    obtain ⟨T, x, z, e, n, e', q, r⟩ := y
    subst e'
    exact ⟨T, x, z, e, n, same_new n, upd_same, q xs o.1, r ys o.2⟩, fun H o => ⟨xs, ys, o.1, o.2, Nat.le_refl _, by omega⟩⟩
end Bw

/-! papers of one page, plainly -/
namespace Bw
open PySem PySem.Spec PyProof.Rows L2 LamX
def isGr (d : PyData) (w : Str) (m : Nat) : Bool := match d with
  | .tuple (.str x :: r) => decide (r.length = m) && decide (x = w)
  | _ => false
def argsD (d : PyData) : List PyData := match d with
  | .tuple (_ :: r) => r
  | _ => []
def standD (us : List Str) (d : PyData) (held : List Str) : Bool := match d with
  | .int i => decide (0 ≤ i) && decide ((held.drop i.toNat).take us.length = us)
  | _ => false
def nearB (f : Int) (one other : PyData) : Bool := match one, other with
  | .int i, .int j => decide (1 ≤ (i - j).natAbs ∧ (((i - j).natAbs : Nat) : Int) ≤ f)
  | _, _ => false
def isNearD (f : Int) (a b : Str) (one other : PyData) (held : List Str) : Bool := standD [a] one held && (standD [b] other held && nearB f one other)
def atD (k : Str) (ps : List PyData) (g : PyData) (held : List Str) : Bool :=
  if k = "near" then isGr g "at" 2 && (match argsD g, ps with
    | [x, y], [.int f, .str a, .str b] => isNearD f a b x y held
    | _, _ => false)
  else isGr g "at" 1 && (match argsD g with
    | [x] => standD (ps.filterMap strD) x held
    | _ => false)
/-- whether a ground holds -/
def hdG : Nat → PyData → PyData → Bool → List Str → Bool
  | 0, _, _, _, _ => false
  | n + 1, .tuple (.str k :: ps), g, yes, held =>
    if k = "and" ∨ k = "or" then
      if decide (k = "and") = yes then isGr g "all" ps.length && ((ps.zip (argsD g)).map fun z => hdG n z.1 z.2 yes held).all id
      else isGr g (if yes = true then "some" else "lacks") 2 && (match argsD g with
        | [.int i, x] => decide (0 ≤ i ∧ i < ps.length) && hdG n (ps.getD i.toNat .none) x yes held
        | _ => false)
    else if k = "but" then (if yes = true then isGr g "but" 2 && (match argsD g with
          | [x, y] => hdG n (ps.getD 0 .none) x true held && hdG n (ps.getD 1 .none) y false held
          | _ => false)
        else if isGr g "first" 1 = true then (match argsD g with
          | [x] => hdG n (ps.getD 0 .none) x false held
          | _ => false)
        else isGr g "second" 1 && (match argsD g with
          | [x] => hdG n (ps.getD 1 .none) x true held
          | _ => false))
    else if yes = true then atD k ps g held else isGr g "none" 0 && !hasN (plcD (.tuple (.str k :: ps)) held)
  | _ + 1, _, _, _, _ => false
def allG (gs : List (Option PyData)) : Option PyData := if gs.all (·.isSome) = true then some (.tuple (.str "all" :: gs.filterMap id)) else none
def fstG (w : Str) : Nat → List (Option PyData) → Option PyData
  | _, [] => none
  | i, some g :: _ => some (.tuple [.str w, .int i, g])
  | i, none :: r => fstG w (i + 1) r
def atG (k : Str) (d : PyData) : Option PyData := match d with
  | .list (x :: _) => if k = "near" then (match x with
      | .tuple [a, b] => some (.tuple [.str "at", a, b])
      | _ => none) else some (.tuple [.str "at", x])
  | _ => none
def noneG (d : PyData) : Option PyData := if hasN d = true then none else some (.tuple [.str "none"])
/-- the ground of a query's yes or no -/
def grG : Bool → Nat → PyData → List Str → Option PyData
  | _, 0, _, _ => none
  | yes, n + 1, .tuple (.str k :: ps), held =>
    if k = "and" ∨ k = "or" then
      if decide (k = "and") = yes then allG (ps.map fun p => grG yes n p held) else fstG (if yes = true then "some" else "lacks") 0 (ps.map fun p => grG yes n p held)
    else if k = "but" then (if yes = true then (match grG true n (ps.getD 0 .none) held, grG false n (ps.getD 1 .none) held with
          | some x, some y => some (.tuple [.str "but", x, y])
          | _, _ => none)
        else (match grG false n (ps.getD 0 .none) held with
          | some x => some (.tuple [.str "first", x])
          | none => (grG true n (ps.getD 1 .none) held).map fun y => .tuple [.str "second", y]))
    else if yes = true then atG k (plcD (.tuple (.str k :: ps)) held) else noneG (plcD (.tuple (.str k :: ps)) held)
  | _, _ + 1, _, _ => none
/-! ### the steps -/
section
variable {n : Nat} {yes : Bool} {k : Str} {ps : List PyData} {g a b : PyData} {held : List Str}
theorem hdG_all (hk : k = "and" ∨ k = "or") (hy : decide (k = "and") = yes) : hdG (n + 1) (.tuple (.str k :: ps)) g yes held = (isGr g "all" ps.length && ((ps.zip (argsD g)).map fun z => hdG n z.1 z.2 yes held).all id) := by
  rw [hdG, if_pos hk, if_pos hy]
theorem hdG_one (hk : k = "and" ∨ k = "or") (hy : ¬ decide (k = "and") = yes) : hdG (n + 1) (.tuple (.str k :: ps)) g yes held = (isGr g (if yes = true then "some" else "lacks") 2 && (match argsD g with
        | [.int i, x] => decide (0 ≤ i ∧ i < ps.length) && hdG n (ps.getD i.toNat .none) x yes held
        | _ => false)) := by
  rw [hdG, if_pos hk, if_neg hy]
theorem hdG_butY : hdG (n + 1) (.tuple [.str "but", a, b]) g true held = (isGr g "but" 2 && (match argsD g with
          | [x, y] => hdG n a x true held && hdG n b y false held
          | _ => false)) := by
  rw [hdG, if_neg (by decide +kernel), if_pos rfl]
  rfl
theorem hdG_butN : hdG (n + 1) (.tuple [.str "but", a, b]) g false held = (if isGr g "first" 1 = true then (match argsD g with
          | [x] => hdG n a x false held
          | _ => false)
        else isGr g "second" 1 && (match argsD g with
          | [x] => hdG n b x true held
          | _ => false)) := by
  rw [hdG, if_neg (by decide +kernel), if_pos rfl]
  rfl
theorem hdG_pl (h1 : ¬ k = "and") (h2 : ¬ k = "or") (h3 : ¬ k = "but") : hdG (n + 1) (.tuple (.str k :: ps)) g yes held = (if yes = true then atD k ps g held else isGr g "none" 0 && !hasN (plcD (.tuple (.str k :: ps)) held)) := by
  rw [hdG, if_neg (fun z => z.elim h1 h2), if_neg h3]
theorem grG_all (hk : k = "and" ∨ k = "or") (hy : decide (k = "and") = yes) : grG yes (n + 1) (.tuple (.str k :: ps)) held = allG (ps.map fun p => grG yes n p held) := by
  rw [grG, if_pos hk, if_pos hy]
theorem grG_one (hk : k = "and" ∨ k = "or") (hy : ¬ decide (k = "and") = yes) : grG yes (n + 1) (.tuple (.str k :: ps)) held = fstG (if yes = true then "some" else "lacks") 0 (ps.map fun p => grG yes n p held) := by
  rw [grG, if_pos hk, if_neg hy]
theorem grG_butY : grG true (n + 1) (.tuple [.str "but", a, b]) held = (match grG true n a held, grG false n b held with
          | some x, some y => some (.tuple [.str "but", x, y])
          | _, _ => none) := by
  rw [grG, if_neg (by decide +kernel), if_pos rfl]
  rfl
theorem grG_butN : grG false (n + 1) (.tuple [.str "but", a, b]) held = (match grG false n a held with
          | some x => some (.tuple [.str "first", x])
          | none => (grG true n b held).map fun y => .tuple [.str "second", y]) := by
  rw [grG, if_neg (by decide +kernel), if_pos rfl]
  rfl
theorem grG_pl (h1 : ¬ k = "and") (h2 : ¬ k = "or") (h3 : ¬ k = "but") : grG yes (n + 1) (.tuple (.str k :: ps)) held = (if yes = true then atG k (plcD (.tuple (.str k :: ps)) held) else noneG (plcD (.tuple (.str k :: ps)) held)) := by
  rw [grG, if_neg (fun z => z.elim h1 h2), if_neg h3]
end
theorem gr_of {d : PyData} {w : Str} {m : Nat} (h : isGr d w m = true) : ∃ r : List PyData, d = .tuple (.str w :: r) ∧ r.length = m := by
  unfold isGr at h
  split at h
  · rename_i x r
    rw [Bool.and_eq_true] at h
    rw [of_decide_eq_true h.2]
    exact ⟨r, rfl, of_decide_eq_true h.1⟩
  · cases h
theorem gr_is {w : Str} {r : List PyData} : isGr (.tuple (.str w :: r)) w r.length = true := by
  unfold isGr
  simp
theorem gr_cons {z x : Str} {r : List PyData} {m : Nat} : isGr (.tuple (.str z :: r)) x m = (decide (r.length = m) && decide (z = x)) := rfl
theorem gr_not {w x : Str} {r : List PyData} {m : Nat} (h : ¬ x = w) : isGr (.tuple (.str x :: r)) w m = false := by
  unfold isGr
  simp [h]
theorem cutV_any {xs : List V} {k c : Nat} : cutV xs (some (k : Int)) (some ((k : Int) + (c : Int))) = (xs.drop k).take c := by
  have e : (k : Int) + (c : Int) = ((k + c : Nat) : Int) := by omega
  rw [e]
  unfold cutV
  by_cases h : k ≤ xs.length
  · rw [sIx_nat h]
    by_cases h2 : k + c ≤ xs.length
    · rw [sIx_nat h2]
      congr 1
      omega
    · rw [sIx_big (by omega), List.take_of_length_le (by rw [List.length_drop]; omega), List.take_of_length_le (by rw [List.length_drop]; omega)]
  · rw [sIx_big (i := (k : Int)) (by omega), sIx_big (by omega), List.drop_of_length_le (Nat.le_refl _), List.drop_of_length_le (by omega)]
    simp
theorem stand_int {us held : List Str} {j : Nat} : standD us (.int (j : Int)) held = decide ((held.drop j).take us.length = us) := by
  show (decide ((0 : Int) ≤ (j : Int)) && decide ((held.drop (j : Int).toNat).take us.length = us)) = _
  rw [decide_eq_true (show (0 : Int) ≤ (j : Int) by omega), Bool.true_and]
  rfl
theorem stand_neg {us held : List Str} {i : Int} (h : ¬ 0 ≤ i) : standD us (.int i) held = false := by
  show (decide (0 ≤ i) && _) = false
  rw [decide_eq_false h, Bool.false_and]
theorem stand_of {us : List Str} {d : PyData} {held : List Str} (h : standD us d held = true) : ∃ i : Nat, d = .int i ∧ (held.drop i).take us.length = us := by
  unfold standD at h
  split at h
  · rename_i i
    rw [Bool.and_eq_true] at h
    obtain ⟨j, rfl⟩ := Int.eq_ofNat_of_zero_le (of_decide_eq_true h.1)
    exact ⟨j, rfl, of_decide_eq_true h.2⟩
  · cases h
theorem stand_is {us : List Str} {i : Nat} {held : List Str} (h : (held.drop i).take us.length = us) : standD us (.int i) held = true := by
  unfold standD
  rw [Bool.and_eq_true]
  exact ⟨decide_eq_true (by omega), decide_eq_true (by simpa using h)⟩
theorem head_at {u : Str} {us held : List Str} {i : Nat} (h : (held.drop i).take (u :: us).length = u :: us) : held[i]? = some u := by
  have := congrArg (·[0]?) h
  simpa using this
theorem runP_in {us held : List Str} {i : Nat} (hne : us ≠ []) : i ∈ runP held us ↔ (held.drop i).take us.length = us := by
  cases us with
  | nil => exact absurd rfl hne
  | cons u r => exact runP_mem
theorem one_at {a : Str} {held : List Str} {i : Nat} : (held.drop i).take [a].length = [a] ↔ held[i]? = some a := by
  refine ⟨head_at, fun h => ?_⟩
  obtain ⟨hl, e⟩ := List.getElem?_eq_some_iff.mp h
  rw [List.drop_eq_getElem_cons hl, e]
  rfl
theorem isNear_eq {f : Int} {i j : Nat} : nearB f (.int i) (.int j) = isNear f i j := rfl
/-- of a plain query: some place -/
theorem pl_has {k : Str} {ps : List PyData} {held : List Str} {n m : Nat} (h : QOf n (.tuple (.str k :: ps)) m) (h1 : ¬ k = "and") (h2 : ¬ k = "or") (h3 : ¬ k = "but") {g : PyData} (ha : atD k ps g held = true) : hasN (plcD (.tuple (.str k :: ps)) held) = true := by
  have plain : ∀ us : List Str, us ≠ [] → (isGr g "at" 1 && (match argsD g with
    | [x] => standD us x held
    | _ => false)) = true → hasN (.list ((runP held us).map nD)) = true := fun us hne hh => by
    rw [Bool.and_eq_true] at hh
    obtain ⟨r, rfl, hr⟩ := gr_of hh.1
    match r, hr with
    | [x], _ =>
      obtain ⟨i, rfl, hi⟩ := stand_of hh.2
      exact hasN_iff.mpr ⟨i, (runP_in hne).mpr hi⟩
  cases h with
  | @word w hw =>
    rw [plcD_word]
    unfold atD at ha
    rw [if_neg (by decide +kernel)] at ha
    exact plain [w] (by simp) ha
  | @phrase ws g1 g2 g3 =>
    rw [plcD_phrase]
    unfold atD at ha
    rw [if_neg (by decide +kernel), filt_str] at ha
    exact plain ws (fun z => by rw [z] at g1; simp at g1) ha
  | @near f a b g1 g2 g3 g4 =>
    rw [plcD_near]
    unfold atD at ha
    rw [if_pos rfl, Bool.and_eq_true] at ha
    obtain ⟨r, rfl, hr⟩ := gr_of ha.1
    match r, hr with
    | [x, y], _ =>
      have hb : isNearD f a b x y held = true := ha.2
      unfold isNearD at hb
      rw [Bool.and_eq_true, Bool.and_eq_true] at hb
      obtain ⟨i, rfl, hi⟩ := stand_of hb.1
      obtain ⟨j, rfl, hj⟩ := stand_of hb.2.1
      exact hasN_iff.mpr ⟨(i, j), nearP_mem.mpr ⟨one_at.mp hi, one_at.mp hj, hb.2.2⟩⟩
  | join a _ _ => rcases a with rfl | rfl | rfl <;> contradiction
/-- the ground told of a plain query holds -/
theorem pl_told {k : Str} {ps : List PyData} {held : List Str} {n m : Nat} (h : QOf n (.tuple (.str k :: ps)) m) (h1 : ¬ k = "and") (h2 : ¬ k = "or") (h3 : ¬ k = "but") : 
    (hasN (plcD (.tuple (.str k :: ps)) held) = true → ∃ g, atG k (plcD (.tuple (.str k :: ps)) held) = some g ∧ atD k ps g held = true) ∧ (hasN (plcD (.tuple (.str k :: ps)) held) = false → atG k (plcD (.tuple (.str k :: ps)) held) = none) := by
  have plain : ∀ us : List Str, us ≠ [] → ¬ k = "near" → ps.filterMap strD = us → (hasN (.list ((runP held us).map nD)) = true → ∃ g, atG k (.list ((runP held us).map nD)) = some g ∧ atD k ps g held = true) ∧ (hasN (.list ((runP held us).map nD)) = false → atG k (.list ((runP held us).map nD)) = none) := fun us hne hk hp => by
    cases hr : runP held us with
    | nil => exact ⟨fun z => (by cases z), fun _ => rfl⟩
    | cons i r =>
      refine ⟨fun _ => ⟨.tuple [.str "at", .int i], ?_, ?_⟩, fun z => (by cases z)⟩
      · unfold atG
        simp only [List.map_cons]
        rw [if_neg hk]
        rfl
      · unfold atD
        rw [if_neg hk, hp]
        have : (held.drop i).take us.length = us := (runP_in hne).mp (by rw [hr]; exact List.mem_cons_self)
        rw [Bool.and_eq_true]
        exact ⟨gr_is, stand_is this⟩
  cases h with
  | @word w hw =>
    rw [plcD_word]
    exact plain [w] (by simp) (by decide +kernel) rfl
  | @phrase ws g1 g2 g3 =>
    rw [plcD_phrase]
    exact plain ws (fun z => by rw [z] at g1; simp at g1) (by decide +kernel) (filt_str ws)
  | @near f a b g1 g2 g3 g4 =>
    rw [plcD_near]
    cases hr : nearP f a b held with
    | nil => exact ⟨fun z => (by cases z), fun _ => rfl⟩
    | cons q r =>
      obtain ⟨i, j⟩ := q
      refine ⟨fun _ => ⟨.tuple [.str "at", .int i, .int j], ?_, ?_⟩, fun z => (by cases z)⟩
      · unfold atG
        rw [List.map_cons]
        exact (if_pos rfl).trans rfl
      · have hm : (i, j) ∈ nearP f a b held := by rw [hr]; exact List.mem_cons_self
        obtain ⟨e1, e2, e3⟩ := nearP_mem.mp hm
        unfold atD
        rw [if_pos rfl, Bool.and_eq_true]
        refine ⟨gr_is, ?_⟩
        show isNearD f a b (.int i) (.int j) held = true
        unfold isNearD
        rw [Bool.and_eq_true, Bool.and_eq_true]
        exact ⟨stand_is (one_at.mpr e1), stand_is (one_at.mpr e2), e3⟩
  | join a _ _ => rcases a with rfl | rfl | rfl <;> contradiction
theorem kindPl {n m : Nat} {k : Str} {ps : List PyData} (h : QOf n (.tuple (.str k :: ps)) m) : (k = "and" ∨ k = "or" ∨ k = "but") ∨ (¬ k = "and" ∧ ¬ k = "or" ∧ ¬ k = "but") := by
  by_cases a : k = "and"
  · exact .inl (.inl a)
  by_cases b : k = "or"
  · exact .inl (.inr (.inl b))
  by_cases c : k = "but"
  · exact .inl (.inr (.inr c))
  exact .inr ⟨a, b, c⟩
theorem qof_head {n m : Nat} {d : PyData} (h : QOf n d m) : ∃ k ps, d = .tuple (.str k :: ps) := by
  cases h <;> exact ⟨_, _, rfl⟩
theorem qof_join {n m : Nat} {k : Str} {ps : List PyData} (h : QOf n (.tuple (.str k :: ps)) m) (hk : k = "and" ∨ k = "or" ∨ k = "but") : (∀ p ∈ ps, ∃ c, cnt n p = some c) ∧ (k = "but" → ps.length = 2) ∧ 2 ≤ ps.length ∧ ps.length ≤ 4 := by
  cases h with
  | word hw => exact absurd hk (by decide +kernel)
  | phrase a b c => exact absurd hk (by decide +kernel)
  | near a b c d => exact absurd hk (by decide +kernel)
  | join a b c => exact ⟨(join_some c).2.2, b, (join_some c).1, (join_some c).2.1⟩
/-! ### what holds is so -/
theorem hd_has : ∀ {n : Nat} {q g : PyData} {yes : Bool} {held : List Str} {m : Nat}, cnt n q = some m → hdG n q g yes held = true → hasQ n q held = yes
  | 0, q, g, yes, held, m, hc, _ => by cases hc
  | n + 1, q, g, yes, held, m, hc, h => by
    have hqo := cnt_inv hc
    obtain ⟨k, ps, rfl⟩ := qof_head hqo
    rcases kindPl hqo with hk | ⟨n1, n2, n3⟩
    · obtain ⟨hps, hb, l2, l4⟩ := qof_join hqo hk
      by_cases hbut : k = "but"
      · subst hbut
        match ps, hb rfl with
        | [a, b], _ =>
          obtain ⟨ca, ha⟩ := hps a (by simp)
          obtain ⟨cb, hb'⟩ := hps b (by simp)
          rw [hasQ_but]
          cases yes with
          | true =>
            rw [hdG_butY, Bool.and_eq_true] at h
            obtain ⟨r, rfl, hr⟩ := gr_of h.1
            match r, hr with
            | [x, y], _ =>
              have h2 := h.2
              simp only [argsD, Bool.and_eq_true] at h2
              rw [hd_has ha h2.1, hd_has hb' h2.2]
              rfl
          | false =>
            rw [hdG_butN] at h
            split at h
            · rename_i hf
              obtain ⟨r, rfl, hr⟩ := gr_of hf
              match r, hr with
              | [x], _ =>
                rw [hd_has ha h]
                rfl
            · rw [Bool.and_eq_true] at h
              obtain ⟨r, rfl, hr⟩ := gr_of h.1
              match r, hr with
              | [x], _ =>
                rw [hd_has hb' h.2]
                simp
      · have hk' : k = "and" ∨ k = "or" := by
          rcases hk with a | a | a
          · exact .inl a
          · exact .inr a
          · exact absurd a hbut
        by_cases hy : decide (k = "and") = yes
        · rw [hdG_all hk' hy, Bool.and_eq_true] at h
          obtain ⟨r, rfl, hr⟩ := gr_of h.1
          have hall : ∀ p ∈ ps, hasQ n p held = yes := fun p hp => by
            obtain ⟨i, hi⟩ := List.mem_iff_getElem?.mp hp
            have hlt : i < ps.length := (List.getElem?_eq_some_iff.mp hi).1
            have hz : (ps.zip r)[i]? = some (p, r[i]) := List.getElem?_zip_eq_some.mpr ⟨hi, List.getElem?_eq_getElem (by omega)⟩
            have := List.all_eq_true.mp h.2 _ (List.mem_map.mpr ⟨_, List.mem_of_getElem? hz, rfl⟩)
            obtain ⟨c, hc'⟩ := hps p hp
            exact hd_has hc' this
          rcases hk' with rfl | rfl
          · rw [hasQ_and]
            have : yes = true := by rw [← hy]; rfl
            subst this
            rw [List.all_eq_true]
            intro b hb
            obtain ⟨p, hp, rfl⟩ := List.mem_map.mp hb
            exact hall p hp
          · rw [hasQ_or]
            have : yes = false := by rw [← hy]; decide +kernel
            subst this
            rw [List.any_eq_false]
            intro b hb
            obtain ⟨p, hp, rfl⟩ := List.mem_map.mp hb
            rw [hall p hp]
            exact Bool.false_ne_true
        · rw [hdG_one hk' hy, Bool.and_eq_true] at h
          obtain ⟨r, rfl, hr⟩ := gr_of h.1
          match r, hr, h.2 with
          | [.int i, x], _, h2 =>
            simp only [argsD, Bool.and_eq_true] at h2
            obtain ⟨hi0, hil⟩ := of_decide_eq_true h2.1
            obtain ⟨j, rfl⟩ := Int.eq_ofNat_of_zero_le hi0
            have hj : j < ps.length := by omega
            have hg : ps.getD j .none = ps[j] := by rw [List.getD_eq_getElem?_getD, List.getElem?_eq_getElem hj]; rfl
            have h3 : hdG n (ps.getD j .none) x yes held = true := h2.2
            rw [hg] at h3
            obtain ⟨c, hc'⟩ := hps ps[j] (List.getElem_mem hj)
            have hh := hd_has hc' h3
            rcases hk' with rfl | rfl
            · rw [hasQ_and]
              have : yes = false := by
                cases yes with
                | false => rfl
                | true => exact absurd (by decide +kernel) hy
              subst this
              rw [List.all_eq_false]
              exact ⟨_, List.mem_map.mpr ⟨_, List.getElem_mem hj, rfl⟩, by rw [hh]; exact Bool.false_ne_true⟩
            · rw [hasQ_or]
              have : yes = true := by
                cases yes with
                | true => rfl
                | false => exact absurd (by decide +kernel) hy
              subst this
              rw [List.any_eq_true]
              exact ⟨_, List.mem_map.mpr ⟨_, List.getElem_mem hj, rfl⟩, hh⟩
    · rw [hasQ_plc n1 n2 n3]
      rw [hdG_pl n1 n2 n3] at h
      cases yes with
      | true =>
        rw [if_pos rfl] at h
        exact pl_has hqo n1 n2 n3 h
      | false =>
        rw [if_neg Bool.false_ne_true, Bool.and_eq_true] at h
        cases hh : hasN (plcD (.tuple (.str k :: ps)) held) with
        | false => rfl
        | true => rw [hh] at h; cases h.2
/-! ### what is told -/
theorem fst_some {w : Str} : ∀ {gs : List (Option PyData)} {i : Nat}, (∃ g, some g ∈ gs) → ∃ (j : Nat) (g : PyData), fstG w i gs = some (.tuple [.str w, .int (i + j : Nat), g]) ∧ gs[j]? = some (some g)
  | [], i, h => by obtain ⟨g, hg⟩ := h; cases hg
  | some g :: r, i, h => ⟨0, g, rfl, rfl⟩
  | none :: r, i, h => by
    obtain ⟨j, g, e1, e2⟩ := fst_some (w := w) (gs := r) (i := i + 1) (by
      obtain ⟨g, hg⟩ := h
      rcases List.mem_cons.mp hg with z | z
      · cases z
      · exact ⟨g, z⟩)
    exact ⟨j + 1, g, by rw [fstG, e1, show i + 1 + j = i + (j + 1) by omega], e2⟩
theorem fst_none {w : Str} : ∀ {gs : List (Option PyData)} {i : Nat}, (∀ o ∈ gs, o = none) → fstG w i gs = none
  | [], i, h => rfl
  | some g :: r, i, h => by cases h (some g) List.mem_cons_self
  | none :: r, i, h => by
    rw [fstG]
    exact fst_none fun o ho => h o (List.mem_cons_of_mem _ ho)
theorem all_some_of {α : Type} {f : α → Option PyData} : ∀ {l : List α}, (∀ a ∈ l, ∃ g, f a = some g) → ∃ gs : List PyData, l.map f = gs.map some ∧ gs.length = l.length
  | [], _ => ⟨[], rfl, rfl⟩
  | a :: r, h => by
    obtain ⟨g, hg⟩ := h a List.mem_cons_self
    obtain ⟨gs, e, el⟩ := all_some_of fun b hb => h b (List.mem_cons_of_mem _ hb)
    exact ⟨g :: gs, by simp [hg, e], by simp [el]⟩
theorem gr_told : ∀ {n : Nat} {q : PyData} {yes : Bool} {held : List Str} {m : Nat}, cnt n q = some m →
    (hasQ n q held = yes → ∃ g, grG yes n q held = some g ∧ hdG n q g yes held = true) ∧ (hasQ n q held ≠ yes → grG yes n q held = none)
  | 0, q, yes, held, m, hc => by cases hc
  | n + 1, q, yes, held, m, hc => by
    have hqo := cnt_inv hc
    obtain ⟨k, ps, rfl⟩ := qof_head hqo
    rcases kindPl hqo with hk | ⟨n1, n2, n3⟩
    · obtain ⟨hps, hb, l2, l4⟩ := qof_join hqo hk
      by_cases hbut : k = "but"
      · subst hbut
        match ps, hb rfl with
        | [a, b], _ =>
          obtain ⟨ca, ha⟩ := hps a (by simp)
          obtain ⟨cb, hb'⟩ := hps b (by simp)
          rw [hasQ_but]
          obtain ⟨at1, at2⟩ := gr_told (yes := true) (held := held) ha
          obtain ⟨af1, af2⟩ := gr_told (yes := false) (held := held) ha
          obtain ⟨bt1, bt2⟩ := gr_told (yes := true) (held := held) hb'
          obtain ⟨bf1, bf2⟩ := gr_told (yes := false) (held := held) hb'
          cases yes with
          | true =>
            rw [grG_butY]
            cases e1 : hasQ n a held with
            | true =>
              obtain ⟨x, x1, x2⟩ := at1 e1
              cases e2 : hasQ n b held with
              | true =>
                rw [x1, bf2 (by rw [e2]; decide)]
                exact ⟨fun z => (by cases z), fun _ => rfl⟩
              | false =>
                obtain ⟨y, y1, y2⟩ := bf1 e2
                rw [x1, y1]
                refine ⟨fun _ => ⟨_, rfl, ?_⟩, fun z => absurd rfl z⟩
                rw [hdG_butY, Bool.and_eq_true]
                exact ⟨gr_is, by simp only [argsD, Bool.and_eq_true]; exact ⟨x2, y2⟩⟩
            | false =>
              rw [at2 (by rw [e1]; decide)]
              exact ⟨fun z => (by cases z), fun _ => rfl⟩
          | false =>
            rw [grG_butN]
            cases e1 : hasQ n a held with
            | false =>
              obtain ⟨x, x1, x2⟩ := af1 e1
              rw [x1]
              refine ⟨fun _ => ⟨_, rfl, ?_⟩, fun z => absurd rfl z⟩
              rw [hdG_butN, if_pos (show isGr (.tuple [.str "first", x]) "first" 1 = true from gr_is)]
              exact x2
            | true =>
              rw [af2 (by rw [e1]; decide)]
              cases e2 : hasQ n b held with
              | true =>
                obtain ⟨y, y1, y2⟩ := bt1 e2
                rw [y1]
                refine ⟨fun _ => ⟨_, rfl, ?_⟩, fun z => absurd rfl z⟩
                have no1 : ¬ isGr (.tuple [.str "second", y]) "first" 1 = true := by
                  rw [gr_not (by decide +kernel)]
                  exact Bool.false_ne_true
                show hdG (n + 1) _ (.tuple [.str "second", y]) false held = true
                rw [hdG_butN, if_neg no1, Bool.and_eq_true]
                exact ⟨gr_is, y2⟩
              | false =>
                rw [bt2 (by rw [e2]; decide)]
                exact ⟨fun z => (by cases z), fun _ => rfl⟩
      · have hk' : k = "and" ∨ k = "or" := by
          rcases hk with a | a | a
          · exact .inl a
          · exact .inr a
          · exact absurd a hbut
        by_cases hy : decide (k = "and") = yes
        · rw [grG_all hk' hy]
          have hiff : hasQ (n + 1) (.tuple (.str k :: ps)) held = yes ↔ ∀ p ∈ ps, hasQ n p held = yes := by
            rcases hk' with rfl | rfl
            · rw [hasQ_and]
              have : yes = true := by rw [← hy]; rfl
              subst this
              rw [List.all_eq_true]
              exact ⟨fun h p hp => h _ (List.mem_map.mpr ⟨p, hp, rfl⟩), fun h b hb => by
                obtain ⟨p, hp, rfl⟩ := List.mem_map.mp hb
                exact h p hp⟩
            · rw [hasQ_or]
              have : yes = false := by rw [← hy]; decide +kernel
              subst this
              rw [List.any_eq_false]
              exact ⟨fun h p hp => by simpa using h _ (List.mem_map.mpr ⟨p, hp, rfl⟩), fun h b hb => by
                obtain ⟨p, hp, rfl⟩ := List.mem_map.mp hb
                rw [h p hp]
                exact Bool.false_ne_true⟩
          refine ⟨fun hh => ?_, fun hh => ?_⟩
          · have hall := hiff.mp hh
            obtain ⟨gs, e, el⟩ := all_some_of (f := fun p => grG yes n p held) (l := ps) fun p hp => by
              obtain ⟨c, hc'⟩ := hps p hp
              obtain ⟨g, h1, _⟩ := (gr_told (yes := yes) (held := held) hc').1 (hall p hp)
              exact ⟨g, h1⟩
            rw [e]
            refine ⟨.tuple (.str "all" :: gs), ?_, ?_⟩
            · unfold allG
              rw [if_pos (by simp)]
              simp
            · rw [hdG_all hk' hy, ← el, Bool.and_eq_true]
              refine ⟨gr_is, ?_⟩
              rw [List.all_eq_true]
              intro b hb
              obtain ⟨⟨p, g⟩, hz, rfl⟩ := List.mem_map.mp hb
              obtain ⟨i, hi⟩ := List.mem_iff_getElem?.mp hz
              obtain ⟨i1, i2⟩ := List.getElem?_zip_eq_some.mp hi
              have hp := List.mem_of_getElem? i1
              obtain ⟨c, hc'⟩ := hps p hp
              obtain ⟨g', h1, h2⟩ := (gr_told (yes := yes) (held := held) hc').1 (hall p hp)
              have e2 := congrArg (·[i]?) e
              simp only [List.getElem?_map, i1, Option.map_some] at e2
              have i2' : gs[i]? = some g := i2
              rw [i2', h1] at e2
              cases e2
              exact h2
          · unfold allG
            rw [if_neg]
            intro ha
            refine hh (hiff.mpr fun p hp => ?_)
            obtain ⟨c, hc'⟩ := hps p hp
            cases hq : decide (hasQ n p held = yes) with
            | true => exact of_decide_eq_true hq
            | false =>
              have h1 := (gr_told (yes := yes) (held := held) hc').2 (of_decide_eq_false hq)
              have h2 := List.all_eq_true.mp ha _ (List.mem_map.mpr ⟨p, hp, rfl⟩)
              rw [h1] at h2
              cases h2
        · rw [grG_one hk' hy]
          have hiff : hasQ (n + 1) (.tuple (.str k :: ps)) held = yes ↔ ∃ p ∈ ps, hasQ n p held = yes := by
            rcases hk' with rfl | rfl
            · rw [hasQ_and]
              have : yes = false := by
                cases yes with
                | false => rfl
                | true => exact absurd (by decide +kernel) hy
              subst this
              rw [List.all_eq_false]
              exact ⟨fun ⟨b, hb, hn⟩ => by
                obtain ⟨p, hp, rfl⟩ := List.mem_map.mp hb
                exact ⟨p, hp, by simpa using hn⟩, fun ⟨p, hp, h⟩ => ⟨_, List.mem_map.mpr ⟨p, hp, rfl⟩, by rw [h]; exact Bool.false_ne_true⟩⟩
            · rw [hasQ_or]
              have : yes = true := by
                cases yes with
                | true => rfl
                | false => exact absurd (by decide +kernel) hy
              subst this
              rw [List.any_eq_true]
              exact ⟨fun ⟨b, hb, hn⟩ => by
                obtain ⟨p, hp, rfl⟩ := List.mem_map.mp hb
                exact ⟨p, hp, hn⟩, fun ⟨p, hp, h⟩ => ⟨_, List.mem_map.mpr ⟨p, hp, rfl⟩, h⟩⟩
          refine ⟨fun hh => ?_, fun hh => ?_⟩
          · obtain ⟨p, hp, hpy⟩ := hiff.mp hh
            obtain ⟨c, hc'⟩ := hps p hp
            obtain ⟨g0, h1, _⟩ := (gr_told (yes := yes) (held := held) hc').1 hpy
            obtain ⟨j, g, e1, e2⟩ := fst_some (w := if yes = true then "some" else "lacks") (gs := ps.map fun p => grG yes n p held) (i := 0) ⟨g0, List.mem_map.mpr ⟨p, hp, h1⟩⟩
            refine ⟨_, e1, ?_⟩
            rw [List.getElem?_map] at e2
            obtain ⟨p', hp', e3⟩ := Option.map_eq_some_iff.mp e2
            have hj : j < ps.length := (List.getElem?_eq_some_iff.mp hp').1
            obtain ⟨c', hc''⟩ := hps p' (List.mem_of_getElem? hp')
            have e3' : grG yes n p' held = some g := e3
            have hpy' : hasQ n p' held = yes := by
              cases hq : decide (hasQ n p' held = yes) with
              | true => exact of_decide_eq_true hq
              | false =>
                rw [(gr_told (yes := yes) (held := held) hc'').2 (of_decide_eq_false hq)] at e3'
                cases e3'
            obtain ⟨g2, h3, h4⟩ := (gr_told (yes := yes) (held := held) hc'').1 hpy'
            rw [e3'] at h3
            cases h3
            rw [hdG_one hk' hy, Bool.and_eq_true]
            refine ⟨gr_is, ?_⟩
            simp only [argsD, Bool.and_eq_true]
            refine ⟨decide_eq_true ⟨by omega, by omega⟩, ?_⟩
            have hg : ps.getD (((0 + j : Nat) : Int)).toNat .none = p' := by
              rw [show (((0 + j : Nat) : Int)).toNat = j by omega, List.getD_eq_getElem?_getD, hp']
              rfl
            rw [hg]
            exact h4
          · refine fst_none fun o ho => ?_
            obtain ⟨p, hp, rfl⟩ := List.mem_map.mp ho
            obtain ⟨c, hc'⟩ := hps p hp
            exact (gr_told (yes := yes) (held := held) hc').2 fun z => hh (hiff.mpr ⟨p, hp, z⟩)
    · rw [hasQ_plc n1 n2 n3, grG_pl n1 n2 n3]
      obtain ⟨t1, t2⟩ := pl_told (held := held) hqo n1 n2 n3
      cases yes with
      | true =>
        rw [if_pos rfl]
        refine ⟨fun hh => ?_, fun hh => t2 (by cases e : hasN (plcD (.tuple (.str k :: ps)) held) with
          | true => exact absurd e hh
          | false => rfl)⟩
        obtain ⟨g, h1, h2⟩ := t1 hh
        exact ⟨g, h1, by rw [hdG_pl n1 n2 n3, if_pos rfl]; exact h2⟩
      | false =>
        rw [if_neg Bool.false_ne_true]
        unfold noneG
        refine ⟨fun hh => ⟨.tuple [.str "none"], by rw [if_neg (by rw [hh]; exact Bool.false_ne_true)], ?_⟩, fun hh => by
          rw [if_pos (by cases e : hasN (plcD (.tuple (.str k :: ps)) held) with
            | true => rfl
            | false => exact absurd e hh)]⟩
        rw [hdG_pl n1 n2 n3, if_neg Bool.false_ne_true, hh]
        rfl
theorem w_lstRg {te : L2.St → Hp → (Int → Int → Hp → Prop) → Prop} {σ : L2.St} {H : Hp} {Q : VK} (h : te σ H fun a b H1 => RgOk a b ∧ ∀ q, H1 q = none → Q (.ref q) (upd H1 q (.lst (rgV a b)))) : tLstRg te σ H Q := h
theorem w_rg1 {ta : TE} {σ : L2.St} {H : Hp} {Q : Int → Int → Hp → Prop} (h : ta σ H fun x H1 => ∃ n, x = .int n ∧ Q 0 n H1) : tRg1 ta σ H Q := h
theorem rgV_nat (n : Nat) : rgV 0 (n : Int) = (List.range n).map fun i : Nat => V.int (i : Int) := by
  unfold rgV
  rw [show ((n : Int) - 0).toNat = n by omega]
  exact List.map_congr_left fun i _ => by rw [Int.zero_add]
/-- is it found at any place -/
def runB (us held : List Str) : List Bool := (List.range held.length).map fun i : Nat => standD us (.int (i : Int)) held
def nearBs (f : Int) (a b : Str) (held : List Str) : List Bool := ((List.range held.length).map fun i : Nat => (List.range held.length).map fun j : Nat => isNearD f a b (.int (i : Int)) (.int (j : Int)) held).flatten
theorem any_run {us held : List Str} (hne : us ≠ []) : (runB us held).any id = hasN (.list ((runP held us).map nD)) := by
  refine bool_ext ?_
  rw [hasN_iff, List.any_eq_true]
  constructor
  · rintro ⟨b, hb, hb2⟩
    obtain ⟨i, hi, rfl⟩ := List.mem_map.mp hb
    refine ⟨i, (runP_in hne).mpr ?_⟩
    have h : standD us (.int (i : Int)) held = true := hb2
    rw [stand_int] at h
    exact of_decide_eq_true h
  · rintro ⟨i, hi⟩
    have h := (runP_in hne).mp hi
    have hl : i < held.length := by
      cases us with
      | nil => exact absurd rfl hne
      | cons u r => exact (List.getElem?_eq_some_iff.mp (head_at h)).1
    exact ⟨_, List.mem_map.mpr ⟨i, List.mem_range.mpr hl, rfl⟩, by show standD us (.int (i : Int)) held = true; rw [stand_int]; exact decide_eq_true h⟩
theorem any_near {f : Int} {a b : Str} {held : List Str} : (nearBs f a b held).any id = hasN (.list ((nearP f a b held).map pD)) := by
  refine bool_ext ?_
  rw [hasN_iff, List.any_eq_true]
  constructor
  · rintro ⟨x, hx, hx2⟩
    obtain ⟨l, hl, hxl⟩ := List.mem_flatten.mp hx
    obtain ⟨i, hi, rfl⟩ := List.mem_map.mp hl
    obtain ⟨j, hj, rfl⟩ := List.mem_map.mp hxl
    have h : isNearD f a b (.int (i : Int)) (.int (j : Int)) held = true := hx2
    unfold isNearD at h
    rw [Bool.and_eq_true, Bool.and_eq_true, stand_int, stand_int] at h
    exact ⟨(i, j), nearP_mem.mpr ⟨one_at.mp (of_decide_eq_true h.1), one_at.mp (of_decide_eq_true h.2.1), h.2.2⟩⟩
  · rintro ⟨⟨i, j⟩, hm⟩
    obtain ⟨e1, e2, e3⟩ := nearP_mem.mp hm
    have l1 := (List.getElem?_eq_some_iff.mp e1).1
    have l2 := (List.getElem?_eq_some_iff.mp e2).1
    refine ⟨_, List.mem_flatten.mpr ⟨_, List.mem_map.mpr ⟨i, List.mem_range.mpr l1, rfl⟩, List.mem_map.mpr ⟨j, List.mem_range.mpr l2, rfl⟩⟩, ?_⟩
    show isNearD f a b (.int (i : Int)) (.int (j : Int)) held = true
    unfold isNearD
    rw [Bool.and_eq_true, Bool.and_eq_true]
    exact ⟨stand_is (one_at.mpr e1), stand_is (one_at.mpr e2), e3⟩
/-- the words that a page holds, in a list -/
structure HW (H : Hp) (hd : Addr) (held : List Str) : Prop where
  at_ : H hd = some (.lst (held.map V.str))
  len : held.length ≤ 120
  all : ∀ u ∈ held, isW u = true
theorem HW.same {H H' : Hp} {hd : Addr} {held : List Str} (h : HW H hd held) (s : Same H H') : HW H' hd held := ⟨s _ _ h.at_, h.len, h.all⟩
theorem w_listOfT {K : PySem.W.Frag} {H : Hp} {Q : VK} {a : Addr} {ys : List V} (h : SqT K H a ys) (k : ∀ l H2, H l = none → Same H H2 → H2 l = some (.lst ys) → Q (.ref l) H2) : rListOf K [.ref a] H Q := ⟨a, ys, rfl, .inr h, fun l n => k l _ n (same_new n) upd_same⟩
theorem nearBs_len {f : Int} {a b : Str} {held : List Str} (j : Nat) : ((((List.range held.length).take j).map fun i : Nat => (List.range held.length).map fun e : Nat => isNearD f a b (.int (i : Int)) (.int (e : Int)) held).flatten).length ≤ held.length * held.length := by
  rw [List.length_flatten]
  have h := sum_le (l := (((List.range held.length).take j).map fun i : Nat => (List.range held.length).map fun e : Nat => isNearD f a b (.int (i : Int)) (.int (e : Int)) held).map List.length) (c := held.length) (fun y hy => by
    obtain ⟨l, hl, rfl⟩ := List.mem_map.mp hy
    obtain ⟨n, _, rfl⟩ := List.mem_map.mp hl
    simp)
  rw [List.length_map, List.length_map, List.length_take, List.length_range] at h
  exact Nat.le_trans h (Nat.mul_le_mul_right _ (Nat.min_le_right _ _))
theorem in_three {k : Str} : inV (.str k) [.str "word", .str "phrase", .str "near"] = decide (k = "word" ∨ k = "phrase" ∨ k = "near") := by
  unfold inV
  simp only [List.any_cons, List.any_nil, Bool.or_false, eqV]
  by_cases h1 : k = "word"
  · subst h1; decide +kernel
  by_cases h2 : k = "phrase"
  · subst h2; decide +kernel
  by_cases h3 : k = "near"
  · subst h3; decide +kernel
  rw [decide_eq_false (fun z => z.elim h1 fun z => z.elim h2 h3)]
  simp [Ne.symm h1, Ne.symm h2, Ne.symm h3]
theorem pl_kind {n m : Nat} {k : Str} {ps : List PyData} (h : QOf n (.tuple (.str k :: ps)) m) (h1 : ¬ k = "and") (h2 : ¬ k = "or") (h3 : ¬ k = "but") : k = "word" ∨ k = "phrase" ∨ k = "near" := by
  cases h with
  | word => exact .inl rfl
  | phrase => exact .inr (.inl rfl)
  | near => exact .inr (.inr rfl)
  | join a _ _ => rcases a with rfl | rfl | rfl <;> contradiction
theorem jn_kind {k : Str} (h : k = "and" ∨ k = "or" ∨ k = "but") : ¬ (k = "word" ∨ k = "phrase" ∨ k = "near") := by
  rcases h with rfl | rfl | rfl <;> decide +kernel
/-! ### grounds as values -/
def optD (o : Option PyData) : PyData := o.getD .none
/-- a ground, if any, is a tuple of low depth -/
def TupO (o : Option PyData) : Prop := ∀ g, o = some g → (∃ ds, g = .tuple ds) ∧ GoodD g 30
theorem none_in {gs : List (Option PyData)} (h : ∀ o ∈ gs, TupO o) : ((gs.map optD).any fun z => PyData.eqv z .none) = !gs.all (·.isSome) := by
  induction gs with
  | nil => rfl
  | cons o r ih =>
    have ih' := ih fun x hx => h x (List.mem_cons_of_mem _ hx)
    rw [List.map_cons, List.any_cons, List.all_cons, ih']
    cases o with
    | none => simp [optD, PyData.eqv]
    | some g =>
      obtain ⟨ds, rfl⟩ := (h _ List.mem_cons_self g rfl).1
      simp [optD, PyData.eqv]
theorem good_opts {gs : List (Option PyData)} (h : ∀ o ∈ gs, TupO o) : GoodD (.list (gs.map optD)) 31 := good_list fun d hd => by
  obtain ⟨o, ho, rfl⟩ := List.mem_map.mp hd
  cases o with
  | none => exact good_none
  | some g => exact (h _ ho g rfl).2
theorem fst_step {w : Str} {gs : List (Option PyData)} {i : Nat} {o : Option PyData} (h : gs[i]? = some o) : fstG w i (gs.drop i) = (match o with
    | some g => some (.tuple [.str w, .int (i : Nat), g])
    | none => fstG w (i + 1) (gs.drop (i + 1))) := by
  obtain ⟨hl, e⟩ := List.getElem?_eq_some_iff.mp h
  rw [List.drop_eq_getElem_cons hl, e]
  cases o <;> rfl
theorem all_map {gs : List (Option PyData)} (h : gs.all (·.isSome) = true) : gs.map optD = gs.filterMap id := by
  induction gs with
  | nil => rfl
  | cons o r ih =>
    rw [List.all_cons, Bool.and_eq_true] at h
    cases o with
    | none => cases h.1
    | some g =>
      rw [List.map_cons, ih h.2]
      rfl
/-- good data without lists -/
def GN (d : PyData) (n : Nat) : Prop := GoodD d n ∧ noL d = true
theorem gn_str {x : Str} {n : Nat} (h : PyData.strOk x = true) : GN (.str x) n := ⟨good_str h, rfl⟩
theorem gn_int {i : Int} {n : Nat} : GN (.int i) n := ⟨good_int, rfl⟩
theorem gn_tuple {n : Nat} {ds : List PyData} (h : ∀ d ∈ ds, GN d n) : GN (.tuple ds) (n + 1) := ⟨good_tuple fun d hd => (h d hd).1, by
  rw [noL]
  exact noLs_all fun d hd => (h d hd).2⟩
theorem good_fst {w : Str} (hw : PyData.strOk w = true) {n : Nat} : ∀ {gs : List (Option PyData)} {i : Nat} {g : PyData}, (∀ o ∈ gs, ∀ g, o = some g → GN g n) → fstG w i gs = some g → (∃ ds, g = .tuple ds) ∧ GN g (n + 1)
  | [], i, g, h, e => by cases e
  | some x :: r, i, g, h, e => by
    cases e
    refine ⟨⟨_, rfl⟩, gn_tuple fun d hd => ?_⟩
    simp only [List.mem_cons, List.not_mem_nil, or_false] at hd
    rcases hd with rfl | rfl | rfl
    · exact gn_str hw
    · exact gn_int
    · exact h _ List.mem_cons_self _ rfl
  | none :: r, i, g, h, e => good_fst hw (fun o ho => h o (List.mem_cons_of_mem _ ho)) (show fstG w (i + 1) r = some g from e)
theorem gr_good : ∀ {n : Nat} {q : PyData} {yes : Bool} {held : List Str} {m : Nat} {g : PyData}, cnt n q = some m → grG yes n q held = some g → (∃ ds, g = .tuple ds) ∧ GN g (n + 1)
  | 0, q, yes, held, m, g, hc, _ => by cases hc
  | n + 1, q, yes, held, m, g, hc, h => by
    have hqo := cnt_inv hc
    obtain ⟨k, ps, rfl⟩ := qof_head hqo
    rcases kindPl hqo with hk | ⟨n1, n2, n3⟩
    · obtain ⟨hps, hb, l2, l4⟩ := qof_join hqo hk
      by_cases hbut : k = "but"
      · subst hbut
        match ps, hb rfl with
        | [a, b], _ =>
          obtain ⟨ca, ha⟩ := hps a (by simp)
          obtain ⟨cb, hb'⟩ := hps b (by simp)
          cases yes with
          | true =>
            rw [grG_butY] at h
            split at h
            · rename_i x y e1 e2
              cases h
              refine ⟨⟨_, rfl⟩, gn_tuple fun d hd => ?_⟩
              simp only [List.mem_cons, List.not_mem_nil, or_false] at hd
              rcases hd with rfl | rfl | rfl
              · exact gn_str (by decide +kernel)
              · exact (gr_good ha e1).2
              · exact (gr_good hb' e2).2
            · cases h
          | false =>
            rw [grG_butN] at h
            split at h
            · rename_i x e1
              cases h
              refine ⟨⟨_, rfl⟩, gn_tuple fun d hd => ?_⟩
              simp only [List.mem_cons, List.not_mem_nil, or_false] at hd
              rcases hd with rfl | rfl
              · exact gn_str (by decide +kernel)
              · exact (gr_good ha e1).2
            · obtain ⟨y, e2, rfl⟩ := Option.map_eq_some_iff.mp h
              refine ⟨⟨_, rfl⟩, gn_tuple fun d hd => ?_⟩
              simp only [List.mem_cons, List.not_mem_nil, or_false] at hd
              rcases hd with rfl | rfl
              · exact gn_str (by decide +kernel)
              · exact (gr_good hb' e2).2
      · have hk' : k = "and" ∨ k = "or" := by
          rcases hk with a | a | a
          · exact .inl a
          · exact .inr a
          · exact absurd a hbut
        have hin : ∀ o ∈ ps.map fun p => grG yes n p held, ∀ g, o = some g → GN g (n + 1) := fun o ho g e => by
          obtain ⟨p, hp, rfl⟩ := List.mem_map.mp ho
          obtain ⟨c, hc'⟩ := hps p hp
          exact (gr_good hc' e).2
        by_cases hy : decide (k = "and") = yes
        · rw [grG_all hk' hy] at h
          unfold allG at h
          split at h
          · cases h
            refine ⟨⟨_, rfl⟩, gn_tuple fun d hd => ?_⟩
            rcases List.mem_cons.mp hd with rfl | hd
            · exact gn_str (by decide +kernel)
            · obtain ⟨o, ho, e⟩ := List.mem_filterMap.mp hd
              exact hin o ho d e
          · cases h
        · rw [grG_one hk' hy] at h
          exact good_fst (by cases yes <;> decide +kernel) hin h
    · rw [grG_pl n1 n2 n3] at h
      cases yes with
      | true =>
        rw [if_pos rfl] at h
        cases hqo with
        | word hw =>
          rw [plcD_word] at h
          unfold atG at h
          split at h
          · rename_i x r e
            rw [if_neg (by decide +kernel)] at h
            cases h
            refine ⟨⟨_, rfl⟩, gn_tuple fun d hd => ?_⟩
            simp only [List.mem_cons, List.not_mem_nil, or_false] at hd
            rcases hd with rfl | rfl
            · exact gn_str (by decide +kernel)
            · have hx : d ∈ d :: r := List.mem_cons_self
              rw [← PyData.list.inj e] at hx
              obtain ⟨i, _, rfl⟩ := List.mem_map.mp hx
              exact gn_int
          · cases h
        | phrase a b c =>
          rw [plcD_phrase] at h
          unfold atG at h
          split at h
          · rename_i x r e
            rw [if_neg (by decide +kernel)] at h
            cases h
            refine ⟨⟨_, rfl⟩, gn_tuple fun d hd => ?_⟩
            simp only [List.mem_cons, List.not_mem_nil, or_false] at hd
            rcases hd with rfl | rfl
            · exact gn_str (by decide +kernel)
            · have hx : d ∈ d :: r := List.mem_cons_self
              rw [← PyData.list.inj e] at hx
              obtain ⟨i, _, rfl⟩ := List.mem_map.mp hx
              exact gn_int
          · cases h
        | near a b c d =>
          rw [plcD_near] at h
          unfold atG at h
          split at h
          · rename_i x r e
            rw [if_pos rfl] at h
            have hx : x ∈ x :: r := List.mem_cons_self
            rw [← PyData.list.inj e] at hx
            obtain ⟨z, _, rfl⟩ := List.mem_map.mp hx
            have h' : some (PyData.tuple [.str "at", .int z.1, .int z.2]) = some g := h
            cases h'
            refine ⟨⟨_, rfl⟩, gn_tuple fun d hd => ?_⟩
            simp only [List.mem_cons, List.not_mem_nil, or_false] at hd
            rcases hd with rfl | rfl | rfl
            · exact gn_str (by decide +kernel)
            · exact gn_int
            · exact gn_int
          · cases h
        | join a _ _ => rcases a with rfl | rfl | rfl <;> contradiction
      | false =>
        rw [if_neg Bool.false_ne_true] at h
        unfold noneG at h
        split at h
        · cases h
        · cases h
          refine ⟨⟨_, rfl⟩, gn_tuple fun d hd => ?_⟩
          simp only [List.mem_cons, List.not_mem_nil, or_false] at hd
          subst hd
          exact gn_str (by decide +kernel)
theorem gr_tupO {n : Nat} {q : PyData} {yes : Bool} {held : List Str} {m : Nat} (hc : cnt n q = some m) (hn : n ≤ 20) : TupO (grG yes n q held) := fun g e => ⟨(gr_good hc e).1, (gr_good hc e).2.1.mono (by omega)⟩
/-- a plain query is one at depth 1 -/
theorem pl_cnt {n m : Nat} {k : Str} {ps : List PyData} (h : QOf n (.tuple (.str k :: ps)) m) (h1 : ¬ k = "and") (h2 : ¬ k = "or") (h3 : ¬ k = "but") : cnt 1 (.tuple (.str k :: ps)) = some m ∧ m ≤ 12 := by
  cases h with
  | word hw => exact ⟨cnt_word hw, by decide⟩
  | phrase a b c => exact ⟨cnt_phrase a b c, by omega⟩
  | near a b c d => exact ⟨cnt_near a b c d, by decide⟩
  | join a _ _ => rcases a with rfl | rfl | rfl <;> contradiction
theorem w_eqNilG {K : PySem.W.Frag} {H : Hp} {Q : VK} {x y : V} {ds : List PyData} {n : Nat} (hx : Dp K H x (.list ds)) (hy : Dp K H y (.list [])) (g : GoodD (.list ds) n) (hn : n ≤ 64) (q : Q (.bl ds.isEmpty) H) : rEqD K x y H Q := by
  refine w_eqD hx hy (g.shaped hn) (by simp [SeqAt.shaped, PyData.canLay0, PyData.canLayAll0, PyData.depth, PyData.depthAll]) (k := ds.isEmpty) ?_ q
  cases ds <;> simp [PyData.eqv, PyData.eqvAll]
theorem w_noneIn {K : PySem.W.Frag} {H : Hp} {Q : VK} {y : V} {gs : List (Option PyData)} (hy : Dp K H y (.list (gs.map optD))) (h : ∀ o ∈ gs, TupO o) (q : Q (.bl (!gs.all (·.isSome))) H) : rInD K .non y H Q := by
  refine ⟨.none, _, .non, hy, (good_none (n := 31)).shaped (by decide), (good_opts h).shaped (by decide), ?_⟩
  rw [none_in h]
  exact q
theorem noL_gr {n : Nat} {q : PyData} {yes : Bool} {held : List Str} {m : Nat} (hc : cnt n q = some m) : noL (optD (grG yes n q held)) = true := by
  cases e : grG yes n q held with
  | none => rfl
  | some g => exact (gr_good hc e).2.2
theorem noLs_grs {n : Nat} {yes : Bool} {held : List Str} {ps : List PyData} (h : ∀ p ∈ ps, ∃ c, cnt n p = some c) : noLs (ps.map fun p => optD (grG yes n p held)) = true := noLs_all fun d hd => by
  obtain ⟨p, hp, rfl⟩ := List.mem_map.mp hd
  obtain ⟨c, hc⟩ := h p hp
  exact noL_gr hc
section
variable {n : Nat} {ps : List PyData} {held : List Str}
theorem grG_andY : grG true (n + 1) (.tuple (.str "and" :: ps)) held = allG (ps.map fun p => grG true n p held) := grG_all (.inl rfl) (by decide +kernel)
theorem grG_orN : grG false (n + 1) (.tuple (.str "or" :: ps)) held = allG (ps.map fun p => grG false n p held) := grG_all (.inr rfl) (by decide +kernel)
theorem grG_orY : grG true (n + 1) (.tuple (.str "or" :: ps)) held = fstG "some" 0 (ps.map fun p => grG true n p held) := (grG_one (.inr rfl) (by decide +kernel)).trans (by rw [if_pos rfl])
theorem grG_andN : grG false (n + 1) (.tuple (.str "and" :: ps)) held = fstG "lacks" 0 (ps.map fun p => grG false n p held) := (grG_one (.inl rfl) (by decide +kernel)).trans (by rw [if_neg Bool.false_ne_true])
end
theorem noLs_mem {ds : List PyData} (h : noLs ds = true) {d : PyData} (hd : d ∈ ds) : noL d = true := by
  induction ds with
  | nil => cases hd
  | cons e r ih =>
    rw [noLs, Bool.and_eq_true] at h
    rcases List.mem_cons.mp hd with rfl | hd
    · exact h.1
    · exact ih h.2 hd
theorem noLs_app {ds es : List PyData} (h : noLs ds = true) (g : noLs es = true) : noLs (ds ++ es) = true := noLs_all fun d hd => by
  rcases List.mem_append.mp hd with z | z
  · exact noLs_mem h z
  · exact noLs_mem g z
theorem sqt_lit {K : PySem.W.Frag} {D : Addr} {a b c : Str} {ta tb tc : Tok} {od : Option Addr} {n : Nat} {sl : Array (Option Value)} (h : K.lookup D = some ⟨.type "tuple", od, .seq (List.toArray [.str a ta, .str b tb, .str c tc]) n, sl⟩) (H : Hp) : SqT K H D [.str a, .str b, .str c] :=
  .inr ⟨_, _, _, h, rfl, rfl, by show 3 ≤ sizeLine; decide, .cons ⟨ta, rfl⟩ (.cons ⟨tb, rfl⟩ (.cons ⟨tc, rfl⟩ .nil))⟩
end Bw

/-! grounds are texts and whole numbers in tuples -/
namespace Bw
open PySem PySem.Spec PyProof.Rows L2
/-- texts and whole numbers in tuples -/
def TxI : Nat → PyData → Prop
  | 0, _ => False
  | n + 1, d => (∃ s, d = .str s ∧ PyData.strOk s = true) ∨ (∃ i, d = .int i) ∨ (∃ ds, d = .tuple ds ∧ ds.length ≤ 100 ∧ ∀ e ∈ ds, TxI n e)
theorem ti_str {n : Nat} {s : Str} (h : PyData.strOk s = true) : TxI (n + 1) (.str s) := .inl ⟨_, rfl, h⟩
theorem ti_cnt : ∀ {n : Nat} {d : PyData} {m : Nat}, cnt n d = some m → TxI (n + 1) d
  | 0, _, _, h => by cases h
  | n + 1, d, m, h => by
    cases cnt_inv h with
    | @word w hw =>
      refine .inr (.inr ⟨_, rfl, by simp, fun e he => ?_⟩)
      simp only [List.mem_cons, List.not_mem_nil, or_false] at he
      rcases he with rfl | rfl
      · exact ti_str (by decide +kernel)
      · exact ti_str (isW_strOk hw)
    | @phrase ws h1 h2 h3 =>
      refine .inr (.inr ⟨_, rfl, by simp; omega, fun e he => ?_⟩)
      rcases List.mem_cons.mp he with rfl | he
      · exact ti_str (by decide +kernel)
      · obtain ⟨x, hx, rfl⟩ := List.mem_map.mp he
        exact ti_str (isW_strOk (h3 x hx))
    | @near f a b h1 h2 h3 h4 =>
      refine .inr (.inr ⟨_, rfl, by simp, fun e he => ?_⟩)
      simp only [List.mem_cons, List.not_mem_nil, or_false] at he
      rcases he with rfl | rfl | rfl | rfl
      · exact ti_str (by decide +kernel)
      · exact .inr (.inl ⟨_, rfl⟩)
      · exact ti_str (isW_strOk h3)
      · exact ti_str (isW_strOk h4)
    | @join k ps _ a b c =>
      obtain ⟨j1, j2, j3⟩ := join_some c
      refine .inr (.inr ⟨_, rfl, by simp; omega, fun e he => ?_⟩)
      rcases List.mem_cons.mp he with rfl | he
      · exact ti_str (by rcases a with rfl | rfl | rfl <;> decide +kernel)
      · obtain ⟨c, hc⟩ := j3 e he
        exact ti_cnt hc
theorem ti_int {n : Nat} {i : Int} : TxI (n + 1) (.int i) := .inr (.inl ⟨_, rfl⟩)
theorem ti_tup {n : Nat} {ds : List PyData} (h : ∀ d ∈ ds, TxI n d) (hl : ds.length ≤ 100 := by simp) : TxI (n + 1) (.tuple ds) := .inr (.inr ⟨_, rfl, hl, h⟩)
theorem TxI.succ : ∀ {n : Nat} {d : PyData}, TxI n d → TxI (n + 1) d
  | 0, _, h => h.elim
  | n + 1, d, h => by
    rcases h with h | h | ⟨ds, h1, h2, h3⟩
    · exact .inl h
    · exact .inr (.inl h)
    · exact .inr (.inr ⟨ds, h1, h2, fun e he => (h3 e he).succ⟩)
theorem TxI.mono {n m : Nat} {d : PyData} (h : TxI n d) (l : n ≤ m) : TxI m d := by
  induction l with
  | refl => exact h
  | step _ ih => exact ih.succ
theorem ti_fst {w : Str} (hw : PyData.strOk w = true) {n : Nat} : ∀ {gs : List (Option PyData)} {i : Nat} {g : PyData}, (∀ o ∈ gs, ∀ g, o = some g → TxI (n + 1) g) → fstG w i gs = some g → (∃ ds, g = .tuple ds) ∧ TxI (n + 2) g
  | [], i, g, h, e => by cases e
  | some x :: r, i, g, h, e => by
    cases e
    refine ⟨⟨_, rfl⟩, ti_tup fun d hd => ?_⟩
    simp only [List.mem_cons, List.not_mem_nil, or_false] at hd
    rcases hd with rfl | rfl | rfl
    · exact ti_str hw
    · exact ti_int
    · exact h _ List.mem_cons_self _ rfl
  | none :: r, i, g, h, e => ti_fst hw (fun o ho => h o (List.mem_cons_of_mem _ ho)) (show fstG w (i + 1) r = some g from e)
theorem gr_ti : ∀ {n : Nat} {q : PyData} {yes : Bool} {held : List Str} {m : Nat} {g : PyData}, cnt n q = some m → grG yes n q held = some g → (∃ ds, g = .tuple ds) ∧ TxI (n + 2) g
  | 0, q, yes, held, m, g, hc, _ => by cases hc
  | n + 1, q, yes, held, m, g, hc, h => by
    have hqo := cnt_inv hc
    obtain ⟨k, ps, rfl⟩ := qof_head hqo
    rcases kindPl hqo with hk | ⟨n1, n2, n3⟩
    · obtain ⟨hps, hb, l2, l4⟩ := qof_join hqo hk
      by_cases hbut : k = "but"
      · subst hbut
        match ps, hb rfl with
        | [a, b], _ =>
          obtain ⟨ca, ha⟩ := hps a (by simp)
          obtain ⟨cb, hb'⟩ := hps b (by simp)
          cases yes with
          | true =>
            rw [grG_butY] at h
            split at h
            · rename_i x y e1 e2
              cases h
              refine ⟨⟨_, rfl⟩, ti_tup fun d hd => ?_⟩
              simp only [List.mem_cons, List.not_mem_nil, or_false] at hd
              rcases hd with rfl | rfl | rfl
              · exact ti_str (by decide +kernel)
              · exact (gr_ti ha e1).2
              · exact (gr_ti hb' e2).2
            · cases h
          | false =>
            rw [grG_butN] at h
            split at h
            · rename_i x e1
              cases h
              refine ⟨⟨_, rfl⟩, ti_tup fun d hd => ?_⟩
              simp only [List.mem_cons, List.not_mem_nil, or_false] at hd
              rcases hd with rfl | rfl
              · exact ti_str (by decide +kernel)
              · exact (gr_ti ha e1).2
            · obtain ⟨y, e2, rfl⟩ := Option.map_eq_some_iff.mp h
              refine ⟨⟨_, rfl⟩, ti_tup fun d hd => ?_⟩
              simp only [List.mem_cons, List.not_mem_nil, or_false] at hd
              rcases hd with rfl | rfl
              · exact ti_str (by decide +kernel)
              · exact (gr_ti hb' e2).2
      · have hk' : k = "and" ∨ k = "or" := by
          rcases hk with a | a | a
          · exact .inl a
          · exact .inr a
          · exact absurd a hbut
        have hin : ∀ o ∈ ps.map fun p => grG yes n p held, ∀ g, o = some g → TxI (n + 2) g := fun o ho g e => by
          obtain ⟨p, hp, rfl⟩ := List.mem_map.mp ho
          obtain ⟨c, hc'⟩ := hps p hp
          exact (gr_ti hc' e).2
        by_cases hy : decide (k = "and") = yes
        · rw [grG_all hk' hy] at h
          unfold allG at h
          split at h
          · cases h
            refine ⟨⟨_, rfl⟩, ti_tup (fun d hd => ?_) ?hlen⟩
            case hlen =>
              rw [List.length_cons]
              have z := List.length_filterMap_le id (ps.map fun p => grG yes n p held)
              rw [List.length_map] at z
              omega
            rcases List.mem_cons.mp hd with rfl | hd
            · exact ti_str (by decide +kernel)
            · obtain ⟨o, ho, e⟩ := List.mem_filterMap.mp hd
              exact hin o ho d e
          · cases h
        · rw [grG_one hk' hy] at h
          exact ti_fst (by cases yes <;> decide +kernel) hin h
    · rw [grG_pl n1 n2 n3] at h
      cases yes with
      | true =>
        rw [if_pos rfl] at h
        cases hqo with
        | word hw =>
          rw [plcD_word] at h
          unfold atG at h
          split at h
          · rename_i x r e
            rw [if_neg (by decide +kernel)] at h
            cases h
            refine ⟨⟨_, rfl⟩, ti_tup fun d hd => ?_⟩
            simp only [List.mem_cons, List.not_mem_nil, or_false] at hd
            rcases hd with rfl | rfl
            · exact ti_str (by decide +kernel)
            · have hx : d ∈ d :: r := List.mem_cons_self
              rw [← PyData.list.inj e] at hx
              obtain ⟨i, _, rfl⟩ := List.mem_map.mp hx
              exact ti_int
          · cases h
        | phrase a b c =>
          rw [plcD_phrase] at h
          unfold atG at h
          split at h
          · rename_i x r e
            rw [if_neg (by decide +kernel)] at h
            cases h
            refine ⟨⟨_, rfl⟩, ti_tup fun d hd => ?_⟩
            simp only [List.mem_cons, List.not_mem_nil, or_false] at hd
            rcases hd with rfl | rfl
            · exact ti_str (by decide +kernel)
            · have hx : d ∈ d :: r := List.mem_cons_self
              rw [← PyData.list.inj e] at hx
              obtain ⟨i, _, rfl⟩ := List.mem_map.mp hx
              exact ti_int
          · cases h
        | near a b c d =>
          rw [plcD_near] at h
          unfold atG at h
          split at h
          · rename_i x r e
            rw [if_pos rfl] at h
            have hx : x ∈ x :: r := List.mem_cons_self
            rw [← PyData.list.inj e] at hx
            obtain ⟨z, _, rfl⟩ := List.mem_map.mp hx
            have h' : some (PyData.tuple [.str "at", .int z.1, .int z.2]) = some g := h
            cases h'
            refine ⟨⟨_, rfl⟩, ti_tup fun d hd => ?_⟩
            simp only [List.mem_cons, List.not_mem_nil, or_false] at hd
            rcases hd with rfl | rfl | rfl
            · exact ti_str (by decide +kernel)
            · exact ti_int
            · exact ti_int
          · cases h
        | join a _ _ => rcases a with rfl | rfl | rfl <;> contradiction
      | false =>
        rw [if_neg Bool.false_ne_true] at h
        unfold noneG at h
        split at h
        · cases h
        · cases h
          refine ⟨⟨_, rfl⟩, ti_tup fun d hd => ?_⟩
          simp only [List.mem_cons, List.not_mem_nil, or_false] at hd
          subst hd
          exact ti_str (by decide +kernel)
end Bw

/-! exceptions whose contexts are a chain that ends (raised anywhere, also in an except suite) -/
namespace Bw
open PySem PySem.Spec PyProof.Rows L2 L2H HotX
/-! ### chains of contexts -/
inductive Chn (h : Heap) (N : Addr → Prop) : Value → Prop
  | non : Chn h N .none
  | ref {x : Addr} {o : Obj} {vs : Array Value} {c : Value} : h.get? x = some o → o.data = .fields vs → N x → vs[2]? = some c → Chn h N c → Chn h N (.ref x)
theorem Chn.keeps {h h' : Heap} {N : Addr → Prop} (k : ∀ b o, h.get? b = some o → h'.get? b = some o) : ∀ {c : Value}, Chn h N c → Chn h' N c
  | _, .non => .non
  | _, .ref a b n d e => .ref (k _ _ a) b n d (e.keeps k)
theorem Chn.imp {h : Heap} {N N' : Addr → Prop} (n : ∀ x o, h.get? x = some o → N x → N' x) : ∀ {c : Value}, Chn h N c → Chn h N' c
  | _, .non => .non
  | _, .ref a b m d e => .ref a b (n _ _ a m) d (e.imp n)
theorem Chn.both {h h' : Heap} {N N' : Addr → Prop} (k : ∀ b o vs, h.get? b = some o → o.data = .fields vs → N b → h'.get? b = some o ∧ N' b) : ∀ {c : Value}, Chn h N c → Chn h' N' c
  | _, .non => .non
  | _, .ref a b m d e => .ref (k _ _ _ a b m).1 b (k _ _ _ a b m).2 d (e.both k)
/-- from y to x along the contexts -/
inductive Way (h : Heap) : Addr → Addr → Prop
  | refl (x : Addr) : Way h x x
  | step {y z x : Addr} {o : Obj} {vs : Array Value} : h.get? y = some o → o.data = .fields vs → vs[2]? = some (.ref z) → Way h z x → Way h y x
theorem Way.snoc {h : Heap} {x z : Addr} {o : Obj} {vs : Array Value} (h1 : h.get? x = some o) (h2 : o.data = .fields vs) (h3 : vs[2]? = some (.ref z)) : ∀ {y : Addr}, Way h y x → Way h y z
  | _, .refl _ => .step h1 h2 h3 (.refl _)
  | _, .step a b c w => .step a b c (w.snoc h1 h2 h3)
section
variable {prog : Program} {w : World} {A : Around} {E : Value → Shared → Prop} {s : Shared}
theorem unchain_any {a : Addr} {c : Value} (C : Chn s.heap (fun x => x ≠ a) c) : ∀ {A : Around} {x y : Addr} {o : Obj} {vs : Array Value} {t : Bool} {R : Result → Shared → Prop}, s.heap.get? x = some o → o.data = .fields vs → vs[2]? = some c → Way s.heap y x → R (.ok (.ret .none)) s →
    codeAny (model prog w) A (.builtin "proto.unchain" ⟨[.ref a, .ref x, .ref y, .bool t], []⟩) R s := by
  induction C with
  | non =>
    intro A x y o vs t R h1 h2 h3 W q
    refine codeAny_builtin HotX.entry_unchain ?_
    show wpAny _ _ (field (.ref x) 2 >>= _) _ _ s
    refine wpAny_bind (wpAny_field h1 h2 h3 ?_)
    rw [if_pos (show (Value.none == Value.none) = true from rfl)]
    first
    | exact wpAny_bind (wpAny_pure (wpAny_pure q))
    | exact wpAny_pure q
  | @ref z oz vz cz g1 g2 g3 g4 C ih =>
    intro A x y o vs t R h1 h2 h3 W q
    refine codeAny_builtin HotX.entry_unchain ?_
    show wpAny _ _ (field (.ref x) 2 >>= _) _ _ s
    refine wpAny_bind (wpAny_field h1 h2 h3 ?_)
    have n1 : ¬ ((Value.ref z == Value.none) = true) := by simp
    have n2 : ¬ ((Value.ref z == Value.ref a) = true) := by
      simp
      exact g3
    rw [if_neg n1]
    first
    | rw [if_neg n2]
    | (refine wpAny_bind (wpAny_pure ?_); rw [if_neg n2])
    have go : ∀ (y' : Addr), Way s.heap y' z → wpAny (model prog w) (A.under (.builtin "proto.unchain" ⟨[.ref a, .ref x, .ref y, .bool t], []⟩)) (again (.builtin "proto.unchain" ⟨[.ref a, .ref z, .ref y', .bool !t], []⟩))
        (fun fin s' => match fin with | .done f => R (.ok f) s' | .again c' => c'.quiet = true ∧ codeAny (model prog w) A c' R s') (fun e s' => R (.error e) s') s := fun y' W' => by
      refine wpAny_pure ⟨Code.quiet_builtin _ (by decide +kernel), ?_⟩
      exact ih g1 g2 g4 W' q
    have W1 : Way s.heap y z := W.snoc h1 h2 h3
    by_cases hy : z = y
    · have e1 : (Value.ref z == Value.ref y) = true := by simp [hy]
      first
      | rw [if_pos e1]
      | (refine wpAny_bind (wpAny_pure ?_); rw [if_pos e1])
      first
      | exact wpAny_rule (wpAny_pure q)
      | exact wpAny_bind (wpAny_rule (wpAny_pure q))
      | exact wpAny_rule (wpAny_bind (wpAny_pure (wpAny_pure q)))
    · have e1 : ¬ ((Value.ref z == Value.ref y) = true) := by
        simp
        exact hy
      first
      | rw [if_neg e1]
      | (refine wpAny_bind (wpAny_pure ?_); rw [if_neg e1])
      cases t with
      | false =>
        first
        | (show wpAny _ _ (again _) _ _ _; exact go y W1)
        | (simp only [Bool.false_eq_true, if_false]; first | exact wpAny_bind (wpAny_pure (go y W1)) | exact go y W1)
        | exact wpAny_bind (wpAny_pure (go y W1))
      | true =>
        cases W with
        | refl _ =>
          simp only [if_true]
          refine wpAny_bind (wpAny_field h1 h2 h3 ?_)
          exact go z (.refl z)
        | @step _ z2 _ o2 v2 k1 k2 k3 W2 =>
          simp only [if_true]
          refine wpAny_bind (wpAny_field k1 k2 k3 ?_)
          exact go z2 (W2.snoc h1 h2 h3)
/-- the exception that is handled, the chain behind it -/
def HotL (A : Around) (x1 : Addr) (h : Heap) : Prop := A.handled = some (.ref x1) ∧ Chn h (fun _ => True) (.ref x1)
theorem raiseNewL {α : Type} {a x1 : Addr} {oe : Obj} {vs : Array Value} {Q : α → Shared → Prop} (hot : HotL A x1 s.heap) (hne : Chn s.heap (fun x => x ≠ a) (.ref x1)) (ha : s.heap.get? a = some oe) (da : oe.data = .fields vs) (hi : 2 < vs.size)
    (hE : E (.ref a) { s with heap := s.heap.update a (Obj.mapFields (·.setIfInBounds 2 (.ref x1))) }) : wpAny (model prog w) A (raiseNew (.ref a) : Sem α) Q E s := by
  obtain ⟨hh, _⟩ := hot
  cases hne with
  | @ref _ o1 vs1 c h1 d1 n1 c1 C =>
    unfold raiseNew
    refine wpAny_bind (wpAny_handled ?_)
    rw [hh]
    have hb : (Value.ref x1 != Value.ref a) = true := ref_bne n1
    have U : ∀ {Q : Value → Shared → Prop}, Q .none s → wpAny (model prog w) A (holding [Value.ref a] (runValue (.builtin "proto.unchain" ⟨[.ref a, .ref x1, .ref x1, .bool false], []⟩))) Q E s := fun q =>
      wpAny_holding (wpAny_runValue (unchain_any C h1 d1 c1 (.refl x1) q))
    first
    | (show wpAny _ _ (if (Value.ref x1 != Value.ref a) = true then _ else _) _ _ _
       rw [if_pos hb]
       first
       | exact wpAny_bind (U (wpAny_bind (chained ha da hi (wpAny_throw hE))))
       | exact wpAny_bind (wpAny_bind (U (chained ha da hi (wpAny_throw hE)))))
    | (refine wpAny_bind ?_
       show wpAny _ _ (if (Value.ref x1 != Value.ref a) = true then _ else _) _ _ _
       rw [if_pos hb]
       exact wpAny_bind (U (chained ha da hi (wpAny_throw hE))))
/-- a new object isn't on the chain -/
theorem chn_new {h h' : Heap} {a : Addr} {N : Addr → Prop} {c : Value} (C : Chn h N c) (k : ∀ b o, h.get? b = some o → h'.get? b = some o) (na : h.get? a = none) : Chn h' (fun x => x ≠ a) c :=
  C.both fun b o vs e _ _ => ⟨k b o e, fun z => by rw [z, na] at e; cases e⟩
end
/-! ### exceptions in the air, with their chains -/
/-- what is kept of the exception's object -/
def Zb (B : Heap) (H : Hp) (cls : Value) (d : Option Addr) : Obj → Prop := fun o => o.cls = cls ∧ o.dict = d ∧ ∀ vs : Array Value, o.data = .fields vs → ∃ c, vs[2]? = some c ∧ Chn B (fun x => H x = none) c
theorem Zb.zc {B : Heap} {H : Hp} {cls : Value} {d : Option Addr} {o : Obj} (h : Zb B H cls d o) : Zc cls d o := ⟨h.1, h.2.1⟩
theorem Zb.steady {B : Heap} {H : Hp} {cls : Value} {d : Option Addr} : PXN.Steady1 (Zb B H cls d) := fun o v h => ⟨PXN.steady_cls o v h.1, PXN.steady_dict o v h.2.1, by
  obtain ⟨c, d, dt, sl⟩ := o
  cases dt with
  | fields vs0 =>
    intro vs e
    have e2 : vs0.setIfInBounds 1 v = vs := Data.fields.inj e
    obtain ⟨k, hk, C⟩ := h.2.2 vs0 rfl
    refine ⟨k, ?_, C⟩
    rw [← e2]
    exact set_other (by decide) hk
  | _ =>
    intro vs e
    first
    | exact Data.noConfusion e
    | cases e⟩
def XEc (X : Cx) (W : WX) (u : Value) (s' : Shared) : Prop :=
  ∃ (a : Addr) (B : Heap) (sI : Shared) (pins : List (Addr × Obj)) (σ : L2.St) (H : Hp) (cls : Value) (d : Option Addr),
    u = .ref a ∧ Inv X pins σ H sI ∧ (∀ b o, sI.heap.get? b = some o → b ∉ frs X.stack → B.get? b = some o) ∧ sI.heap.UpToSlots s'.heap ∧
      Sky B X.stack a (Zb B H cls d) X.env.locals s'.heap ∧ H a = none ∧ s'.os = sI.os ∧ AllBare s'.gens ∧ W cls d σ H
def TakesC (X : Cx) (W : WX) : Prop := ∀ u s', XEc X W u s' → X.xe u s'
theorem TakesC.imp {X : Cx} {W W' : WX} (t : TakesC X W) (h : ∀ c d σ H, W' c d σ H → W c d σ H) : TakesC X W' := fun u s' ⟨a, B, sI, pins, σ, H, cls, d, e, I, nb, up, sky, na, os, ag, w⟩ =>
  t u s' ⟨a, B, sI, pins, σ, H, cls, d, e, I, nb, up, sky, na, os, ag, h _ _ _ _ w⟩
theorem heldZ_imp {h B : Heap} {l : List Env} {a L : Addr} {Z Z' : Obj → Prop} (z : ∀ o, Z o → Z' o) (x : HandSPX.HeldZ B l a Z L h) : HandSPX.HeldZ B l a Z' L h := ⟨x.1, x.2.1, x.2.2.1, tracedZ_imp z x.2.2.2⟩
theorem sky_imp {h B : Heap} {l : List Env} {a L : Addr} {Z Z' : Obj → Prop} (z : ∀ o, Z o → Z' o) (x : Sky B l a Z L h) : Sky B l a Z' L h := by
  rcases x with ⟨h1, h2, h3, oe, vs, h4, h5, h6⟩ | x | x
  · exact .inl ⟨h1, h2, h3, oe, vs, h4, z _ h5, h6⟩
  · exact .inr (.inl (flyingZ_imp z x))
  · exact .inr (.inr (heldZ_imp z x))
/-- what takes any exception takes these -/
theorem TakesC.of {X : Cx} {W : WX} (t : L2.Takes X W) : TakesC X W := fun u s' ⟨a, B, sI, pins, σ, H, cls, d, e, I, nb, up, sky, na, os, ag, w⟩ =>
  t u s' ⟨a, B, sI, pins, σ, H, cls, d, e, I, nb, up, sky_imp (fun _ z => z.zc) sky, na, os, ag, w⟩
def CXc (P : Program) (w : World) (outer : List Env) (H : Hp) (s : Shared) (E : XK) (u : Value) (s' : Shared) : Prop :=
  ∃ (a : Addr) (B : Heap) (H' : Hp) (cls : Value) (d : Option Addr), u = .ref a ∧ HandSPX.FlyingZ B outer a (Zb B H' cls d) s'.heap ∧ HOk P w H' B ∧ UB (frs outer) H H' s.heap B s'.heap ∧ H' a = none ∧ s'.os = s.os ∧ AllBare s'.gens ∧ E cls d H'
section
variable {X : Cx} {pins : List (Addr × Obj)} {σ : L2.St} {H : Hp} {sI s s' : Shared} {B : Heap} {W : WX} {E : XK}
theorem XEc.of_call (I : Inv X pins σ H s) (hW : ∀ cls d H', E cls d H' → W cls d σ H') {u : Value} (c : CXc X.prog X.w X.stack H s E u s') : XEc X W u s' := by
  obtain ⟨a, B, H', cls, d, rfl, fl, hok, ub, na, os, ag, hE⟩ := c
  obtain ⟨G, g1, g2⟩ := restrict s'.heap fun b => (B.get? b).isSome || decide (b ∈ frs X.stack)
  have st : B.StaysIn s'.heap := fl.1
  have gB : ∀ b o, B.get? b = some o → G.get? b = some o := fun b o e => by
    rw [g1 b (by simp [e])]
    exact st b o e
  have gF : ∀ b, b ∈ frs X.stack → G.get? b = s'.heap.get? b := fun b hb => g1 b (by simp [hb])
  have og : ∀ b o, G.get? b = some o → s'.heap.get? b = some o ∧ ((B.get? b).isSome = true ∨ b ∈ frs X.stack) := fun b o e => by
    cases q : ((B.get? b).isSome || decide (b ∈ frs X.stack)) with
    | false => rw [g2 b q] at e; cases e
    | true =>
      rw [g1 b q] at e
      exact ⟨e, by simpa [Bool.or_eq_true] using q⟩
  refine ⟨a, B, { s with heap := G, gens := s'.gens, drawn := s'.drawn, toks := s'.toks }, pins, σ, H', cls, d, rfl, ?_, fun b o e hb => ?_, Heap.UpToSlots.of_keeps fun b o e => (og b o e).1, .inr (.inl fl), na, os, ag, hW _ _ _ hE⟩
  · refine I.call (ch := []) ⟨fun b o e n hb _ => gB b o (ub.keep b o e n hb), fun b o e n hb _ => ?_, fun b o e n _ => ub.free b o e n, fun b o e _ => ?_, ub.tups, ub.frzs, ub.tbls⟩ (hok.kept gB) ag (fun _ z => nomatch z)
    · obtain ⟨sl, q⟩ := ub.slot b o e hb
      exact ⟨sl, by rw [gF b hb]; exact q⟩
    · by_cases hb : b ∈ frs X.stack
      · obtain ⟨sl, q⟩ := ub.slot b o e hb
        exact ⟨_, by rw [gF b hb]; exact q⟩
      · obtain ⟨o', q⟩ := ub.there b o e hb
        exact ⟨o', gB b o' q⟩
  · obtain ⟨e', h⟩ := og b o e
    rcases h with h | h
    · obtain ⟨o', q⟩ := Option.isSome_iff_exists.mp h
      have z := st b o' q
      rw [e'] at z; cases z
      exact q
    · exact absurd h hb
theorem chn_ground (I : Inv X pins σ H sI) {N : Addr → Prop} {c : Value} (C : Chn sI.heap N c) : Chn (PySem.W.hideAll sI.heap (frs X.stack)) N c :=
  C.both fun b o vs e d n => ⟨PySem.W.hideAll_get _ e fun hb => by
    obtain ⟨_, o', e', hd⟩ := I.stack.mem hb
    rw [e] at e'; cases e'
    exact hd _ d, n⟩
/-- a new exception is in our air -/
theorem XEc.new {a : Addr} {oe : Obj} {vs : Array Value} {cls : Value} {d : Option Addr} {c : Value} (I : Inv X pins σ H sI) (k : ∀ b o, sI.heap.get? b = some o → s'.heap.get? b = some o) (hne : sI.heap.get? a = none) (he : s'.heap.get? a = some oe)
    (hz : Zc cls d oe) (hd : oe.data = .fields vs) (h1 : vs[1]? = some .none) (h2 : vs[2]? = some c) (C : Chn sI.heap (fun x => H x = none) c) (na : H a = none) (os : s'.os = sI.os) (ag : AllBare s'.gens) (w : W cls d σ H) : XEc X W (.ref a) s' := by
  refine ⟨a, PySem.W.hideAll sI.heap (frs X.stack), sI, pins, σ, H, cls, d, rfl, I, fun b o e hb => PySem.W.hideAll_get _ e hb, Heap.UpToSlots.of_keeps k,
    .inl ⟨fun b o e => k b o (PySem.W.of_hideAll _ e), ?_, ?_, oe, vs, he, ⟨hz.1, hz.2, fun vs' e => ?_⟩, hd, h1⟩, na, os, ag, w⟩
  · cases q : (PySem.W.hideAll sI.heap (frs X.stack)).get? a with
    | none => rfl
    | some o =>
      have z := PySem.W.of_hideAll _ q
      rw [hne] at z; cases z
  · exact Heap.FunFrames.of_keeps (fun b o e _ => ⟨o, k b o e, rfl⟩) (funFrames_none I.stack fun b hb => PySem.W.hideAll_none _ hb)
  · rw [hd] at e
    cases e
    exact ⟨c, h2, chn_ground I C⟩
theorem XEc.leave (hs : X.stack = X.env :: X.outer) (hf : X.env.frame = some X.env.locals) (hex : X.ex = []) {E₁ : Value → Shared → Prop} (hW : ∀ cls d σ H, W cls d σ H → E cls d H) {u : Value} (x : XEc X W u s') :
    wpAny (model X.prog X.w) X.A (leaving X.env u) (fun _ s'' => CXc X.prog X.w X.outer X.H_0 X.s_0 E u s'') E₁ s' := by
  obtain ⟨a, B, sI, pins, σ, H, cls, d, rfl, I, nb, up, sky, na, os, ag, w⟩ := x
  have hfr : X.A.frames = some (X.env :: X.outer) := by rw [I.ok.frames, hs]
  have nst : ∀ b o, X.s_0.heap.get? b = some o → b ∉ X.fs → b ∉ frs X.stack := fun b o e hb hm => by
    rcases List.mem_cons.mp (I.stkSub b hm) with z | z
    · have h1 := Heap.lt_size e
      have h2 := I.ok.above
      rw [z] at h1
      exact absurd (Nat.lt_of_lt_of_le h1 h2) (Nat.lt_irrefl _)
    · exact hb z
  have hex' : ∀ b, b ∉ X.ex := fun b hb => by rw [hex] at hb; cases hb
  have hokB := I.inGround nb
  have fin : ∀ h', HandSPX.FlyingZ B X.outer a (Zb B H cls d) h' → s'.heap.UpToSlots h' → CXc X.prog X.w X.outer X.H_0 X.s_0 E (.ref a) { s' with heap := h' } := fun h' fl up' => by
    refine ⟨a, B, H, cls, d, rfl, fl, hokB, ⟨fun b o e n hb => nb b o (I.base.keep b o e n hb (hex' b)) (nst b o e hb), fun b o e hb => ?_, fun b o e n => I.base.free b o e n (hex' b), fun b o e hb => ?_, I.base.tups, I.base.frzs, I.base.tbls⟩,
      na, os.trans I.os, ag, hW _ _ _ _ w⟩
    · obtain ⟨_, o₀, e₀, hnf⟩ := I.ok.funs.mem hb
      rw [e] at e₀; cases e₀
      obtain ⟨sl, e1⟩ := I.base.slot b o e (I.ok.frf b hb) hb (hex' b)
      obtain ⟨sl2, e2⟩ := up b _ e1 hnf
      obtain ⟨sl3, e3⟩ := up' b _ e2 hnf
      exact ⟨sl3, e3⟩
    · obtain ⟨o', e1⟩ := I.base.there b o e (hex' b)
      exact ⟨o', nb b o' e1 (nst b o e hb)⟩
  rw [hs] at sky
  rcases sky with ⟨hB, hn, hl, oe, vs, he, hz, hd, h1⟩ | fl | hd
  · exact PXN.leaving_firstZ Zb.steady hfr hl hf he hB hn hd h1 hz fin
  · exact PXN.leaves_onZ Zb.steady hfr hf fl fin
  · exact HandSPX.leaves_heldZ hf hd fin
theorem takesC_of (hs : X.stack = X.env :: X.outer) (hf : X.env.frame = some X.env.locals) (hex : X.ex = []) {E₁ : Value → Shared → Prop}
    (hx : X.xe = fun e s' => wpAny (model X.prog X.w) X.A (leaving X.env e) (fun _ s'' => CXc X.prog X.w X.outer X.H_0 X.s_0 E e s'') E₁ s') : TakesC X (fun cls d _ H => E cls d H) := fun u s' x => by
  rw [hx]
  exact XEc.leave (W := fun cls d _ H => E cls d H) (E := E) hs hf hex (fun _ _ _ _ h => h) x
theorem passesC_call (tk : TakesC X W) (hW : ∀ cls d σ H, E cls d H → W cls d σ H) : ∀ (pins : List (Addr × Obj)) (σ : L2.St) (H : Hp) (s : Shared) (e : Value) (s' : Shared), Inv X pins σ H s → CXc X.prog X.w X.stack H s E e s' → X.xe e s' :=
  fun _ σ _ _ e s' I c => tk e s' (XEc.of_call I (fun cls d H' h => hW cls d σ H' h) c)
end
theorem CXc.cx {P : Program} {w : World} {outer : List Env} {H : Hp} {s : Shared} {E : XK} {u : Value} {s' : Shared} (h : CXc P w outer H s E u s') : L2.CX P w outer H s E u s' := by
  obtain ⟨a, B, H', cls, d, e, fl, r⟩ := h
  exact ⟨a, B, H', cls, d, e, flyingZ_imp (fun _ z => z.zc) fl, r⟩
/-! ### an except suite's context -/
/-- the chain stands among the pins -/
inductive ChP (pn : List (Addr × Obj)) : Value → Prop
  | non : ChP pn .none
  | ref {q : Addr × Obj} {vs : Array Value} {c : Value} : q ∈ pn → q.2.data = .fields vs → vs[2]? = some c → ChP pn c → ChP pn (.ref q.1)
theorem ChP.mono {pn pn' : List (Addr × Obj)} (k : ∀ q ∈ pn, q ∈ pn') : ∀ {c : Value}, ChP pn c → ChP pn' c
  | _, .non => .non
  | _, .ref a b d e => .ref (k _ a) b d (e.mono k)
/-- p is handled, its chain ends -/
structure HotP (A : Around) (pn : List (Addr × Obj)) (p : Addr × Obj) : Prop where
  mem : p ∈ pn
  hd : A.handled = some (.ref p.1)
  ch : ChP pn (.ref p.1)
def HotD (X : Cx) : Prop := ∃ p : Addr × Obj, HotP X.A X.pn p
theorem ChP.at {X : Cx} {pins : List (Addr × Obj)} {σ : L2.St} {H : Hp} {s : Shared} (I : Inv X pins σ H s) : ∀ {c : Value}, ChP X.pn c → Chn s.heap (fun x => H x = none) c
  | _, .non => .non
  | _, .ref a b d e => .ref (I.pin _ (List.mem_append_left _ a)).1 b (I.pin _ (List.mem_append_left _ a)).2.1 d (e.at I)
theorem HotD.at {X : Cx} {pins : List (Addr × Obj)} {σ : L2.St} {H : Hp} {s : Shared} (c : HotD X) (I : Inv X pins σ H s) : ∃ x1, X.A.handled = some (.ref x1) ∧ Chn s.heap (fun x => H x = none) (.ref x1) := by
  obtain ⟨p, h⟩ := c
  exact ⟨p.1, h.hd, h.ch.at I⟩
theorem Chn.pins {h : Heap} {N : Addr → Prop} : ∀ {c : Value}, Chn h N c → ∃ pl : List (Addr × Obj), (∀ q ∈ pl, h.get? q.1 = some q.2 ∧ N q.1 ∧ ∃ vs, q.2.data = .fields vs) ∧ ChP pl c
  | _, .non => ⟨[], fun q hq => absurd hq (by simp), .non⟩
  | _, @Chn.ref _ _ x o vs c a b n d e => by
    obtain ⟨pl, h1, h2⟩ := e.pins
    refine ⟨(x, o) :: pl, fun q hq => ?_, .ref (q := (x, o)) List.mem_cons_self b d (h2.mono fun q hq => List.mem_cons_of_mem _ hq)⟩
    rcases List.mem_cons.mp hq with rfl | hq
    · exact ⟨a, n, _, b⟩
    · exact h1 q hq
/-! ### raise -/
section
variable {X : Cx} {W : WX} {e : Expr} {t : L2.St → Hp → XK → Prop} {pos : Pos}
theorem ps_rse (hc : X.calm = true) (tk : TakesC X W) (he : L2N.PMk X e t) : PS X (.Raise (some e) none pos) (fun _ σ H => t σ H fun cls d H' => W cls d σ H') := by
  refine ⟨fun pins s σ H D I h => ?_⟩
  show wpAny _ _ (do standAt pos; raiseStmt X.env (some (do let v ← eval e X.env; standAt pos; pure v)) none) _ _ _
  refine wpAny_bind (wpAny_standAt (raise_made (I.ok.hd hc) (wpAny_bind (wpAny_mono (he pins s σ H _ I h) (fun u s1 hu => wpAny_bind (wpAny_standAt (wpAny_pure ?_))) fun _ _ x => x))))
  obtain ⟨a, oe, vs, sI, H', cls, d, rfl, J, k, hne, ha, hz, hd, h1, na, os, ag, r, q⟩ := hu
  obtain ⟨r1, r2⟩ := r (model X.prog X.w) s1.heap (J.kIn.keeps k)
  exact ⟨a, oe, vs, cls, rfl, ha, hz.1, hd, h1, r1, r2, tk _ _ (XEc.new J k hne ha hz.zc hd h1 (hz.2.2 vs hd) .non na os ag q)⟩
end
end Bw

/-! list comprehensions over a text while an exception is handled -/
namespace Bw
open PySem PySem.Spec PyProof.Rows L2 L2H HotX
section
variable {prog : Program} {w : World} {A : Around} {E : Value → Shared → Prop} {s : Shared}
/-- the StopIteration at an iterator's end, the handled exception put behind it -/
theorem stop_hot {x1 : Addr} (hot : HotL A x1 s.heap)
    (hE : ∀ h' e, (∀ b o, s.heap.get? b = some o → h'.get? b = some o) → (∃ o, h'.get? e = some o ∧ o.cls = .type "StopIteration") → E (.ref e) { s with heap := h' }) {Q : Fin → Shared → Prop} :
    wpAny (model prog w) A (do raiseNew (← newExc (.type "StopIteration") []) : Sem Fin) Q E s := by
  obtain ⟨hh, C⟩ := hot
  refine wpAny_bind ?_
  simp only [newExc, newTuple]
  refine wpAny_bind (wpAny_newObj_type ?_ (by size_fits))
  refine wpAny_bind (m := firstArgMember _ _) (wpAny_of_eq (a := Value.none) (by first | rfl | (simp only [firstArgMember]; rfl)) ?_)
  refine wpAny_newObj_type ?_ (by size_fits)
  refine raiseNewL ⟨hh, C.keeps fun b o e => Heap.get?_push_of_some _ (Heap.get?_push_of_some _ e)⟩ (chn_new C (fun b o e => Heap.get?_push_of_some _ (Heap.get?_push_of_some _ e)) ?_) (Heap.get?_push_size _ rfl) rfl (by first | (simp; done) | (simp; omega) | (simp only [Array.size_append]; simp; omega)) ?_
  · cases q : s.heap.get? _ with
    | none => rfl
    | some o =>
      have z : (s.heap.push _).objs.size < s.heap.objs.size := Heap.lt_size q
      rw [Heap.size_push] at z
      exact absurd z (by omega)
  refine hE _ _ (fun b o e => ?_) ⟨_, Heap.get?_update_self _ (Heap.get?_push_size _ rfl) rfl, rfl⟩
  rw [Heap.get?_update_other _ _ (Nat.ne_of_gt (Heap.lt_size (Heap.get?_push_of_some _ e)))]
  exact Heap.get?_push_of_some _ (Heap.get?_push_of_some _ e)
theorem chn_iter {h : Heap} {N : Addr → Prop} {it : Addr} {ty : String} {x : Str} {t : Tok} {i : Nat} (hit : h.IsStrIter it ty x t i) : ∀ {c : Value}, Chn h N c → Chn h (fun y => N y ∧ y ≠ it) c
  | _, .non => .non
  | _, .ref a b n d e => .ref a b ⟨n, fun z => by
      obtain ⟨o, ho, hc, hd⟩ := hit
      rw [z, ho] at a
      cases a
      rw [hd] at b
      cases b
      simp at d⟩ d (chn_iter hit e)
theorem ascii_end_hot {it x1 : Addr} {x : Str} {t : Tok} {i : Nat} {Q : Option Value → Shared → Prop} (hot : HotL A x1 s.heap)
    (hit : s.heap.IsStrIter it "str_ascii_iterator" x t i) (hx : x.cps[i]? = none)
    (hQ : ∀ h', Heap.ExtBut it s.heap h' → Q none { s with heap := h' }) : wpAny (model prog w) A (pyNext (.ref it)) Q E s := by
  obtain ⟨o, ho, hc, hd⟩ := id hit
  unfold pyNext
  refine wpAny_bind (wpAny_attempt (wpAny_callSpecial?_slot (name := Str.ofString "__next__") hit.typeIs F.slot_str_ascii_iterator_next
    (wpAny_call_entry F.slot_str_ascii_iterator_next hit.typeIs F.entry_str_ascii_iterator_next ?_ (F.args_str_ascii_iterator_next_1 _))))
  show wpAny _ _ (field (.ref it) 0 >>= _) _ _ s
  refine wpAny_bind (wpAny_field ho hd (x := .str x t) rfl ?_)
  show wpAny _ _ (field (.ref it) 1 >>= _) _ _ s
  refine wpAny_bind (wpAny_field ho hd (x := .int i 0) rfl ?_)
  simp only [Int.toNat_natCast, hx]
  refine wpAny_bind (wpAny_rule (wpAny_bind (wpAny_setField ho hd (by simp) (wpAny_bind (wpAny_letGo ?_)))))
  obtain ⟨hh, C⟩ := hot
  refine stop_hot (x1 := x1) (by refine ⟨hh, ?_⟩; exact (chn_iter hit C).both fun b o vs e _ n => ⟨(Heap.get?_update_other _ _ (Ne.symm n.2)).trans e, trivial⟩) (fun h' e hk he => ?_)
  obtain ⟨oe, hoe, hce⟩ := he
  refine wpAny_bind (wpAny_isInstance (T := "StopIteration") (b := true) ⟨oe, hoe, hce⟩ isSubtype_stop ?_)
  refine wpAny_pure (hQ _ fun b o' nb e => hk _ _ ?_)
  exact (Heap.get?_update_other _ _ (Ne.symm nb)).trans e
theorem wide_end_hot {it x1 : Addr} {x : Str} {t : Tok} {i : Nat} {Q : Option Value → Shared → Prop} (hot : HotL A x1 s.heap)
    (hit : s.heap.IsStrIter it "str_iterator" x t i) (hx : x.cps[i]? = none)
    (hQ : ∀ h', Heap.ExtBut it s.heap h' → Q none { s with heap := h' }) : wpAny (model prog w) A (pyNext (.ref it)) Q E s := by
  obtain ⟨o, ho, hc, hd⟩ := id hit
  unfold pyNext
  refine wpAny_bind (wpAny_attempt (wpAny_callSpecial?_slot (name := Str.ofString "__next__") hit.typeIs F.slot_str_iterator_next
    (wpAny_call_entry F.slot_str_iterator_next hit.typeIs F.entry_str_iterator_next ?_ (F.args_str_iterator_next_1 _))))
  show wpAny _ _ (field (.ref it) 0 >>= _) _ _ s
  refine wpAny_bind (wpAny_field ho hd (x := .str x t) rfl ?_)
  show wpAny _ _ (field (.ref it) 1 >>= _) _ _ s
  refine wpAny_bind (wpAny_field ho hd (x := .int i 0) rfl ?_)
  simp only [Int.toNat_natCast, hx]
  refine wpAny_bind (wpAny_rule (wpAny_bind (wpAny_setField ho hd (by simp) (wpAny_bind (wpAny_letGo ?_)))))
  obtain ⟨hh, C⟩ := hot
  refine stop_hot (x1 := x1) (by refine ⟨hh, ?_⟩; exact (chn_iter hit C).both fun b o vs e _ n => ⟨(Heap.get?_update_other _ _ (Ne.symm n.2)).trans e, trivial⟩) (fun h' e hk he => ?_)
  obtain ⟨oe, hoe, hce⟩ := he
  refine wpAny_bind (wpAny_isInstance (T := "StopIteration") (b := true) ⟨oe, hoe, hce⟩ isSubtype_stop ?_)
  refine wpAny_pure (hQ _ fun b o' nb e => hk _ _ ?_)
  exact (Heap.get?_update_other _ _ (Ne.symm nb)).trans e
end
/-! ### walks that end while an exception is handled -/
structure TurnK (P : Program) (w : World) (K : PySem.W.Frag) (tg : Expr) (J : It) (fp : List Addr) (it : Addr) (tn : Nat → Heap → Prop) : Prop where
  mem : it ∈ fp
  obj : ∀ i h, tn i h → ∀ b ∈ fp, ∃ o, h.get? b = some o ∧ ∀ v, o.data ≠ .cell v
  keep : ∀ i h h', tn i h → (∀ b ∈ fp, ∀ o, h.get? b = some o → h'.get? b = some o) → tn i h'
  item : ∀ (X : Cx), X.prog = P → X.w = w → X.K = K → ∀ (i : Nat) (pins : List (Addr × Obj)) (s : Shared) (σ : L2.St) (H : Hp) (E : Value → Shared → Prop), Inv X pins σ H s → (∀ b ∈ fp, FpOk X pins H b) → tn i s.heap → J.go i H →
    wpAny (model P w) X.A (pyNext (.ref it)) (fun r s1 => ∃ u, r = some u ∧
      wpAny (model P w) X.A (letOwnedTupleGo tg (.ref it) u) (fun _ s2 => ∃ x H', Inv X pins σ H' s2 ∧ RelV x u ∧ J.yld i H x H' ∧ tn (i + 1) s2.heap ∧ ∀ b ∈ fp, H' b = none) E s1) E s
  done : ∀ (X : Cx), X.prog = P → X.w = w → X.K = K → ∀ (i : Nat) (pins : List (Addr × Obj)) (s : Shared) (σ : L2.St) (H : Hp) (E : Value → Shared → Prop), (∃ x1, HotL X.A x1 s.heap) → Inv X pins σ H s → (∀ b ∈ fp, FpOk X pins H b) → tn i s.heap → J.stop i H →
    wpAny (model P w) X.A (pyNext (.ref it)) (fun r s1 => r = none ∧ Inv X pins σ H s1) E s
  self : ∀ (A : Around) (i : Nat) (s : Shared) (Q : Value → Shared → Prop) (E : Value → Shared → Prop), tn i s.heap → Q (.ref it) s → wpAny (model P w) A (pyIter (.ref it)) Q E s
theorem turn_strK {P : Program} {w : World} {K : PySem.W.Frag} {tg : Expr} (it : Addr) (x : Str) (t : Tok) (ty : String) (hty : ty = "str_ascii_iterator" ∨ ty = "str_iterator") :
    TurnK P w K tg (Its x) [it] it (fun i h => h.IsStrIter it ty x t i) where
  mem := by simp
  obj := fun i h st b hb => by
    have e : b = it := by simpa using hb
    subst e
    obtain ⟨o, e, c, d⟩ := st
    exact ⟨o, e, fun v z => by rw [d] at z; cases z⟩
  keep := fun i h h' st k => let ⟨o, ho, r⟩ := st; ⟨o, k it (by simp) o ho, r⟩
  item := by
    intro X hP hw hK i pins s σ H E I hf st hg
    subst hP hw hK
    obtain ⟨f0, f1, f2, f3, f4, f5⟩ := hf it (by simp)
    have hlt : i < x.cps.size := hg
    have hx : x.cps[i]? = some x.cps[i] := Array.getElem?_eq_getElem hlt
    have hno : ["enumerate", "zip", "dict_itemiterator", "dict_reverseitemiterator", "odict_iterator", "itertools.zip_longest", "itertools.pairwise"].contains ty = false := by
      rcases hty with e | e
      · rw [e]; decide
      · rw [e]; decide
    have fin : ∀ h', h'.IsStrIter it ty x t (i + 1) → Heap.SameBut it s.heap h' → ∃ u, some (Value.str ⟨#[x.cps[i]]⟩ s.toks) = some u ∧
        wpAny (model X.prog X.w) X.A (letOwnedTupleGo tg (.ref it) u) (fun _ s2 => ∃ y H', Inv X pins σ H' s2 ∧ RelV y u ∧ (Its x).yld i H y H' ∧ s2.heap.IsStrIter it ty x t (i + 1) ∧ ∀ b ∈ [it], H' b = none) E { s with heap := h', toks := s.toks + 1 } := fun h' st' sb => by
      have I1 : Inv X pins σ H { s with heap := h', toks := s.toks + 1 } := I.turned (fun b o hb e => (sb.2 b hb).trans e) f0 f1 f3 f4 f5
      obtain ⟨oi, e, cc, dd⟩ := id st'
      exact ⟨_, rfl, go_of (s := { s with heap := h', toks := s.toks + 1 }) e cc dd hno ⟨.str ⟨#[x.cps[i]]⟩, H, I1, ⟨s.toks, rfl⟩, ⟨rfl, _, hx, rfl⟩, st', fun b hb => (hf b hb).1⟩⟩
    rcases hty with e | e
    · subst e
      exact wpAny_pyNext_ascii_item st hx fun h' st' sb => fin h' st' sb
    · subst e
      exact wpAny_pyNext_wide_item st hx fun h' st' sb => fin h' st' sb
  done := by
    intro X hP hw hK i pins s σ H E hot I hf st hg
    subst hP hw hK
    obtain ⟨f0, f1, f2, f3, f4, f5⟩ := hf it (by simp)
    obtain ⟨x1, hot⟩ := hot
    have hx : x.cps[i]? = none := Array.getElem?_eq_none hg
    rcases hty with e | e
    · rw [e] at st
      exact ascii_end_hot hot st hx fun h' eb => ⟨rfl, I.turned (t' := s.toks) (fun b o hb e => eb b o hb e) f0 f1 f3 f4 f5⟩
    · rw [e] at st
      exact wide_end_hot hot st hx fun h' eb => ⟨rfl, I.turned (t' := s.toks) (fun b o hb e => eb b o hb e) f0 f1 f3 f4 f5⟩
  self := fun A i s Q E st h => by
    rcases hty with e | e
    · rw [e] at st; exact wpAny_pyIter_striter_ascii st h
    · rw [e] at st; exact wpAny_pyIter_striter_wide st h
def PIEK (X : Cx) (pins : List (Addr × Obj)) (σ : L2.St) (tg : Expr) (R : It → Hp → Prop) (itv : Value) (s2 : Shared) : Prop :=
  ∃ (it : Addr) (fp : List Addr) (tn : Nat → Heap → Prop) (J : It) (H' : Hp), itv = .ref it ∧ Inv X pins σ H' s2 ∧ TurnK X.prog X.w X.K tg J fp it tn ∧ tn 0 s2.heap ∧ (∀ b ∈ fp, FpOk X pins H' b) ∧ R J H'
structure PIK (X : Cx) (tg iter : Expr) (wi : TI) : Prop where
  run : ∀ (pins : List (Addr × Obj)) (s : Shared) (σ : L2.St) (H : Hp) (R : It → Hp → Prop), Inv X pins σ H s → wi σ H R →
    wpAny (model X.prog X.w) X.A (eval iter X.env) (fun v s1 => wpAny (model X.prog X.w) X.A (pyIter v) (PIEK X pins σ tg R) X.xe s1) X.xe s
theorem pi_oneK {X : Cx} {tg : Expr} {pins : List (Addr × Obj)} {σ : L2.St} {H : Hp} {s : Shared} {R : It → Hp → Prop} {J : It} {tn : Nat → Heap → Prop} {tk : Nat} (I : Inv X pins σ H s) (o : Obj)
    (T : TurnK X.prog X.w X.K tg J [s.heap.objs.size] s.heap.objs.size tn) (st : tn 0 (s.heap.push o)) (q : R J H) : PIEK X pins σ tg R (.ref s.heap.objs.size) { s with heap := s.heap.push o, toks := tk } := by
  refine ⟨s.heap.objs.size, [s.heap.objs.size], tn, J, H, rfl, I.kept fun b ob e => Heap.get?_push_of_some _ e, T, st, fun b hb => ?_, q⟩
  have e : b = s.heap.objs.size := by simpa using hb
  subst e
  exact I.fpOk (Nat.le_refl _) (I.hok.fresh (Nat.le_refl _))
theorem pi_strK {X : Cx} {tg e : Expr} {te : TE} (he : PE X e te) : PIK X tg e (iStr te) := by
  refine ⟨fun pins s σ H R I h => ?_⟩
  refine thn (he.run pins s σ H _ I h) fun v s1 ⟨y, H1, I1, r1, x, ex, q⟩ => ?_
  subst ex
  obtain ⟨t, rfl⟩ := r1
  cases ha : x.cps.all (· < 128)
  · exact wpAny_pyIter_wide ha (pi_oneK (tk := s1.toks) I1 _ (turn_strK _ x t "str_iterator" (.inr rfl)) ⟨_, Heap.get?_push_size _ rfl, rfl, rfl⟩ q)
  · exact wpAny_pyIter_ascii ha (pi_oneK (tk := s1.toks) I1 _ (turn_strK _ x t "str_ascii_iterator" (.inl rfl)) ⟨_, Heap.get?_push_size _ rfl, rfl, rfl⟩ q)
section
variable {X : Cx}
/-- as the library's lc_core, the walk's end while an exception is handled -/
theorem lc_coreK {pins : List (Addr × Obj)} {s : Shared} {σ : L2.St} {H : Hp} {Q : VK} {elt tg iter : Expr} {ifs : List Expr} {scope : Scope} {own : List (Str × Nat)} {pos pos' : Pos} {wi : TI} {g : TG} {tt : TT} {te : TE} {use : Option (Value → Sem Unit)} {Qf : Value → Shared → Prop}
    (hc : HotD X) (hN : X.N.Nodup) (I : Inv X pins σ H s) (hi : PIK X tg iter wi) (ok : BlkOk X.N X.env.scope scope own)
    (hg : ∀ (s : Shared) (H : Hp) (C : Addr) (cl : List (Str × Addr)) (fp : List Addr), PG (X.blk s H scope (compEnvC scope cl C X.env) fp) tg g) (ht : ∀ (s : Shared) (H : Hp) (C : Addr) (cl : List (Str × Addr)) (fp : List Addr), PTs (X.blk s H scope (compEnvC scope cl C X.env) fp) ifs tt)
    (he : ∀ (s : Shared) (H : Hp) (C : Addr) (cl : List (Str × Addr)) (fp : List Addr), PE (X.blk s H scope (compEnvC scope cl C X.env) fp) elt te) (hs : ∀ x, foldedSetIterable iter X.env x = pure x)
    (h : tLc wi g tt te (own.map (·.2)) σ H Q)
    (hRR : ∀ D C s' m H', Inv X pins σ H' s' → Q (.ref D) H' → s'.heap.Ns C m → FpOk X pins H' C → compPost (model X.prog X.w) X.A X.xe use Qf (.ref D) C (.ok .next) s') :
    wpAny (model X.prog X.w) X.A (comprehension (.ListComp elt [⟨tg, iter, ifs, 0⟩] scope pos) scope X.env pos' (newList []) false (eval iter X.env) use) Qf X.xe s := by
  have hfree : ∀ y ∈ scope.names, y.2 = .free → ∃ c, X.env.cells.lookup y.1 = some c := fun y hy e => by
    rcases ok.free y hy e with k | k
    · exact I.ok.has _ (.inl k)
    · exact I.ok.has _ (.inr k)
  refine wpAny_comprehension_free (use := use) rfl hs (closure_ok hfree) ok.kind (fun y hy e => by rw [ok.uniq y hy, e])
    (thn (hi.run pins s σ H _ I h) fun xv s1 hx => thn hx fun itv s2 h2 => ?_)
  obtain ⟨it, fp, tn, J, H2, e, I2, T, st2, f2, q⟩ := h2
  subst e
  refine wpAny_newObj_type (newEnv_comp ?_) (by show 0 ≤ sizeLine; decide)
  generalize hD : s2.heap.objs.size = D
  have hDn : H2 D = none := I2.hok.fresh (Nat.le_of_eq hD)
  obtain ⟨W, ⟨m0, w0⟩, turn⟩ := q D hDn
  generalize hs3 : ({ s2 with heap := s2.heap.push { cls := .type "list", data := .seq ([] : List Value).toArray } } : Shared) = s3
  have I3 : Inv X pins σ (upd H2 D (.lst [])) s3 := by
    rw [← hs3]
    refine I2.laid (t' := s2.toks) (fun b o e => Heap.get?_push_of_some _ e) (Nat.le_of_eq hD) ⟨Nat.zero_le _, [], 0, .nil, ?_⟩
    rw [← hD]
    exact Heap.get?_push_size _ rfl
  have h3 : s3.heap = s2.heap.push { cls := .type "list", data := .seq ([] : List Value).toArray } := by rw [← hs3]
  have sz : ∀ b ∈ fp, b < s2.heap.objs.size := fun b hb => by
    obtain ⟨o, e, _⟩ := T.obj _ _ st2 b hb
    exact Heap.lt_size e
  have f3 : ∀ b ∈ fp, FpOk X pins (upd H2 D (.lst [])) b ∧ b < s3.heap.objs.size := fun b hb => by
    have hlt := sz b hb
    refine ⟨⟨?_, (f2 b hb).2⟩, by rw [h3, Heap.size_push]; exact Nat.lt_succ_of_lt hlt⟩
    rw [upd_ne (by rw [← hD]; exact Nat.ne_of_lt hlt)]
    exact (f2 b hb).1
  have st3 : tn 0 s3.heap := T.keep _ _ _ st2 fun b _ o e => by rw [h3]; exact Heap.get?_push_of_some _ e
  have I4 := block_start I3 ok hN f3
  have pg := hg s3 (upd H2 D (.lst [])) s3.heap.objs.size (cellsFrom (s3.heap.objs.size + 1) scope.names (cloFrom X.env.cells scope.names [])) fp
  have pt := ht s3 (upd H2 D (.lst [])) s3.heap.objs.size (cellsFrom (s3.heap.objs.size + 1) scope.names (cloFrom X.env.cells scope.names [])) fp
  have pe := he s3 (upd H2 D (.lst [])) s3.heap.objs.size (cellsFrom (s3.heap.objs.size + 1) scope.names (cloFrom X.env.cells scope.names [])) fp
  show codeAny _ _ (.compStart (.ListComp elt [⟨tg, iter, ifs, 0⟩] scope pos) 0 (.ref it) (.ref D) (compEnvC scope (cellsFrom (s3.heap.objs.size + 1) scope.names (cloFrom X.env.cells scope.names [])) s3.heap.objs.size X.env)) (compPost (model X.prog X.w) X.A X.xe use Qf (.ref D) s3.heap.objs.size) { s3 with heap := pushCells (s3.heap.push { cls := .type "dict", data := .dict #[] }) scope.names }
  have nfp : ∀ b ∈ fp, (upd H2 D (.lst [])) b = none := fun b hb => (f3 b hb).1.1
  generalize hce : compEnvC scope (cellsFrom (s3.heap.objs.size + 1) scope.names (cloFrom X.env.cells scope.names [])) s3.heap.objs.size X.env = ce at I4 pg pt pe ⊢
  have cL : ce.locals = s3.heap.objs.size := by subst hce; rfl
  generalize hH3 : upd H2 D (.lst []) = H3 at I3 I4 pg pt pe w0 nfp f3
  generalize hs4 : ({ s3 with heap := pushCells (s3.heap.push { cls := .type "dict", data := .dict #[] }) scope.names } : Shared) = s4 at I4 ⊢
  have st4 : tn 0 s4.heap := T.keep _ _ _ st3 fun b _ o e => by rw [← hs4]; exact pushCells_keeps _ _ _ _ (Heap.get?_push_of_some _ e)
  have stat : ∀ {σ' : L2.St} {H' : Hp} {s' : Shared}, Inv (X.blk s3 H3 scope ce fp) [] σ' H' s' → (∀ b ∈ fp, H' b = none) → ∀ b ∈ fp, FpOk (X.blk s3 H3 scope ce fp) [] H' b := fun {σ' H' s'} I' hn b hb =>
    ⟨hn b hb, (I'.ok.exf b hb).1, I'.ok.exfs b hb, .inl hb, fun x c e => (I'.ok.exf b hb).2 x c e, fun p hp => absurd (show p ∈ ([] : List (Addr × Obj)) ++ [] from hp) (by simp)⟩
  have loop : codeAny (model X.prog X.w) X.A (.compLoop (.ListComp elt [⟨tg, iter, ifs, 0⟩] scope pos) 0 (.ref it) (.ref D) ce) (compPost (model X.prog X.w) X.A X.xe use Qf (.ref D) s3.heap.objs.size) s4 := by
    refine compLoop_any (fun n s' => ∃ i H', Inv (X.blk s3 H3 scope ce fp) [] (wipe σ (own.map (·.2))) H' s' ∧ tn i s'.heap ∧ (∀ b ∈ fp, H' b = none) ∧ W i n H') ?_ m0 ⟨0, H3, I4, st4, nfp, w0⟩
    rintro n s5 ⟨i, H5, I5, st5, n5, w5⟩
    have out : ∀ {σ' : L2.St} {H' : Hp} {s' : Shared}, Inv (X.blk s3 H3 scope ce fp) [] σ' H' s' → Inv X pins σ H' s' := fun {σ' H' s'} I' =>
      I3.call' (ch := fp) I'.os I'.base I'.hok I'.bare fun b hb => ⟨(f3 b hb).1.2.2.2.1, (f3 b hb).1.2.1, (f3 b hb).1.2.2.2.2.1, (f3 b hb).1.2.2.2.2.2⟩
    rcases turn i n H5 w5 with ⟨stop, qq⟩ | ⟨go, Nx, hNx, step⟩
    · have td := T.done (X.blk s3 H3 scope ce fp) rfl rfl rfl i [] s5 _ H5 (fun _ _ => False) (let ⟨x1, h1, h2⟩ := hc.at (out I5); ⟨x1, h1, h2.imp fun _ _ _ _ => trivial⟩) I5 (stat I5 n5) st5 stop
      refine thnF td fun r s6 ⟨hr, I6⟩ => ?_
      subst hr
      have I7 : Inv X pins σ H5 s6 := out I6
      have nC : H5 s3.heap.objs.size = none := by
        have z : H5 ce.locals = none := I6.free
        rw [cL] at z
        exact z
      obtain ⟨m, hn, _⟩ := I6.loc
      have hn : s6.heap.Ns ce.locals m := hn
      rw [cL] at hn
      exact hRR D s3.heap.objs.size s6 m H5 I7 qq hn (I3.fpOk (Nat.le_refl _) nC)
    · have ti := T.item (X.blk s3 H3 scope ce fp) rfl rfl rfl i [] s5 _ H5 (fun _ _ => False) I5 (stat I5 n5) st5 go
      refine thnF ti fun r s6 ⟨u, hr, h6⟩ => ?_
      subst hr
      refine thnF h6 fun _ s7 ⟨x, H7, I7, r7, y7, st7, n7⟩ => ?_
      have I7' := I7.pinned (stat I7 n7) (T.obj _ _ st7)
      refine thnF (pg.run _ s7 _ H7 x u _ I7' r7 (step x H7 y7)) fun _ s8 ⟨σ8, H8, I8, hw8, q8⟩ => ?_
      refine thnF (pt.run _ s8 σ8 H8 _ I8 q8) fun b s9 ⟨H9, I9, q9⟩ => ?_
      have fin : ∀ {s' : Shared} {H' : Hp}, Inv (X.blk s3 H3 scope ce fp) ([] ++ pinsAt fp s7.heap) σ8 H' s' → Nx H' → ∃ m, m < n ∧ ∃ i H', Inv (X.blk s3 H3 scope ce fp) [] (wipe σ (own.map (·.2))) H' s' ∧ tn i s'.heap ∧ (∀ b ∈ fp, H' b = none) ∧ W i m H' := fun {s' H'} I' nx => by
        obtain ⟨m', hm, w'⟩ := hNx H' nx
        have pin' : ∀ b ∈ fp, ∀ o, s7.heap.get? b = some o → s'.heap.get? b = some o ∧ H' b = none := fun b hb o e =>
          let z := I'.pin (b, o) (List.mem_append_right _ (List.mem_append_right _ (mem_pinsAt hb e)))
          ⟨z.1, z.2.1⟩
        have hl : (wipe σ (own.map (·.2))).length = σ8.length := by rw [← hw8, wipe_length]
        refine ⟨m', hm, i + 1, H', (I'.unpinned (pins := [])).weak hl (fun j v e => ?_), T.keep _ _ _ st7 fun b hb o e => (pin' b hb o e).1, fun b hb => ?_, w'⟩
        · rw [← hw8] at e
          exact (wipe_some e).1
        · obtain ⟨o, e, _⟩ := T.obj _ _ st7 b hb
          exact (pin' b hb o e).2
      cases b with
      | false =>
        simp only [Bool.false_eq_true, if_false] at q9 ⊢
        exact fin I9 q9
      | true =>
        simp only [if_true] at q9 ⊢
        refine thnF (pe.run _ s9 σ8 H9 _ I9 q9) fun z s10 ⟨yv, H10, I10, r10, acc, hD10, hz10, nx⟩ => ?_
        exact app_ok (X := X.blk s3 H3 scope ce fp) I10 hD10 hz10 r10 fun s11 I11 => fin I11 nx
  exact codeAny_compStart_list loop (T.self X.A 0 _ _ _ st4 loop)
/-- as a value, while an exception is handled -/
theorem pe_lcK {elt tg iter : Expr} {ifs : List Expr} {scope : Scope} {own : List (Str × Nat)} {pos : Pos} {wi : TI} {g : TG} {tt : TT} {te : TE} (hc : HotD X) (hN : X.N.Nodup) (hi : PIK X tg iter wi) (ok : BlkOk X.N X.env.scope scope own)
    (hg : ∀ (s : Shared) (H : Hp) (C : Addr) (cl : List (Str × Addr)) (fp : List Addr), PG (X.blk s H scope (compEnvC scope cl C X.env) fp) tg g) (ht : ∀ (s : Shared) (H : Hp) (C : Addr) (cl : List (Str × Addr)) (fp : List Addr), PTs (X.blk s H scope (compEnvC scope cl C X.env) fp) ifs tt)
    (he : ∀ (s : Shared) (H : Hp) (C : Addr) (cl : List (Str × Addr)) (fp : List Addr), PE (X.blk s H scope (compEnvC scope cl C X.env) fp) elt te) (hs : ∀ x, foldedSetIterable iter X.env x = pure x := by intro _; rfl) :
    PE X (.ListComp elt [⟨tg, iter, ifs, 0⟩] scope pos) (tLc wi g tt te (own.map (·.2))) := by
  refine ⟨fun pins s σ H Q I h => ?_⟩
  rw [eval_ListComp]
  refine lc_coreK hc hN I hi ok hg ht he hs h fun D C s' m H' I' q hn f => ⟨m, hn, fun h'' sb => ?_⟩
  obtain ⟨f0, f1, f2, f3, f4, f5⟩ := f
  exact ⟨.ref D, H', I'.turned (t' := s'.toks) (fun b o hb e => (sb.2 b hb).trans e) f0 f1 f3 f4 f5, rfl, q⟩
end
end Bw

/-! except suites in which an iteration may end, defs that are called there -/
namespace Bw
open PySem PySem.Spec PyProof.Rows L2 L2H HotX
inductive HdsC (X : Cx) : List ExceptHandler → List (List Value × Nat × (Addr → Value → Option Addr → TS)) → Prop
  | nil : HdsC X [] []
  | cons {te : Expr} {cs : List Value} {n : Str} {i : Nat} {ts : Addr → Value → Option Addr → TS} {b₀ : Stmt} {suite : List Stmt} {pos' : Pos} {hds : List ExceptHandler} {l : List (List Value × Nat × (Addr → Value → Option Addr → TS))} (hc : ClsE X te cs)
      (hi : X.N[i]? = some n) (hln : X.env.kindOf n = some .local)
      (hsu : ∀ (a : Addr) (oe : Obj) (cls : Value) (d : Option Addr) (pn : List (Addr × Obj)), Zc cls d oe → (∃ vs, oe.data = .fields vs) → HotD (X.suite a ((a, oe) :: pn)) → PSs (X.suite a ((a, oe) :: pn)) (b₀ :: suite) (ts a cls d)) (r : HdsC X hds l) :
      HdsC X (.ExceptHandler (some te) (some n) (b₀ :: suite) pos' :: hds) ((cs, i, ts) :: l)
section
variable {X : Cx} {body : List Stmt} {h₀ : ExceptHandler} {hds : List ExceptHandler} {l : List (List Value × Nat × (Addr → Value → Option Addr → TS))} {pos : Pos} {tb : WX → TS} {Wout : WX}
theorem ps_try_mac (hs : X.stack = X.env :: X.outer) (hf : X.env.frame = some X.env.locals) (hN : X.N.Nodup) (tk : TakesC X Wout) (hsz : ∀ x ∈ l, x.1.length ≤ 1000)
    (hb : ∀ (W : WX) (pn : List (Addr × Obj)) (xe : Value → Shared → Prop), TakesC (X.tr pn xe) W → PassesOwn (model X.prog X.w) X.A X.env xe → PSs (X.tr pn xe) body (tb W))
    (hh : HdsC X (h₀ :: hds) l) : PS X (.Try body (h₀ :: hds) [] [] pos) (fun D σ H => tb (wMas X.K Wout D l) D σ H) := by
  refine ⟨fun pins s σ H D I h => ?_⟩
  have ok := I.ok
  have hfr : X.A.frames = some (X.env :: X.outer) := by rw [ok.frames, hs]
  refine wpAny_Try_except ?_
  refine wpAny_mono ((hb (wMas X.K Wout D l) (X.pn ++ pins) (fun e s₁ => wpAny (model X.prog X.w) X.A (noteFrame e X.env) (fun _ s₂ => wpAny (model X.prog X.w) X.A (setFlight e none) (fun _ s₃ =>
    wpAny (model X.prog X.w) X.A (handleBy e X.env (h₀ :: hds)) (SP X pins D) X.xe s₃) X.xe s₂) X.xe s₁) (fun u s' xx => ?_) PassesOwn.looking).run [] s σ H D (I.toTry _) h) (fun f s1 hsp => ?_) (fun e s1 he => he)
  · -- the catch
    obtain ⟨a, B, sI, pins', σ', H', cls, d, rfl, J', nb, up, sky, na, os, ag, w⟩ := xx
    have J : Inv X pins σ' H' sI := J'.ofTry ok
    have sky' : Sky B (X.env :: X.outer) a (Zb B H' cls d) X.env.locals s'.heap := by rw [← hs]; exact sky
    show wpAny (model X.prog X.w) X.A (noteFrame (.ref a) X.env) _ _ _
    refine L2N.Sky.land Zb.steady hfr hf sky' fun h3 fl3 up3 => ?_
    have notFr : ∀ {h : Heap} {o : Obj} {vs : Array Value}, h.FunFrames B (X.env :: X.outer) → h.get? a = some o → o.data = .fields vs → a ∉ frs (X.env :: X.outer) := fun {h o vs} ff e dd hm => by
      obtain ⟨_, o', e', hnf⟩ := ff.mem hm
      rw [e] at e'; cases e'
      exact hnf _ dd
    have nfr : a ∉ frs (X.env :: X.outer) := by
      obtain ⟨oe3, vs3, he3, hz3, hd3⟩ := fl3.there
      exact notFr fl3.2.2.1 he3 hd3
    have nL : a ≠ X.env.locals := fun z => nfr (List.mem_filterMap.mpr ⟨X.env, List.mem_cons_self, by rw [hf, z]⟩)
    have nF : a ∉ X.fs := fun hm => by
      obtain ⟨e, he, q⟩ := List.mem_filterMap.mp hm
      exact nfr (List.mem_filterMap.mpr ⟨e, List.mem_cons_of_mem _ he, q⟩)
    have go : ∀ {hds' : List ExceptHandler} {l' : List (List Value × Nat × (Addr → Value → Option Addr → TS))}, HdsC X hds' l' → (∀ x ∈ l', x.1.length ≤ 1000) → wMas X.K Wout D l' cls d σ' H' → ∀ h3, HandSPX.FlyingZ B (X.env :: X.outer) a (Zb B H' cls d) h3 → sI.heap.UpToSlots h3 →
        wpAny (model X.prog X.w) X.A (handleBy (.ref a) X.env hds') (SP X pins D) X.xe { s' with heap := h3 } := by
      intro hds' l' hk
      induction hk with
      | nil =>
        intro _ w h3 fl3 up3
        refine wpAny_handleBy_nil ?_
        obtain ⟨k1, k2, k3, oe, vs, T, oT, ts', he, hz, hd, h1, hr⟩ := id fl3
        unfold PySem.passOn
        refine wpAny_bind (wpAny_field he hd h1 ?_)
        rw [if_neg (show ¬ ((Value.ref T == Value.none) = true) from by simp)]
        have fin : wpAny (model X.prog X.w) X.A (setFlight (.ref a) X.env.frame) (fun _ s4 => wpAny (model X.prog X.w) X.A (throw (.ref a) : Sem Flow) (SP X pins D) X.xe s4) X.xe { s' with heap := h3 } := by
          rw [hf]
          refine HandSPX.setFlight_upZ fl3 fun h4 hh4 up4 => wpAny_throw (tk _ _ ?_)
          exact ⟨a, B, sI, pins, σ', H', cls, d, rfl, J, nb, up3.trans up4, .inr (.inr (by rw [hs]; exact hh4)), na, os, ag, w⟩
        first
          | exact wpAny_bind (wpAny_pure (wpAny_bind fin))
          | exact wpAny_bind fin
      | @cons te cs n i ts b₀ suite pos' hds2 l2 hc hi hln hsu r ih =>
        intro hz0 w h3 fl3 up3
        obtain ⟨b, hb1, hyes, hno⟩ := w
        have J3 : Inv X pins σ' H' { s' with heap := h3 } := J.landed nb fl3.1 up3 os ag
        obtain ⟨oe3, vs3, he3, hz3, hd3⟩ := fl3.there
        have S3 := J3.suite he3 hd3 na nL nF
        refine wpAny_handleBy_cons (codeAny_handlers_test ?_) (by intro q; cases q)
        -- the classes, then the match, in a heap that is kept
        have test : ∀ {R : Bool → Shared → Prop} {E : Value → Shared → Prop}, (∀ h4, (∀ b o, h3.get? b = some o → h4.get? b = some o) → R b { s' with heap := h4 }) →
            wpAny (model X.prog X.w) (X.A.mark (some (.ref a))) (eval te X.env) (fun c s₁ => wpAny (model X.prog X.w) (X.A.mark (some (.ref a))) (excMatches (.ref a) c) R E s₁) E { s' with heap := h3 } := fun {R E} q => by
          cases hc with
          | one hn =>
            rename_i x c np
            have LT : PySem.W.Looks (model X.prog X.w) h3 (typeOf (.ref a)) cls := fun A Q E s k q => wpAny_typeOf_ref (k _ _ he3) (by rw [hz3.1]; exact q)
            obtain ⟨b1, d1, h1, h2, eb⟩ := PySem.W.exmAny_cons hb1
            have w2 : some false = some d1 := h2
            cases w2
            rw [Bool.or_false] at eb
            subst eb
            have LM := PySem.W.exm_one (M := model X.prog X.w) (J3.kIn) LT h1
            obtain ⟨hg, hdbg, hm | ⟨hm, hv, hnn⟩⟩ := hn
            · exact ld_glob (X := X.suite a ((a, oe3) :: (X.pn ++ pins))) S3 hg hm (LM.here (q h3 fun _ _ z => z)) hdbg
            · exact ld_blt (X := X.suite a ((a, oe3) :: (X.pn ++ pins))) S3 hg hm hv (LM.here (q h3 fun _ _ z => z)) hnn hdbg
          | tup hn =>
            rename_i es kk np
            refine wpAny_Tuple_spliced (eval_names (Y := X.suite a ((a, oe3) :: (X.pn ++ pins))) S3 _ hn.suite ⟨?_, ?_⟩)
            · exact Nat.le_trans (hz0 _ List.mem_cons_self) (by decide)
            · have kp : ∀ b o, h3.get? b = some o → (h3.push { cls := .type "tuple", data := .seq cs.toArray }).get? b = some o := fun b o e => Heap.get?_push_of_some _ e
              have LT : PySem.W.Looks (model X.prog X.w) (h3.push { cls := .type "tuple", data := .seq cs.toArray }) (typeOf (.ref a)) cls := fun A Q E s k q => wpAny_typeOf_ref (k _ _ (kp _ _ he3)) (by rw [hz3.1]; exact q)
              have LM := PySem.W.exm_tupN (M := model X.prog X.w) (J3.kIn.keeps kp) LT (Heap.get?_push_size _ rfl) hb1
              exact LM.here (q _ kp)
        refine test fun h4 kp => ?_
        have fl4 := flying_kept fl3 kp
        have up4 : sI.heap.UpToSlots h4 := up3.trans (.of_keeps kp)
        cases b with
        | true =>
          refine codeAny_handlers_suite_as ?_
          refine HandSPX.lands_againZ fl4 fun h5 fl5 up5 => ?_
          have J5 : Inv X pins σ' H' { s' with heap := h5 } := J.landed nb fl5.1 (up4.trans up5) os ag
          obtain ⟨oe5, vs5, he5, hz5, hd5⟩ := fl5.there
          obtain ⟨c5, hc5, C5⟩ := hz5.2.2 vs5 hd5
          obtain ⟨pl, hpl, Cpl⟩ := (C5.keeps fl5.1).pins
          have J5' : Inv X (pins ++ pl) σ' H' { s' with heap := h5 } := J5.pins_of fun p hp => (List.mem_append.mp hp).elim (fun z => J5.pin p (List.mem_append_right _ z)) fun z => by
            obtain ⟨g1, g2, vq, g3⟩ := hpl p z
            have nfq : p.1 ∉ frs (X.env :: X.outer) := fun hm => by
              obtain ⟨_, o', e', hnf⟩ := fl5.2.2.1.mem hm
              rw [g1] at e'; cases e'
              exact hnf _ g3
            refine ⟨g1, g2, fun y => nfq (List.mem_filterMap.mpr ⟨X.env, List.mem_cons_self, by rw [hf, y]⟩), fun hm => ?_, fun v y => by rw [g3] at y; cases y⟩
            obtain ⟨e, he, q⟩ := List.mem_filterMap.mp hm
            exact nfq (List.mem_filterMap.mpr ⟨e, List.mem_cons_of_mem _ he, q⟩)
          have S5 := J5'.suite he5 hd5 na nL nF
          have hot : HotD (X.suite a ((a, oe5) :: (X.pn ++ (pins ++ pl)))) := ⟨(a, oe5), List.mem_cons_self, rfl, .ref (q := (a, oe5)) List.mem_cons_self hd5 hc5 (Cpl.mono fun q hq => List.mem_cons_of_mem _ (List.mem_append_right _ (List.mem_append_right _ hq)))⟩
          refine store_ok (X := X.suite a ((a, oe5) :: (X.pn ++ (pins ++ pl)))) (v := .ref a) S5 hN hi (.inl hln) rfl (fun s6 S6 => ?_) (.inr hln)
          refine wpAny_mono ((hsu a oe5 cls d (X.pn ++ (pins ++ pl)) hz5.zc ⟨_, hd5⟩ hot).run [] s6 _ H' _ S6 (hyes rfl a na)) (fun f s6 hsp => ?_) (fun _ _ z => False.elim z)
          have end_ : ∀ {σ6 : L2.St} {H6 : Hp} {Q : Shared → Prop}, Inv (X.suite a ((a, oe5) :: (X.pn ++ (pins ++ pl)))) [] σ6 H6 s6 → (∀ s7, Inv X pins (σ6.set i none) H6 s7 → Q s7) →
              wpAny (model X.prog X.w) X.A (do bindName X.env n .none; unbindBehindTheSuite X.env n pos') (fun _ s7 => Q s7) X.xe s6 := fun {σ6 H6 Q} S6 hq => gone_ok (Inv.unpinned (S6.unsuite ok)) hN hi hln hq
          cases f with
          | next =>
            obtain ⟨σ6, H6, S6, q6⟩ := hsp
            exact end_ S6 fun s7 J7 => ⟨_, _, J7, q6⟩
          | brk =>
            obtain ⟨σ6, H6, S6, q6⟩ := hsp
            exact end_ S6 fun s7 J7 => ⟨_, _, J7, q6⟩
          | cont =>
            obtain ⟨σ6, H6, S6, q6⟩ := hsp
            exact end_ S6 fun s7 J7 => ⟨_, _, J7, q6⟩
          | ret u =>
            obtain ⟨v6, σ6, H6, S6, r6, q6⟩ := hsp
            exact end_ S6 fun s7 J7 => ⟨_, _, _, J7, r6, q6⟩
        | false =>
          show wpAny _ X.A (handleBy (.ref a) X.env hds2) _ _ _
          exact ih (fun x hx => hz0 x (List.mem_cons_of_mem _ hx)) (hno rfl) h4 fl4 up4
    exact go hh hsz w h3 fl3 (up.trans up3)
  · cases f with
    | next =>
      obtain ⟨σ', H', J', q⟩ := hsp
      exact wpAny_execs_nil ⟨σ', H', J'.ofTry ok, q⟩
    | brk =>
      obtain ⟨σ', H', J', q⟩ := hsp
      exact ⟨σ', H', J'.ofTry ok, q⟩
    | cont =>
      obtain ⟨σ', H', J', q⟩ := hsp
      exact ⟨σ', H', J'.ofTry ok, q⟩
    | ret u =>
      obtain ⟨v, σ', H', J', r, q⟩ := hsp
      exact ⟨v, σ', H', J'.ofTry ok, r, q⟩
end
/-! ### defs that are called with the caught exception -/
def cxL (CX : CXT) (P : Program) (w : World) (K : PySem.W.Frag) (mg : Str → Option Value) (base : Heap) (N : List Str) (qual : Str) (scope : Scope) (f : Addr) (cd : Value) (A : Around) (outer : List Env) (s : Shared) (H : Hp) (E : XK) (pl : List (Addr × Obj)) : Cx :=
  { cxOf CX P w K mg base N qual scope f cd A outer s H E with calm := false, pn := pl }
theorem inv_startL {CX : CXT} {P : Program} {w : World} {K : PySem.W.Frag} {mg : Str → Option Value} {base : Heap} {N ps : List Str} {qual : Str} {scope : Scope} {f : Addr} {cd : Value} {A : Around} {outer : List Env} {s s1 : Shared} {H : Hp} {E : XK} {us : List Value} {vs : List V}
    (S : FnScope N ps scope) {pl : List (Addr × Obj)} (hpin : ∀ p ∈ pl, PinOk outer H s p) (e0 : Env0 P w K mg base A outer s H) (hl : vs.length = ps.length) (r : Vals vs us)
    (x : InCallC s s.heap.objs.size (bindL (envOfC qual scope s.heap.objs.size f cd).kindOf (ps.zip us) fun _ => none) (cellsFrom (s.heap.objs.size + 1) scope.names []) (bindC (envOfC qual scope s.heap.objs.size f cd).kindOf (ps.zip us) fun _ => none) s1) :
    Inv (cxL CX P w K mg base N qual scope f cd A outer s H E pl) [] (L2.start N vs) H s1 := by
  have hpl : ps.length ≤ N.length := by have := congrArg List.length S.pre; rw [List.length_take] at this; omega
  obtain ⟨h1, tk, rfl, hk⟩ := x.done
  have noA : ∀ b : Addr, b ∉ (cxL CX P w K mg base N qual scope f cd A outer s H E pl).ex := fun b z => absurd (show b ∈ ([] : List Addr) from z) (by simp)
  refine ⟨⟨e0.mod, S.kind, rfl, rfl, Nat.le_refl _, fun y z c h1 h2 => ?_, fun y hy => ?_, fun y c _ h => ?_, (fun z => Bool.noConfusion (show false = true from z)), Around.frames_deeper e0.frames, .inr ⟨rfl, rfl⟩, fun b z => absurd z (noA b), e0.bs, e0.bsz, fun b _ _ => noA b, fun b z => absurd z (noA b), e0.funs, e0.frf⟩,
    rfl, e0.bare, Un.kept hk, ⟨_, x.toInCall.ns, fun i y v h1 h2 h3 => ?_⟩, fun y c h => ⟨_, x.cell y c h⟩, e0.hok.fresh (Nat.le_refl _), fun y c h => ?_, fun q hq => ?_, e0.hok.kept hk, ?_⟩
  · exact name_of_addr x.apart (PySem.mem_of_lookup h1) (PySem.mem_of_lookup h2)
  · have hy : scope.names.lookup y = some .cell ∨ scope.names.lookup y = some .free := hy
    rcases hy with hy | hy
    · exact cell_has hy
    · exact absurd rfl (S.nofree _ (PySem.mem_of_lookup hy))
  · exact Nat.le_of_lt (x.above y c (PySem.mem_of_lookup h))
  · have hi : i < vs.length := by
      unfold L2.start at h2
      by_cases hi : i < vs.length
      · exact hi
      · rw [List.getElem?_append_right (by simpa using hi)] at h2
        rw [List.getElem?_replicate] at h2
        split at h2 <;> cases h2
    have ha : vs[i]? = some v := by
      unfold L2.start at h2
      rw [List.getElem?_append_left (by simpa using hi), List.getElem?_map] at h2
      cases e : vs[i]? with
      | none => rw [e] at h2; cases h2
      | some a => rw [e] at h2; cases h2; rfl
    obtain ⟨u, hu, rv⟩ := r.get ha
    have hp : ps[i]? = some y := by
      rw [← S.pre, List.getElem?_take_of_lt (by omega)]; exact h1
    have ndP : ps.Nodup := by rw [← S.pre]; exact S.nd.sublist (List.take_sublist _ _)
    refine ⟨u, rv, ?_⟩
    rcases S.par y (List.mem_of_getElem? hp) with k | k
    · exact .inl ⟨k, bindL_get ndP hp hu k⟩
    · obtain ⟨c, e⟩ := cell_has (n := s.heap.objs.size + 1) k
      refine .inr ⟨.inl k, c, e, ?_⟩
      have q := x.cell y c e
      rw [bindC_get ndP hp hu (by show scope.names.lookup y ≠ _; rw [k]; decide)] at q
      exact q
  · exact e0.hok.fresh (Nat.le_of_lt (x.above y c (PySem.mem_of_lookup h)))
  · have hq' : q ∈ pl := by simpa using (show q ∈ pl ++ ([] : List (Addr × Obj)) from hq)
    have z := hpin q hq'
    exact ⟨hk q.1 q.2 z.get, z.free, Nat.ne_of_lt (Heap.lt_size z.get), z.nofs, z.nocell⟩
  · unfold L2.start
    show _ = N.length
    rw [List.length_append, List.length_map, List.length_replicate]
    omega
structure FnQ0 (P : Program) (w : World) (K : PySem.W.Frag) (mg : Str → Option Value) (base : Heap) (k : Nat) (f : Addr) (fd : FuncData) (ps : List Str) (sp : SpP) : Prop where
  len : ∀ p vs H Q, sp p vs H Q → vs.length = ps.length
  run : ∀ (A : Around) (outer : List Env) (s : Shared) (H : Hp) (args : Args) (us : List Value) (vs : List V) (Q : VK) (p : Addr × Obj) (pl : List (Addr × Obj)), L2H.RoomH k A → HotP A pl p → (∀ q ∈ pl, L2H.PinOk outer H s q) → Env0 P w K mg base A outer s H → BindsTo s fd args (ps.zip us) → Vals vs us → sp p vs H Q →
    codeAny (model P w) A (.call (.ref f) args) (CR CX0 outer P w H s Q E0) s
theorem Fun_okQ {P : Program} {w : World} {K : PySem.W.Frag} {mg : Str → Option Value} {base : Heap} {x qual : Str} {st : Stmt} {f : Addr} {fd : FuncData} {N ps : List Str} {k : Nat} {sp : SpP} (F : Fun K x qual st f fd) (S : FnScope N ps (defScope st)) (len : ∀ p vs H Q, sp p vs H Q → vs.length = ps.length)
    (hbody : ∀ (cdv : Value) (A : Around) (outer : List Env) (s : Shared) (H : Hp) (vs : List V) (Q : VK) (p : Addr × Obj) (pl : List (Addr × Obj)), HotP A pl p → L2H.RoomH k (A.deeper (envOfC qual (defScope st) s.heap.objs.size f cdv)) → sp p vs H Q →
      ∃ t, PSs (cxL CX0 P w K mg base N qual (defScope st) f cdv A outer s H E0 pl).nox (defBody st) t ∧ t { nx := fun _ H' => Q .non H', rt := Q } (L2.start N vs) H) : FnQ0 P w K mg base (k + 1) f fd ps sp := by
  obtain ⟨oc, od, kV, doc, pm, an, cdv, ct, osl, rfl, lk, hcd⟩ := F.ex
  refine ⟨len, fun A outer s H args us vs Q p pl hr hot hpin e0 hb r hsp => ?_⟩
  have hl := len _ _ _ _ hsp
  have KX : K.In s.heap := e0.mod.kin.keeps fun b o e => (e0.bs b o e).1
  refine codeAny_call_function hr.depth (KX _ _ lk) rfl S.co S.gen rfl (PySem.W.codeRec_of KX hcd) (hb _ _ _ _ ?_)
  have hkind : ∀ y ∈ ps.zip us, (defScope st).names.lookup y.1 = some .local ∨ ((defScope st).names.lookup y.1 = some .cell ∧ ((cellsFrom (s.heap.objs.size + 1) (defScope st).names []).lookup y.1).isSome = true) := by
    intro y hy
    obtain ⟨n, v⟩ := y
    exact (S.par n (List.of_mem_zip hy).1).imp id fun q => ⟨q, PySem.W.cellsFrom_some _ _ _ (.inl q)⟩
  refine wpAny_newFunctionEnv_cells S.kind hkind fun env he s1 x => ?_
  subst he
  refine ⟨(e0.mod.nolimit.keeps fun b o e => (e0.bs b o e).1).keeps x.toInCall.keep, codeAny_func ?_⟩
  obtain ⟨t, ht, hq⟩ := hbody cdv A outer s H vs Q p pl hot (hr.deeper _) hsp
  refine wpAny_mono (ht.nox.run [] s1 (L2.start N vs) H _ (inv_startL S hpin e0 hl r x) hq) (fun fl s' hs => ?_) fun e s' hs => hs
  have fin : ∀ {σ' : L2.St} {H' : Hp} {v : V} {u : Value}, Inv (cxL CX0 P w K mg base N qual (defScope st) f cdv A outer s H E0 pl) [] σ' H' s' → RelV v u → Q v H' → CE outer P w H s Q u s' :=
    fun {σ' H' v u} J rv q => ⟨v, H', J.os, J.bare, J.base, J.hok, rv, q⟩
  match fl, hs with
  | .ret u, ⟨v, σ', H', J, rv, q⟩ => exact fin J rv q
  | .next, ⟨σ', H', J, q⟩ => exact fin (v := V.non) (u := Value.none) J rfl q
  | .brk, ⟨_, _, _, q⟩ => exact q.elim
  | .cont, ⟨_, _, _, q⟩ => exact q.elim
structure FnQ (P : Program) (w : World) (K : PySem.W.Frag) (mg : Str → Option Value) (base : Heap) (x : Str) (k : Nat) (ps : List Str) (sp : SpP) : Prop where
  ex : ∃ (f : Addr) (fd : FuncData), FnQ0 P w K mg base k f fd ps sp ∧ mg x = some (.ref f) ∧ PySem.W.keepIn K (.ref f) = true ∧ Binds K fd ps []
theorem pe_fq {X : Cx} {x : Str} {k : Nat} {ps : List Str} {sp : SpP} {e : Expr} {es : List Expr} {t : TA} {q pos : Pos} {a : Addr} {oe : Obj} {cls : Value} {d : Option Addr} (F : FnQ X.prog X.w X.K X.mg X.base x k ps sp) (hp : (a, oe) ∈ X.pn) (hz : Zc cls d oe) (hf : ∃ vs, oe.data = .fields vs) (hot : HotD X) (hh : X.A.handled = some (.ref a)) (hr : L2H.RoomH k X.A) (hg : Gl X x) (ha : PA X (e :: es) t)
    (hdb : (x == ("__debug__" : Str)) = false := by decide) (he : starEach (e :: es) X.env = (false, eval e X.env) :: starEach es X.env := by rfl) (hpl : (backTo pos (starEach es X.env)).any (·.1) = false := by rfl) :
    PE X (.Call (.Name x q) (e :: es) [] pos) (tCallP sp a cls d t) := by
  obtain ⟨f, fd, G, hm, hk, hb⟩ := F.ex
  refine ⟨fun pins s σ H Q I h => ?_⟩
  refine wpAny_Call_Name_kw (ld_glob I hg hm ?_ hdb)
  refine PySem.W.callWith_K (h₀ := X.base) I.ok.mod.kin hk (thn (ha.run pos pins s σ H _ I h) fun us s1 ⟨vs, H1, I1, r, q⟩ => ⟨I1.kIn, ?_⟩) he hpl
  have q := q oe hz hf
  have hl : us.length = ps.length := by rw [← r.length]; exact G.len _ _ _ _ q
  have b := hb s1 us I1.kIn (by rw [List.append_nil]; exact hl)
  rw [List.append_nil] at b
  have hpin : ∀ p ∈ X.pn, L2H.PinOk X.stack H1 s1 p := fun p hp => by
    have P1 := I1.pin p (List.mem_append_left _ hp)
    exact ⟨P1.1, P1.2.1, fun hm => (List.mem_cons.mp (I1.stkSub p.1 hm)).elim P1.2.2.1 P1.2.2.2.1, P1.2.2.2.2⟩
  have hot' : HotP X.A X.pn (a, oe) := by
    obtain ⟨p', m1, m2, m3⟩ := hot
    have e1 : p'.1 = a := by
      rw [hh] at m2
      cases m2
      rfl
    refine ⟨hp, hh, ?_⟩
    rw [e1] at m3
    exact m3
  show wpAny _ _ (call (.ref f) us) _ _ _
  refine wpAny_call (codeAny_mono (G.run X.A X.stack s1 H1 ⟨us, []⟩ us vs Q (a, oe) X.pn hr hot' hpin I1.env0 b r q) fun r s' hq => ?_)
  match r, hq with
  | .error e, hq => exact False.elim hq
  | .ok (.ret u), hq => exact I1.after hq
  | .ok .next, hq => exact False.elim hq
  | .ok .brk, hq => exact False.elim hq
  | .ok .cont, hq => exact False.elim hq
theorem hotD_of {CX : CXT} {P : Program} {w : World} {K : PySem.W.Frag} {mg : Str → Option Value} {base : Heap} {N : List Str} {qual : Str} {scope : Scope} {f : Addr} {cd : Value} {A : Around} {outer : List Env} {s : Shared} {H : Hp} {E : XK} {pl : List (Addr × Obj)} {p : Addr × Obj} (h : HotP A pl p) :
    HotD (cxL CX P w K mg base N qual scope f cd A outer s H E pl).nox := ⟨p, h.mem, h.hd, h.ch⟩
end Bw

/-! lambdas whose exceptions bear a chain that ends -/
namespace Bw
open PySem PySem.Spec PyProof.Rows L2 LamX
section
variable {X : Cx} {pins : List (Addr × Obj)} {σ : L2.St} {H HZ : Hp} {s s1 : Shared}
/-- the context of the lambda's body, entered at s from the frames outer -/
def lamCxC (X : Cx) (A : Around) (outer : List Env) (s : Shared) (H : Hp) (E : XK) (scope : Scope) (f c' : Addr) : Cx where
  prog := X.prog
  w := X.w
  K := X.K
  mg := X.mg
  base := X.base
  A := A.deeper (lamEnv X scope s.heap.objs.size f c')
  N := X.N
  s_0 := s
  H_0 := H
  env := lamEnv X scope s.heap.objs.size f c'
  outer := outer
  stack := lamEnv X scope s.heap.objs.size f c' :: outer
  ex := []
  fn := fun _ => false
  calm := true
  pn := []
  xe := fun e s' => wpAny (model X.prog X.w) (A.deeper (lamEnv X scope s.heap.objs.size f c')) (leaving (lamEnv X scope s.heap.objs.size f c') e) (fun _ s'' => CXc X.prog X.w outer H s E e s'') (fun e' s'' => CXc X.prog X.w outer H s E e' s'') s'
theorem lam_startC {A : Around} {outer : List Env} {E : XK} {scope : Scope} {f c' : Addr} {h₁ : Heap} {tk : Nat} (I : Inv X pins σ H s) (L : LamS X.env.scope scope) (e0 : Env0 X.prog X.w X.K X.mg X.base A outer s1 HZ) (hd : A.handled = none)
    (un : Un (frs X.stack) [] H HZ s.heap s1.heap) (hns : h₁.Ns s1.heap.objs.size fun y => ([] : List (Str × Value)).reverse.lookup y) (kp : ∀ b o, s1.heap.get? b = some o → h₁.get? b = some o) :
    Inv (lamCxC X A outer s1 HZ E scope f c') [] σ HZ { s1 with heap := h₁, toks := tk } := by
  have hfree := L.has I.ok
  have cm : ∀ {y c}, (cloFrom X.env.cells scope.names []).lookup y = some c → X.env.cells.lookup y = some c := fun {y c} e => by
    rcases cloFrom_mem (PySem.mem_of_lookup e) with hm | ⟨h1, h2⟩
    · cases hm
    · obtain ⟨c1, hc⟩ := hfree _ h1 rfl
      have hc : X.env.cells.lookup y = some c1 := hc
      have e2 : c = c1 := by
        rw [h2, hc] <;> rfl
      rw [e2]
      exact hc
  have look : ∀ {y}, scope.names.lookup y = some .free → ∃ c, (cloFrom X.env.cells scope.names []).lookup y = some c := fun {y} hl => by
    have hy : (y, NameKind.free) ∈ scope.names := PySem.mem_of_lookup hl
    exact mem_lookup (cloFrom_has (cells := X.env.cells) (acc := []) hy)
  have cellK : ∀ {c : Addr} {v : Option Value}, H c = none → s.heap.IsCell c v → h₁.IsCell c v := fun {c v} n ⟨o, ho, hd⟩ => by
    obtain ⟨sl, q⟩ := un.any ho n (by simp)
    exact ⟨_, kp _ _ q, hd⟩
  have noA : ∀ b : Addr, b ∉ (lamCxC X A outer s1 HZ E scope f c').ex := fun b z => absurd (show b ∈ ([] : List Addr) from z) (by simp)
  refine ⟨⟨e0.mod, L.kind, rfl, rfl, Nat.le_refl _, fun y z c e1 e2 => I.ok.inj y z c (cm e1) (cm e2), fun y hy => ?_, fun y c z _ => ?_, fun _ => hd, Around.frames_deeper e0.frames, .inr ⟨rfl, rfl⟩, fun b z => absurd z (noA b), e0.bs, e0.bsz, fun b _ _ => noA b,
      fun b z => absurd z (noA b), e0.funs, e0.frf⟩,
    rfl, e0.bare, Un.kept kp, ⟨_, hns, fun i y v e1 e2 e3 => ?_⟩, fun y c e => ?_, e0.hok.fresh (Nat.le_refl _), fun y c e => ?_, fun q hq => absurd (show q ∈ ([] : List (Addr × Obj)) ++ [] from hq) (by simp), e0.hok.kept kp, I.len⟩
  · have hy : scope.names.lookup y = some .cell ∨ scope.names.lookup y = some .free := hy
    rcases hy with hy | hy
    · exact absurd rfl (L.own _ (PySem.mem_of_lookup hy)).2
    · exact look hy
  · have z : false = true := z
    cases z
  · have e3 : Vis scope y := e3
    rcases e3 with k | k | k
    · exact absurd rfl (L.own _ (PySem.mem_of_lookup k)).1
    · exact absurd rfl (L.own _ (PySem.mem_of_lookup k)).2
    · obtain ⟨m, hn, hl⟩ := I.loc
      have hvis : Vis X.env.scope y := (L.free _ (PySem.mem_of_lookup k) rfl).elim (fun k => .inr (.inl k)) (fun k => .inr (.inr k))
      obtain ⟨w', r, q⟩ := hl i y v e1 e2 hvis
      obtain ⟨c2, h2⟩ := look k
      refine ⟨w', r, .inr ⟨.inr k, c2, h2, ?_⟩⟩
      have c1 := cm h2
      rcases q with ⟨k', _⟩ | ⟨_, c3, e', z⟩
      · have k' : X.env.scope.names.lookup y = some .local := k'
        rcases L.free _ (PySem.mem_of_lookup k) rfl with k2 | k2 <;> rw [show X.env.scope.names.lookup y = _ from k2] at k' <;> cases k'
      · rw [c1] at e'
        cases e'
        exact cellK (I.freeC y _ c1) z
  · obtain ⟨w', z⟩ := I.cell y c (cm e)
    exact ⟨w', cellK (I.freeC y c (cm e)) z⟩
  · obtain ⟨v, o, ho, hd⟩ := I.cell y c (cm e)
    exact un.free c o ho (I.freeC y c (cm e)) (by simp)
/-- x(), in the def that got the lambda: Z is that def's context, entered at s -/
theorem pe_actC {CXg : CXT} {Eg : XK} {Ng : List Str} {qg : Str} {sg : Scope} {g f c' : Addr} {cdg pm ctv : Value} {params : Arguments} {body : Expr} {scope : Scope} {k i : Nat} {a : Str} {pn : List (Addr × Obj)} {xe : Value → Shared → Prop} {W : WX} {E : XK} {tb : TE} {p1 p2 : Pos}
    (I : Inv X pins σ H s) (L : LamS X.env.scope scope) (hf : s.heap.get? f = some (PySem.W.kla_obj "<lambda>" (X.env.qual ++ "<lambda>") params body scope (cloFrom X.env.cells scope.names []) pm c' ctv)) (hfn : H f = none) (hfr : f ∉ frs X.stack)
    (hbind : bindArgs (PySem.W.kla_fn "<lambda>" (X.env.qual ++ "<lambda>") params body scope (cloFrom X.env.cells scope.names []) pm (.ref c') ctv) ⟨[], []⟩ = pure [])
    (tk : TakesC ((cxOf CXg X.prog X.w X.K X.mg X.base Ng qg sg g cdg X.A X.stack s H Eg).tr pn xe) W) (hW : ∀ cls d σ' H', E cls d H' → W cls d σ' H') (hr : Room (k + 1) (X.A.deeper (envOfC qg sg s.heap.objs.size g cdg)))
    (hbody : ∀ (A : Around) (outer : List Env) (s : Shared) (H : Hp), Room k (A.deeper (lamEnv X scope s.heap.objs.size f c')) → PE (lamCxC X A outer s H E scope f c') body tb)
    (hN : Ng[i]? = some a) (hv : Vis sg a) (hd : (a == ("__debug__" : Str)) = false := by decide) (hcd : (a == ("__classdict__" : Str)) = false := by decide) :
    PE ((cxOf CXg X.prog X.w X.K X.mg X.base Ng qg sg g cdg X.A X.stack s H Eg).tr pn xe) (.Call (.Name a p1) [] [] p2)
      (fun σZ HZ Q => σZ[i]? = some (some (.ref f)) ∧ HZ c' = some (CodeO c' (X.env.qual ++ "<lambda>")) ∧ tb σ HZ Q) := by
  refine ⟨fun pinsZ sZ σZ HZ Q IZ h => ?_⟩
  obtain ⟨hs, hc, ht⟩ := h
  refine wpAny_Call_Name_kw (thn ((pe_var (pos := p1) (i := i) hN hv hd hcd).run pinsZ sZ σZ HZ (fun v H1 => v = .ref f ∧ H1 = HZ) IZ ⟨.ref f, hs, rfl, rfl⟩) fun u s1 ⟨v, H1, I1, r1, q1⟩ => ?_)
  obtain ⟨ev, eH⟩ := q1
  subst ev
  rw [eH] at I1
  obtain rfl : u = Value.ref f := r1
  have of1 : s1.heap.get? f = some (PySem.W.kla_obj "<lambda>" (X.env.qual ++ "<lambda>") params body scope (cloFrom X.env.cells scope.names []) pm c' ctv) := I1.base.keep f _ hf hfn hfr (fun z => nomatch (show f ∈ ([] : List Addr) from z))
  refine PySem.W.callWith_F0 ⟨_, _, _, _, of1⟩ ?_
  have un : Un (frs X.stack) [] H HZ s.heap s1.heap := I1.base
  obtain ⟨⟨oc, vs, t, hoc, hdc, hvc⟩, _, _⟩ := I1.hok c' _ hc
  have rc : codeAny (model X.prog X.w) (X.A.deeper (envOfC qg sg s.heap.objs.size g cdg)) (.call (.ref f) ⟨[], []⟩) (CR (CXc X.prog X.w) (envOfC qg sg s.heap.objs.size g cdg :: X.stack) X.prog X.w HZ s1 Q E) s1 := by
    refine PySem.W.kla_callFunE hr.depth of1 rfl L.co L.gen rfl ⟨c', oc, vs, t, rfl, hoc, hdc, hvc⟩ ?_
    rw [hbind]
    refine wpAny_pure (wpAny_newFunctionEnv (fun y hy => (L.own y hy).2) (fun y hy => absurd hy (by simp)) (fun h₁ hns hsb => ⟨I1.nolimit.fresh _ hsb, ?_⟩) L.kind)
    show codeAny _ _ (.expr body (lamEnv X scope s1.heap.objs.size f c')) _ _
    have kp : ∀ b o, s1.heap.get? b = some o → h₁.get? b = some o := fun b o e => hsb.extBut b o (Nat.ne_of_lt (Heap.lt_size e)) (Heap.get?_push_of_some _ e)
    have J : Inv (lamCxC X (X.A.deeper (envOfC qg sg s.heap.objs.size g cdg)) (envOfC qg sg s.heap.objs.size g cdg :: X.stack) s1 HZ E scope f c') [] σ HZ { s1 with heap := h₁, toks := s1.toks + ([] : List (Str × Value)).length } :=
      lam_startC I L I1.env0 hr.hd un hns kp
    refine PySem.W.kla_codeExpr (wpAny_mono ((hbody _ _ s1 HZ (hr.deeper _)).run [] _ _ HZ Q J ht) (fun v s' hq => ?_) fun e s' hq => hq)
    obtain ⟨w', H', J', rv, q⟩ := hq
    exact ⟨w', H', J'.os, J'.bare, J'.base, J'.hok, rv, q⟩
  have hx : Passes (CXc X.prog X.w) ((cxOf CXg X.prog X.w X.K X.mg X.base Ng qg sg g cdg X.A X.stack s H Eg).tr pn xe) E := passesC_call tk hW
  refine wpAny_call (codeAny_mono rc fun r s' hq => ?_)
  cases r with
  | error e => exact hx pinsZ σZ HZ s1 e s' I1 hq
  | ok fl =>
    cases fl with
    | ret u => exact I1.after hq
    | next => exact False.elim hq
    | brk => exact False.elim hq
    | cont => exact False.elim hq
end
/-- the def that calls what it got: a calls it; TT: what it makes of the lambda's reading -/
def GivesC (X : Cx) (Ng : List Str) (x : Str) (sg : Scope) (g : Addr) (cdg : Value) (bg : List Stmt) (a : Str) (q : Str) (TT : (XK → Hp → VK → Prop) → Hp → VK → Prop) : Prop :=
  ∀ (f c' : Addr) (s : Shared) (H : Hp) (Q : VK) (tl : XK → Hp → VK → Prop),
    (∀ (W : WX) (pn : List (Addr × Obj)) (xe : Value → Shared → Prop) (E : XK) (p1 p2 : Pos), TakesC ((cxOf C8.CX0 X.prog X.w X.K X.mg X.base Ng x sg g cdg X.A X.stack s H C8.E0).tr pn xe) W → (∀ cls d σ' H', E cls d H' → W cls d σ' H') →
      PE ((cxOf C8.CX0 X.prog X.w X.K X.mg X.base Ng x sg g cdg X.A X.stack s H C8.E0).tr pn xe) (.Call (.Name a p1) [] [] p2) (fun σZ HZ Q => σZ[0]? = some (some (.ref f)) ∧ HZ c' = some (CodeO c' q) ∧ tl E HZ Q)) →
    H c' = some (CodeO c' q) → TT tl H Q →
    ∃ t, PSs (cxOf C8.CX0 X.prog X.w X.K X.mg X.base Ng x sg g cdg X.A X.stack s H C8.E0).nox bg t ∧ t { nx := fun _ H' => Q .non H', rt := Q } (L2.start Ng [.ref f]) H
section
variable {X : Cx}
/-- x(lambda: body) -/
theorem pe_lamcallC {T : List (Addr × Str)} {TT : (XK → Hp → VK → Prop) → Hp → VK → Prop} {x a : Str} {g c P : Addr} {k : Nat} {pg : Arguments} {bg : List Stmt} {sg : Scope} {dV kV doc pm cdv ct oc : Value} {an od : Option Addr} {osl : Array (Option Value)} {Ng : List Str}
    {params : Arguments} {body : Expr} {scope : Scope} {t : XK → TE} {p lpos pos : Pos} (hg : Gl X x) (hm : X.mg x = some (.ref g)) (hk : PySem.W.keepIn X.K (.ref g) = true)
    (lk : X.K.lookup g = some ⟨oc, od, .func (PySem.W.fnOf x x pg bg sg dV kV doc pm an cdv ct), osl⟩) (hcg : PySem.W.codeIn X.K cdv x = true) (hb : L2.Binds X.K (PySem.W.fnOf x x pg bg sg dV kV doc pm an cdv ct) [a] []) (Sg : FnScope Ng [a] sg) (hNg : Ng[0]? = some a) (hva : Vis sg a)
    (hG : GivesC X Ng x sg g cdv bg a (X.env.qual ++ "<lambda>") TT)
    (TB : TabB X.base X.mg c P) (hcode : X.env.code = .ref c) (hmT : (P, X.env.qual ++ "<lambda>") ∈ T) (hu : ∀ p ∈ T, p.1 = P → p.2 = X.env.qual ++ "<lambda>") (hr : Room (k + 2) X.A) (L : LamS X.env.scope scope) (hdef : defaultsOf params X.env = ([], []))
    (hbind : ∀ (q : Str) (cl : List (Str × Addr)) (pm cv ctv : Value), bindArgs (PySem.W.kla_fn "<lambda>" q params body scope cl pm cv ctv) ⟨[], []⟩ = pure [])
    (hbody : ∀ (A : Around) (outer : List Env) (s : Shared) (H : Hp) (E : XK) (f c' : Addr), Room k (A.deeper (lamEnv X scope s.heap.objs.size f c')) → PE (lamCxC X A outer s H E scope f c') body (t E))
    (hdb : (x == ("__debug__" : Str)) = false := by decide) (hd : (a == ("__debug__" : Str)) = false := by decide) (hcd : (a == ("__classdict__" : Str)) = false := by decide) :
    PE X (.Call (.Name x p) [.Lambda params body scope lpos] [] pos) (tLam T TT t) := by
  refine ⟨fun pins s σ H Q I h => ?_⟩
  obtain ⟨hT, h⟩ := h
  refine wpAny_Call_Name_kw (ld_glob I hg hm ?_ hdb)
  refine PySem.W.callWith_K (h₀ := X.base) I.ok.mod.kin hk ?_ (by rfl) (by rfl)
  show wpAny _ _ (spliced ((false, eval (.Lambda params body scope lpos) X.env) :: backTo pos (starEach [] X.env))) _ _ s
  refine Calls.spliced_cons (lam_make2 I TB hcode hmT hu hT hdef (L.has I.ok) fun f c' pm' ctv H1 s' I1 eN T1 hf hfn hfr hco => ?_)
  refine Calls.spliced_nil ⟨I1.kIn, ?_⟩
  have rc : codeAny (model X.prog X.w) X.A (.call (.ref g) ⟨[.ref f], []⟩) (CR C8.CX0 X.stack X.prog X.w H1 s' Q C8.E0) s' := by
    refine run_ofS (N := Ng) (ps := [a]) (us := [.ref f]) (vs := [.ref f]) lk hcg Sg hr I1.env0 (hb s' [.ref f] I1.kIn rfl) (.cons rfl .nil) rfl fun hr' => ?_
    obtain ⟨t', ht', hq'⟩ := hG f c' s' H1 Q (fun E H' Q' => t E σ H' Q') (fun W pn xe E p1 p2 tk hW => pe_actC (i := 0) I1 L hf hfn hfr (hbind _ _ _ _ _) tk hW hr' (fun A outer s H hr2 => hbody A outer s H E f c' hr2) hNg hva hd hcd) hco (h H1 eN T1)
    exact ⟨t', ht'.nox, hq'⟩
  refine wpAny_call (codeAny_mono rc fun r s2 hq => ?_)
  cases r with
  | error e => exact (show False from hq).elim
  | ok fl =>
    cases fl with
    | ret u => exact I1.after hq
    | next => exact False.elim hq
    | brk => exact False.elim hq
    | cont => exact False.elim hq
end
section
variable {P : Program} {w : World} {K : PySem.W.Frag} {mg : Str → Option Value} {base : Heap}
/-- the def x is handed a lambda without parameters, and calls it -/
structure AsksC (P : Program) (w : World) (K : PySem.W.Frag) (mg : Str → Option Value) (base : Heap) (x a : Str) (N : List Str) (st : Stmt) (k : Nat) (TT : (XK → Hp → VK → Prop) → Hp → VK → Prop) : Prop where
  ex : ∃ (g : Addr) (fd : FuncData), Fun K x x st g fd ∧ mg x = some (.ref g) ∧ Binds K fd [a] []
  sc : FnScope N [a] (defScope st)
  n0 : N[0]? = some a
  va : Vis (defScope st) a
  gives : ∀ X : Cx, X.prog = P → X.w = w → X.K = K → X.mg = mg → X.base = base → Room k X.A → ∀ (g : Addr) (cdg : Value) (q : Str), GivesC X N x (defScope st) g cdg (defBody st) a q TT
end
theorem pe_asksC {X : Cx} {x a : Str} {N : List Str} {st : Stmt} {k j : Nat} {TT : (XK → Hp → VK → Prop) → Hp → VK → Prop} {T : List (Addr × Str)} {c P : Addr} {params : Arguments} {body : Expr} {scope : Scope} {t : XK → TE} {p lpos pos : Pos}
    (A : AsksC X.prog X.w X.K X.mg X.base x a N st k TT) (hg : Gl X x) (TB : TabB X.base X.mg c P) (hcode : X.env.code = .ref c) {ql : Str} (hql : X.env.qual = ql) (hmT : (P, ql ++ "<lambda>") ∈ T) (hu : ∀ p ∈ T, p.1 = P → p.2 = ql ++ "<lambda>") (hr1 : Room k X.A) (hr : Room (j + 2) X.A) (L : lamSB X.env.scope scope = true) (hdef : defaultsOf params X.env = ([], []))
    (hbind : ∀ (q : Str) (cl : List (Str × Addr)) (pm cv ctv : Value), bindArgs (PySem.W.kla_fn "<lambda>" q params body scope cl pm cv ctv) ⟨[], []⟩ = pure [])
    (hbody : ∀ (A : Around) (outer : List Env) (s : Shared) (H : Hp) (E : XK) (f c' : Addr), Room j (A.deeper (lamEnv X scope s.heap.objs.size f c')) → PE (lamCxC X A outer s H E scope f c') body (t E))
    (hdb : (x == ("__debug__" : Str)) = false := by decide) (hd : (a == ("__debug__" : Str)) = false := by decide) (hcd : (a == ("__classdict__" : Str)) = false := by decide) :
    PE X (.Call (.Name x p) [.Lambda params body scope lpos] [] pos) (tLam T TT t) := by
  subst hql
  obtain ⟨g, fd, F, hm, hb⟩ := A.ex
  have kp := F.kp
  obtain ⟨oc, od, kV, doc, pm, an, cdv, ct, osl, rfl, lk, hcd'⟩ := F.ex
  exact pe_lamcallC hg hm kp lk hcd' hb A.sc A.n0 A.va (A.gives X rfl rfl rfl rfl rfl hr1 g cdv _) TB hcode hmT hu hr (lamS_by L) hdef hbind hbody hdb hd hcd
theorem takesLamC {X : Cx} {A : Around} {outer : List Env} {s : Shared} {H : Hp} {E : XK} {scope : Scope} {f c' : Addr} : TakesC (lamCxC X A outer s H E scope f c') (fun cls d _ H => E cls d H) := takesC_of rfl rfl rfl rfl
end Bw

/-! defs that raise, their exceptions with chains that end -/
namespace Bw
open PySem PySem.Spec PyProof.Rows L2
/-! ### defs that may raise, as their callers want them -/
structure FnY (P : Program) (w : World) (K : PySem.W.Frag) (mg : Str → Option Value) (base : Heap) (x : Str) (k : Nat) (ps : List Str) (sp : Sp) : Prop where
  ex : ∃ (f : Addr) (fd : FuncData), FnOk P w K mg base (CXc P w) k f fd ps sp ∧ mg x = some (.ref f) ∧ PySem.W.keepIn K (.ref f) = true ∧ Binds K fd ps []
structure MeY (P : Program) (w : World) (K : PySem.W.Frag) (mg : Str → Option Value) (base : Heap) (C : Addr) (m : Str) (k : Nat) (ps : List Str) (sp : Sp) : Prop where
  ex : ∃ (f : Addr) (fd : FuncData), FnOk P w K mg base (CXc P w) k f fd ps sp ∧ Meth K C m f ∧ Binds K fd ps []
structure MkrY (P : Program) (w : World) (K : PySem.W.Frag) (mg : Str → Option Value) (base : Heap) (x : Str) (C : Addr) (k : Nat) (ps : List Str) (dvs : List V) (sp : Sp) : Prop where
  ex : ∃ (f : Addr) (fd : FuncData) (ds : List Value), Mk K C f ∧ FnOk P w K mg base (CXc P w) k f fd ps sp ∧ mg x = some (.ref C) ∧ Binds K fd ps ds ∧ Vals dvs ds
section
variable {X : Cx}
/-- what a callee lets out is let out -/
abbrev LetsC (X : Cx) (E : XK) : Prop := Passes (CXc X.prog X.w) X E
theorem pe_fy {E : XK} {x : Str} {k : Nat} {ps : List Str} {sp : Sp} {e : Expr} {es : List Expr} {t : TA} {p pos : Pos} (F : FnY X.prog X.w X.K X.mg X.base x k ps sp) (hx : LetsC X E) (hr : Room k X.A) (hg : Gl X x) (ha : PA X (e :: es) t)
    (hdb : (x == ("__debug__" : Str)) = false := by decide) (he : starEach (e :: es) X.env = (false, eval e X.env) :: starEach es X.env := by rfl) (hpl : (backTo pos (starEach es X.env)).any (·.1) = false := by rfl) :
    PE X (.Call (.Name x p) (e :: es) [] pos) (tCall sp [] E t) := by
  obtain ⟨f, fd, G, hm, hk, hb⟩ := F.ex
  exact pe_call G hr hg hm hk hb .nil hx ha hdb he hpl
theorem pe_mey {E : XK} {pl : Sem Bool} {C : Addr} {m : Str} {k : Nat} {ps : List Str} {sp : Sp} {o e : Expr} {es : List Expr} {t : TA} {ta : TE} {apos pos : Pos} (he : PE X o ta) (c : Cls X.K C) (M : MeY X.prog X.w X.K X.mg X.base C m k ps sp) (hx : LetsC X E) (hr : Room k X.A) (ha : PA X (e :: es) t)
    (hst : starEach (e :: es) X.env = (false, eval e X.env) :: starEach es X.env := by rfl) (hpl : (backTo pos (starEach es X.env)).any (·.1) = false := by rfl)
    (ht : eval (.Call (.Attribute o m apos) (e :: es) [] pos) X.env = (do
      let ov ← eval o X.env
      standAt apos.atName
      let (f, first) ← holding [ov] (getMethod ov m pl)
      callWith pos f first (backTo pos (starEach (e :: es) X.env)) (backToKw pos (keywordEach [] X.env))) := by rfl) :
    PE X (.Call (.Attribute o m apos) (e :: es) [] pos) (tMeth C m sp [] E ta t) := by
  obtain ⟨f, fd, G, hm, hb⟩ := M.ex
  exact pe_meth he c hm G hr hb .nil hx ha hst hpl ht
theorem pe_mey0 {E : XK} {pl : Sem Bool} {C : Addr} {m : Str} {k : Nat} {ps : List Str} {sp : Sp} {o : Expr} {ta : TE} {apos pos : Pos} (he : PE X o ta) (c : Cls X.K C) (M : MeY X.prog X.w X.K X.mg X.base C m k ps sp) (hx : LetsC X E) (hr : Room k X.A)
    (ht : eval (.Call (.Attribute o m apos) [] [] pos) X.env = (do
      let ov ← eval o X.env
      standAt apos.atName
      let (f, first) ← holding [ov] (getMethod ov m pl)
      callWith pos f first (backTo pos (starEach [] X.env)) (backToKw pos (keywordEach [] X.env))) := by rfl) :
    PE X (.Call (.Attribute o m apos) [] [] pos) (tMeth C m sp [] E ta tNil) := by
  obtain ⟨f, fd, G, hm, hb⟩ := M.ex
  exact pe_meth0 he c hm G hr hb .nil hx ht
theorem pe_mky {E : XK} {x : Str} {C : Addr} {k : Nat} {ps : List Str} {dvs : List V} {sp : Sp} {e : Expr} {es : List Expr} {t : TA} {p pos : Pos} (M : MkrY X.prog X.w X.K X.mg X.base x C k ps dvs sp) (hx : LetsC X E) (hr : Room (k + 1) X.A) (hg : Gl X x) (ha : PA X (e :: es) t)
    (hdb : (x == ("__debug__" : Str)) = false := by decide) (he : starEach (e :: es) X.env = (false, eval e X.env) :: starEach es X.env := by rfl) (hpl : (backTo pos (starEach es X.env)).any (·.1) = false := by rfl) :
    PE X (.Call (.Name x p) (e :: es) [] pos) (tMake C sp dvs E t) := by
  obtain ⟨f, fd, ds, M, G, hm, hb, hd⟩ := M.ex
  exact pe_make M G hr hg hm hb hd hx ha hdb he hpl
theorem lets_ofC {E : XK} (tk : TakesC X (fun cls d _ H => E cls d H)) : LetsC X E := passesC_call tk fun _ _ _ _ h => h
theorem u1H {k : Nat} {A : Around} (r : L2H.RoomH k A) : A.units + 1 < cLine := by have := r.un; omega
theorem letsC0 : LetsC X E0 := fun _ _ _ _ _ _ _ h => by obtain ⟨_, _, _, _, _, _, _, _, _, _, _, _, z⟩ := h; exact z.elim
end
/-- a def's own wish -/
theorem takesY {P : Program} {w : World} {K : PySem.W.Frag} {mg : Str → Option Value} {base : Heap} {N : List Str} {qual : Str} {scope : Scope} {f : Addr} {cdv : Value} {A : Around} {outer : List Env} {s : Shared} {H : Hp} {E : XK} :
    TakesC (cxOf (CXc P w) P w K mg base N qual scope f cdv A outer s H E) (fun cls d _ H => E cls d H) := takesC_of rfl rfl rfl rfl
theorem Fun_okY {P : Program} {w : World} {K : PySem.W.Frag} {mg : Str → Option Value} {base : Heap} {x qual : Str} {st : Stmt} {f : Addr} {fd : FuncData} {N ps : List Str} {k : Nat} {sp : Sp} (F : Fun K x qual st f fd) (S : FnScope N ps (defScope st)) (len : ∀ vs H Q E, sp vs H Q E → vs.length = ps.length)
    (hbody : ∀ (cdv : Value) (A : Around) (outer : List Env) (s : Shared) (H : Hp) (vs : List V) (Q : VK) (E : XK), Room k (A.deeper (envOfC qual (defScope st) s.heap.objs.size f cdv)) → sp vs H Q E →
      ∃ t, PSs (cxOf (CXc P w) P w K mg base N qual (defScope st) f cdv A outer s H E) (defBody st) t ∧ t { nx := fun _ H' => Q .non H', rt := Q } (L2.start N vs) H) : FnOk P w K mg base (CXc P w) (k + 1) f fd ps sp := by
  obtain ⟨oc, od, kV, doc, pm, an, cdv, ct, osl, rfl, lk, hcd⟩ := F.ex
  exact fn_of lk hcd S len fun A outer s H vs Q E hr hsp => hbody cdv A outer s H vs Q E hr hsp
section
variable {X : Cx}
theorem pmk_own0N {C : Addr} {bmB : List Value} {B newId initId : String} {x : Str} {p pos : Pos} (F : ExcBaseFacts B newId initId bmB) (q : PySem.W.excIn X.K C bmB newId = true) (gC : X.mg x = some (.ref C))
    (kC : PySem.W.keepIn X.K (.ref C) = true) (r : Raises X (.ref C)) (hg : Gl X x) (hdb : (x == ("__debug__" : Str)) = false := by decide) : L2N.PMk X (.Call (.Name x p) [] [] pos) (fun _ H Q => Q (.ref C) none H) := by
  intro pins s σ H Q I h
  refine wpAny_Call_Name_kw (ld_glob I hg gC ?_ hdb)
  refine PySem.W.callWith_K0 I.kIn kC ?_
  show wpAny _ _ (call (.ref C) []) _ _ _
  obtain ⟨bm, N, nm, qn, bs, hdct, sn, sub, ab, col, dd, k0, k1, k2, k3, k5, mN, hC, hN, hni, T⟩ := exc_obj I.kIn q
  refine wpAny_call_exc_subT F T hC hN hni (fun h' e hm => ?_) (by show 0 ≤ sizeLine; exact Nat.zero_le _)
  exact L2N.mk_of I hm r h (I.hok.gone hm.new)
theorem pmk_ownVN {C : Addr} {x : Str} {p pos : Pos} (h : XpV X.K C) (gC : X.mg x = some (.ref C)) (hg : Gl X x) (hdb : (x == ("__debug__" : Str)) = false := by decide) : L2N.PMk X (.Call (.Name x p) [] [] pos) (fun _ H Q => Q (.ref C) none H) :=
  pmk_own0N F.excBase_ValueError h.q gC h.kp (raises_own h.h1 h.h2) hg hdb
end
section
variable {X : Cx} {o e : Expr} {es : List Expr} {to te : TE} {ta : TA} {f : Str} {p p' p1 p2 pos : Pos}
theorem mk_endN {pins : List (Addr × Obj)} {σ : L2.St} {H1 H2 : Hp} {Q : XK} {hp hp2 h2 : Heap} {g1 g2 : Array GenState} {d1 d2 : Drawn} {t1 t2 : Nat} {os1 os2 : OsState} {a C d : Addr} {fs : List (Str × V)} (T : Raises X (.ref C)) (I1 : Inv X pins σ H1 ⟨hp, g1, d1, t1, os1⟩)
    (ha : hp.objs.size ≤ a) (k : ∀ b o, hp.get? b = some o → hp2.get? b = some o) (un : Un (frs X.stack) [] (upd H1 a (exo a C none)) H2 hp2 h2) (hok : HOk X.prog X.w H2 h2) (ho : os2 = os1) (hb : AllBare g2)
    (ea : H2 a = some (exo a C (some d))) (ed : H2 d = some (exd d fs)) (hd1 : H1 d = none) (q : Q (.ref C) (some d) (upd (del H2 a) d (.xd fs)))   : L2N.MkP X pins σ Q (.ref a) ⟨h2, g2, d2, t2, os2⟩ := by
  obtain ⟨t0, G, J, kG, ge, hoe, na⟩ := mk_end0 (d2 := d2) (t2 := t2) I1 ha k un hok ho hb ea ed hd1
  exact ⟨a, _, _, ⟨G, g2, d2, t2, os2⟩, _, .ref C, some d, rfl, J, kG, ge, hoe, ⟨rfl, rfl, fun vs e => by cases e; rfl⟩, rfl, rfl, na, rfl, hb, T, q⟩
theorem pmk_oexN {CX : CXT} {x : Str} {C fI : Addr} {k : Nat} {fd : FuncData} {ps : List Str} {sp : Sp} {ds : List Value} {dvs : List V} (T : OexC X.K C) (iC : PySem.W.findIn X.K (.ref C) "__init__" = some (some (.ref fI))) (tI : PySem.W.typeIn X.K (.ref fI) = some (.type "function"))
    (F1 : FnOk X.prog X.w X.K X.mg X.base CX k fI fd ps sp) (hr : Room (k + 1) X.A) (hb : Binds X.K fd ps ds) (hd : Vals dvs ds) (hx : Passes CX X (fun _ _ _ => False)) (hg : Gl X x) (hm : X.mg x = some (.ref C)) (ha : PA X (e :: es) ta)
    (hdb : (x == ("__debug__" : Str)) = false := by decide) (he : starEach (e :: es) X.env = (false, eval e X.env) :: starEach es X.env := by rfl) (hpl : (backTo pos (starEach es X.env)).any (·.1) = false := by rfl) :
    L2N.PMk X (.Call (.Name x p) (e :: es) [] pos) (tMkO C sp dvs ta) := by
  intro pins s σ H Q I h
  obtain ⟨nm, q, N, bs, bm, sn, sub, ab, col, dd, k0, k1, k2, k3, k5, hC, hbm⟩ := T.cls
  refine wpAny_Call_Name_kw (ld_glob I hg hm ?_ hdb)
  refine PySem.W.callWith_K (h₀ := X.base) I.ok.mod.kin T.kC (thn (ha.run pos pins s σ H _ I h) fun us s1 ⟨vs, H1, I1, r1, hz, q1⟩ => ⟨I1.kIn, ?_⟩) he hpl
  show wpAny _ _ (call (.ref C) us) _ _ _
  obtain ⟨hp, g, dr, tk, os⟩ := s1
  have hsz : hp.objs.size ≤ hp.objs.size + 1 := Nat.le_succ _
  have hn : H1 (hp.objs.size + 1) = none := I1.hok.fresh hsz
  have hq := q1 (hp.objs.size + 1) hn
  have kk : ∀ b o, hp.get? b = some o → ((hp.push (PySem.W.kdv_tup us)).push (PySem.HandSPX.excO C hp.objs.size)).get? b = some o := fun b o e => Heap.get?_push_of_some _ (Heap.get?_push_of_some _ e)
  have hget : ((hp.push (PySem.W.kdv_tup us)).push (PySem.HandSPX.excO C hp.objs.size)).get? (hp.objs.size + 1) = some (PySem.HandSPX.excO C hp.objs.size) := by heap_get
  have I2 : Inv X pins σ (upd H1 (hp.objs.size + 1) (exo (hp.objs.size + 1) C none)) ⟨(hp.push (PySem.W.kdv_tup us)).push (PySem.HandSPX.excO C hp.objs.size), g, dr, tk, os⟩ :=
    I1.laid (t' := tk) (a := hp.objs.size + 1) (o := exo (hp.objs.size + 1) C none) (h' := (hp.push (PySem.W.kdv_tup us)).push (PySem.HandSPX.excO C hp.objs.size)) kk hsz (exo_ok hget)
  have r2 : Vals (V.ref (hp.objs.size + 1) :: (vs ++ dvs)) (Value.ref (hp.objs.size + 1) :: (us ++ ds)) := .cons rfl (r1.append hd)
  have hl : (Value.ref (hp.objs.size + 1) :: us ++ ds).length = ps.length := by
    have e := r2.length
    rw [F1.len _ _ _ _ hq] at e
    exact e.symm
  have hus : us.length ≤ sizeLine := by
    rw [← Paired.length r1, sizeLine_eq]
    omega
  refine wpAny_call (PySem.HandSPX.call_own F.excBase_ValueError (fun Y => PySem.HandSPX.refsVE_contains Y bm hbm) (I1.kIn _ _ hC) (PySem.W.looks_findIn I1.kIn iC) (fun self => PySem.W.bind_fn I1.kIn self tI) hus
    (codeAny_mono (F1.run _ X.stack _ _ ⟨Value.ref (hp.objs.size + 1) :: us, []⟩ (Value.ref (hp.objs.size + 1) :: (us ++ ds)) _ _ (fun _ _ _ => False) (hr.make C us []) (I2.env0.make C us []) (hb _ (Value.ref (hp.objs.size + 1) :: us) I2.kIn hl) r2 hq) fun r s' hq' => ?_))
  cases r with
  | error er => exact hx pins σ _ _ er s' I2 hq'
  | ok fl =>
    cases fl with
    | ret u =>
      obtain ⟨v, H2, os2, bare2, un2, hok2, rv, ev, d, fs, ea, ed, hd1, q2⟩ := hq'
      subst ev
      obtain ⟨h2, g2, d2, t2, os'⟩ := s'
      exact ⟨rv, mk_endN (raises_own T.exC T.tyC) I1 hsz kk un2 hok2 os2 bare2 ea ed hd1 q2⟩
    | next => exact False.elim hq'
    | brk => exact False.elim hq'
    | cont => exact False.elim hq'
end
section
variable {X : Cx}
theorem pmk_oex0N {CX : CXT} {x : Str} {C fI : Addr} {k : Nat} {fd : FuncData} {ps : List Str} {sp : Sp} {ds : List Value} {dvs : List V} {p pos : Pos} (T : OexC X.K C) (iC : PySem.W.findIn X.K (.ref C) "__init__" = some (some (.ref fI))) (tI : PySem.W.typeIn X.K (.ref fI) = some (.type "function"))
    (F1 : FnOk X.prog X.w X.K X.mg X.base CX k fI fd ps sp) (hr : Room (k + 1) X.A) (hb : Binds X.K fd ps ds) (hd : Vals dvs ds) (hx : Passes CX X (fun _ _ _ => False)) (hg : Gl X x) (hm : X.mg x = some (.ref C))
    (hdb : (x == ("__debug__" : Str)) = false := by decide) :
    L2N.PMk X (.Call (.Name x p) [] [] pos) (tMkO C sp dvs tNil) := by
  intro pins s σ H Q I h
  obtain ⟨nm, q, N, bs, bm, sn, sub, ab, col, dd, k0, k1, k2, k3, k5, hC, hbm⟩ := T.cls
  refine wpAny_Call_Name_kw (ld_glob I hg hm ?_ hdb)
  obtain ⟨hz, q1⟩ := h
  refine PySem.W.callWith_K0 I.kIn T.kC ?_
  show wpAny _ _ (call (.ref C) []) _ _ _
  obtain ⟨hp, g, dr, tk, os⟩ := s
  have hsz : hp.objs.size ≤ hp.objs.size + 1 := Nat.le_succ _
  have hn : H (hp.objs.size + 1) = none := I.hok.fresh hsz
  have hq := q1 (hp.objs.size + 1) hn
  have kk : ∀ b o, hp.get? b = some o → ((hp.push (PySem.W.kdv_tup [])).push (PySem.HandSPX.excO C hp.objs.size)).get? b = some o := fun b o e => Heap.get?_push_of_some _ (Heap.get?_push_of_some _ e)
  have hget : ((hp.push (PySem.W.kdv_tup [])).push (PySem.HandSPX.excO C hp.objs.size)).get? (hp.objs.size + 1) = some (PySem.HandSPX.excO C hp.objs.size) := by heap_get
  have I2 : Inv X pins σ (upd H (hp.objs.size + 1) (exo (hp.objs.size + 1) C none)) ⟨(hp.push (PySem.W.kdv_tup [])).push (PySem.HandSPX.excO C hp.objs.size), g, dr, tk, os⟩ :=
    I.laid (t' := tk) (a := hp.objs.size + 1) (o := exo (hp.objs.size + 1) C none) (h' := (hp.push (PySem.W.kdv_tup [])).push (PySem.HandSPX.excO C hp.objs.size)) kk hsz (exo_ok hget)
  have r2 : Vals (V.ref (hp.objs.size + 1) :: ([] ++ dvs)) (Value.ref (hp.objs.size + 1) :: ([] ++ ds)) := .cons rfl (Vals.append .nil hd)
  have hl : (Value.ref (hp.objs.size + 1) :: [] ++ ds).length = ps.length := by
    have e := r2.length
    rw [F1.len _ _ _ _ hq] at e
    exact e.symm
  refine wpAny_call (PySem.HandSPX.call_own F.excBase_ValueError (fun Y => PySem.HandSPX.refsVE_contains Y bm hbm) (I.kIn _ _ hC) (PySem.W.looks_findIn I.kIn iC) (fun self => PySem.W.bind_fn I.kIn self tI) (Nat.zero_le _)
    (codeAny_mono (F1.run _ X.stack _ _ ⟨Value.ref (hp.objs.size + 1) :: [], []⟩ (Value.ref (hp.objs.size + 1) :: ([] ++ ds)) _ _ (fun _ _ _ => False) (hr.make C [] []) (I2.env0.make C [] []) (show BindsTo _ _ _ (ps.zip (Value.ref (hp.objs.size + 1) :: ([] ++ ds))) from hb _ (Value.ref (hp.objs.size + 1) :: []) I2.kIn hl) r2 hq) fun r s' hq' => ?_))
  cases r with
  | error er => exact hx pins σ _ _ er s' I2 hq'
  | ok fl =>
    cases fl with
    | ret u =>
      obtain ⟨v, H2, os2, bare2, un2, hok2, rv, ev, d, fs, ea, ed, hd1, q2⟩ := hq'
      subst ev
      obtain ⟨h2, g2, d2, t2, os'⟩ := s'
      exact ⟨rv, mk_endN (raises_own T.exC T.tyC) I hsz kk un2 hok2 os2 bare2 ea ed hd1 q2⟩
    | next => exact False.elim hq'
    | brk => exact False.elim hq'
    | cont => exact False.elim hq'
theorem pmk_xN {x f : Str} {C : Addr} {k : Nat} {dvs : List V} {e : Expr} {es : List Expr} {ta : TA} {p pos : Pos} (Z : Xcl X.prog X.w X.K X.mg X.base x C k f dvs) (hr : Room (k + 1) X.A) (hg : Gl X x) (ha : PA X (e :: es) ta) (mono : ∀ σ H (Q Q' : List V → Hp → Prop), (∀ vs H, Q vs H → Q' vs H) → ta σ H Q → ta σ H Q')
    (hdb : (x == ("__debug__" : Str)) = false := by decide) (he : starEach (e :: es) X.env = (false, eval e X.env) :: starEach es X.env := by rfl) (hpl : (backTo pos (starEach es X.env)).any (·.1) = false := by rfl) :
    L2N.PMk X (.Call (.Name x p) (e :: es) [] pos) (tXmk C f dvs ta) := by
  obtain ⟨fI, fd, ds, ps, iC, tI, F, hb, hd⟩ := Z.ex
  have M := pmk_oexN (p := p) (pos := pos) Z.T iC tI F hr hb hd pass0 hg Z.hm ha hdb he hpl
  intro pins s σ H Q I h
  refine M pins s σ H Q I (mono _ _ _ _ (fun vs H1 ⟨v, ev, q⟩ => ⟨?_, fun a na => ?_⟩) h)
  · have := congrArg List.length ev
    simp only [List.length_append, List.length_cons, List.length_nil] at this
    omega
  · rw [ev]
    exact xi_end Z.T Z.no q a na
theorem pmk_x0N {x f : Str} {C : Addr} {k : Nat} {dvs : List V} {p pos : Pos} (Z : Xcl X.prog X.w X.K X.mg X.base x C k f dvs) (hr : Room (k + 1) X.A) (hg : Gl X x) (hdb : (x == ("__debug__" : Str)) = false := by decide) :
    L2N.PMk X (.Call (.Name x p) [] [] pos) (tXmk C f dvs tNil) := by
  obtain ⟨fI, fd, ds, ps, iC, tI, F, hb, hd⟩ := Z.ex
  have M := pmk_oex0N (p := p) (pos := pos) Z.T iC tI F hr hb hd pass0 hg Z.hm hdb
  intro pins s σ H Q I h
  obtain ⟨v, ev, q⟩ := h
  refine M pins s σ H Q I ⟨Nat.zero_le _, fun a na => ?_⟩
  rw [ev]
  exact xi_end Z.T Z.no q a na
end
end Bw

/-! try with except clauses over any body: what the body's calls are refused with is told once -/
namespace Bw
open PySem PySem.Spec PyProof.Rows L2 L2H HotX
theorem takes_lenC {X : Cx} {W : WX} (tk : TakesC X W) : TakesC X (fun cls d σ H => σ.length = X.N.length → W cls d σ H) := fun u s' x => by
  obtain ⟨a, B, sI, pins, σ, H, cls, d, e, I, nb, up, sky, na, os, ag, w⟩ := x
  exact tk u s' ⟨a, B, sI, pins, σ, H, cls, d, e, I, nb, up, sky, na, os, ag, w I.len⟩
theorem takesC0 {X : Cx} : TakesC X (fun _ _ _ _ => False) := fun _ _ ⟨_, _, _, _, _, _, _, _, _, _, _, _, _, _, _, _, w⟩ => w.elim
section
variable {X : Cx} {body : List Stmt} {h₀ : ExceptHandler} {hds : List ExceptHandler} {l : List (List Value × Nat × (Addr → Value → Option Addr → TS))} {pos : Pos} {tb : XK → TS} {Wout : WX}
/-- the reading of a try -/
def tTryE (K : PySem.W.Frag) (n : Nat) (Wout : WX) (l : List (List Value × Nat × (Addr → Value → Option Addr → TS))) (tb : XK → TS) : TS := fun D σ H => ∃ Ech : XK, (∀ cls d (σ' : L2.St) H', σ'.length = n → Ech cls d H' → wMas K Wout D l cls d σ' H') ∧ tb Ech D σ H
theorem ps_try_E (hs : X.stack = X.env :: X.outer) (hf : X.env.frame = some X.env.locals) (hN : X.N.Nodup) (tk : TakesC X Wout) (hsz : ∀ x ∈ l, x.1.length ≤ 1000)
    (hb : ∀ (E : XK) (pn : List (Addr × Obj)) (xe : Value → Shared → Prop), LetsC (X.tr pn xe) E → PassesOwn (model X.prog X.w) X.A X.env xe → PSs (X.tr pn xe) body (tb E))
    (hh : HdsC X (h₀ :: hds) l) : PS X (.Try body (h₀ :: hds) [] [] pos) (tTryE X.K X.N.length Wout l tb) := by
  refine ⟨fun pins s σ H D I h => ?_⟩
  refine (ps_try_mac (pos := pos) (tb := fun W D σ H => ∃ Ech : XK, (∀ cls d (σ' : L2.St) H', σ'.length = X.N.length → Ech cls d H' → W cls d σ' H') ∧ tb Ech D σ H) hs hf hN tk hsz (fun W pn xe tk' po => ⟨fun pins s σ H D I h => ?_⟩) hh).run pins s σ H D I h
  obtain ⟨Ech, hW, h3⟩ := h
  exact (hb Ech pn xe (lets_ofC ((takes_lenC tk').imp fun c d σ H e hl => hW c d σ H hl e)) po).run pins s σ H D I h3
end
end Bw

/-! the kinds of errors in the later laws (k55 on) -/
namespace Bw
open PySem PySem.Spec PyProof.Rows L2
def kind2Names : List Str := ["Broken", "Full", "Gone", "NoDeed", "NoFile", "NoName", "NoNumber", "NoPages", "NoQuery", "NoShelf", "NoSize", "NoSlot", "NoText", "Taken", "Torn"]
/-- the signs of the bases -/
def dueOf (i : Nat) : Str := if i = 0 then "R" else if i = 1 then "O" else if i = 2 then "KL" else if i = 4 then "L" else if i = 11 then "L" else if i = 14 then "R" else "WV"
def basS (c : Nat) (i : Nat) : Bool := decide (c ∈ (dueOf i).cps.toList)
def six (W : Addr) : List (Nat × Value) := [(87, .ref W), (82, .type "RuntimeError"), (79, .type "OverflowError"), (75, .type "KeyError"), (76, .type "LookupError"), (86, .type "ValueError")]
def kind2B (K : PySem.W.Frag) (Cs : List Addr) (W D : Addr) (i : Nat) : Bool :=
  excB K D && ((Cs.zipIdx.all fun x => decide (PySem.W.kitOne K (.ref D) (.ref x.1) = some (decide (x.2 = i)))) && ((six W).all fun p => decide (PySem.W.kitOne K (.ref D) p.2 = some (basS p.1 i))))
structure Kind2 (K : PySem.W.Frag) (Cs : List Addr) (W D : Addr) (i : Nat) : Prop where
  ex : ExcC K D
  is : ∀ (j : Nat) (C : Addr), Cs[j]? = some C → PySem.W.kitOne K (.ref D) (.ref C) = some (decide (j = i))
  w : PySem.W.kitOne K (.ref D) (.ref W) = some (basS 87 i)
  r : PySem.W.kitOne K (.ref D) (.type "RuntimeError") = some (basS 82 i)
  o : PySem.W.kitOne K (.ref D) (.type "OverflowError") = some (basS 79 i)
  k : PySem.W.kitOne K (.ref D) (.type "KeyError") = some (basS 75 i)
  l : PySem.W.kitOne K (.ref D) (.type "LookupError") = some (basS 76 i)
  v : PySem.W.kitOne K (.ref D) (.type "ValueError") = some (basS 86 i)
theorem kind2B_ok {K : PySem.W.Frag} {Cs : List Addr} {W D : Addr} {i : Nat} (h : kind2B K Cs W D i = true) : Kind2 K Cs W D i := by
  unfold kind2B six at h
  simp only [Bool.and_eq_true, decide_eq_true_eq, List.all_eq_true] at h
  obtain ⟨h1, h2, h3⟩ := h
  refine ⟨excB_ok h1, fun j C e => ?_, h3 (87, .ref W) (by simp), h3 (82, .type "RuntimeError") (by simp), h3 (79, .type "OverflowError") (by simp), h3 (75, .type "KeyError") (by simp), h3 (76, .type "LookupError") (by simp), h3 (86, .type "ValueError") (by simp)⟩
  exact h2 (C, j) (by
    rw [List.mem_iff_getElem?]
    exact ⟨j, by simp [List.getElem?_zipIdx, e]⟩)
def spKind2 (K : PySem.W.Frag) (Cs : List Addr) (W : Addr) : SpP := fun p vs H Q => ∃ (D : Addr) (d : Option Addr) (i : Nat) (nm : Str), vs = [.ref p.1] ∧ Zc (.ref D) d p.2 ∧ (∃ vs, p.2.data = .fields vs) ∧ Kind2 K Cs W D i ∧ XdOk d H ∧ kind2Names[i]? = some nm ∧ ∀ H', Same H H' → Q (.str ("!" ++ nm)) H'
theorem kind2_lt {i : Nat} {nm : Str} (h : kind2Names[i]? = some nm) : i < 15 := (List.getElem?_eq_some_iff.mp h).1
theorem cnt15 {i : Nat} (h : i < 15) : ((([decide (0 = i), decide (1 = i), decide (2 = i), decide (3 = i), decide (4 = i), decide (5 = i), decide (6 = i), decide (7 = i), decide (8 = i), decide (9 = i), decide (10 = i), decide (11 = i), decide (12 = i), decide (13 = i), decide (14 = i)] : List Bool).count true : Nat) : Int) = 1 := by
  have : ∀ i, i < 15 → ((([decide (0 = i), decide (1 = i), decide (2 = i), decide (3 = i), decide (4 = i), decide (5 = i), decide (6 = i), decide (7 = i), decide (8 = i), decide (9 = i), decide (10 = i), decide (11 = i), decide (12 = i), decide (13 = i), decide (14 = i)] : List Bool).count true : Nat) : Int) = 1 := by decide
  exact this i h
theorem idx15 {i : Nat} (h : i < 15) : ([decide (0 = i), decide (1 = i), decide (2 = i), decide (3 = i), decide (4 = i), decide (5 = i), decide (6 = i), decide (7 = i), decide (8 = i), decide (9 = i), decide (10 = i), decide (11 = i), decide (12 = i), decide (13 = i), decide (14 = i)] : List Bool)[i]? = some true := by
  have : ∀ i, i < 15 → ([decide (0 = i), decide (1 = i), decide (2 = i), decide (3 = i), decide (4 = i), decide (5 = i), decide (6 = i), decide (7 = i), decide (8 = i), decide (9 = i), decide (10 = i), decide (11 = i), decide (12 = i), decide (13 = i), decide (14 = i)] : List Bool)[i]? = some true := by decide
  exact this i h
theorem bef15 {i : Nat} (h : i < 15) (m : Nat) (hm : m < i) : ([decide (0 = i), decide (1 = i), decide (2 = i), decide (3 = i), decide (4 = i), decide (5 = i), decide (6 = i), decide (7 = i), decide (8 = i), decide (9 = i), decide (10 = i), decide (11 = i), decide (12 = i), decide (13 = i), decide (14 = i)] : List Bool)[m]? ≠ some true := by
  have : ∀ i, i < 15 → ∀ m, m < i → ([decide (0 = i), decide (1 = i), decide (2 = i), decide (3 = i), decide (4 = i), decide (5 = i), decide (6 = i), decide (7 = i), decide (8 = i), decide (9 = i), decide (10 = i), decide (11 = i), decide (12 = i), decide (13 = i), decide (14 = i)] : List Bool)[m]? ≠ some true := by decide
  exact this i h m hm
theorem nam15 {i : Nat} {nm : Str} (h : kind2Names[i]? = some nm) : atI (kind2Names.map V.str) (i : Int) = some (.str nm) := atI_nat (by rw [List.getElem?_map, h]; rfl)
/-- the dict of the bases -/
def dueKvs : List (Key × V) := [(.inr "Broken", .str "R"), (.inr "Torn", .str "R"), (.inr "Full", .str "O"), (.inr "Gone", .str "KL"), (.inr "NoFile", .str "L"), (.inr "NoSlot", .str "L")]
theorem due_get {i : Nat} {nm : Str} (h : kind2Names[i]? = some nm) : (valV (mergeK [] dueKvs) (.inr nm)).getD (.str "WV") = .str (dueOf i) := by
  have hi := kind2_lt h
  have e : ∀ i, i < 15 → ∀ nm, kind2Names[i]? = some nm → (valV (mergeK [] dueKvs) (.inr nm)).getD (.str "WV") = .str (dueOf i) := by
    intro i hi
    have hd : i = 0 ∨ i = 1 ∨ i = 2 ∨ i = 3 ∨ i = 4 ∨ i = 5 ∨ i = 6 ∨ i = 7 ∨ i = 8 ∨ i = 9 ∨ i = 10 ∨ i = 11 ∨ i = 12 ∨ i = 13 ∨ i = 14 := by omega
    rcases hd with rfl | rfl | rfl | rfl | rfl | rfl | rfl | rfl | rfl | rfl | rfl | rfl | rfl | rfl | rfl <;> (intro nm e; cases e; decide +kernel)
  exact e i hi nm h
theorem kind2_len {i : Nat} {nm : Str} (h : kind2Names[i]? = some nm) : nm.length ≤ 20 := by
  have hi := kind2_lt h
  have hd : i = 0 ∨ i = 1 ∨ i = 2 ∨ i = 3 ∨ i = 4 ∨ i = 5 ∨ i = 6 ∨ i = 7 ∨ i = 8 ∨ i = 9 ∨ i = 10 ∨ i = 11 ∨ i = 12 ∨ i = 13 ∨ i = 14 := by omega
  rcases hd with rfl | rfl | rfl | rfl | rfl | rfl | rfl | rfl | rfl | rfl | rfl | rfl | rfl | rfl | rfl <;> (cases h; decide +kernel)
end Bw

open PySem PySem.Spec L2 Bw
local macro_rules | `(tactic| wtm_at "look") => `(tactic| first | assumption | with_reducible exact upd_same | ((with_reducible refine' same_at ?ws ?wt); (case ws => assumption); (case wt => wtm_at "look")) | ((with_reducible refine' kb_at ?ws ?wt ?wn); (case ws => assumption); (case wt => wtm_at "look"); (case wn => wtm_at "ne")))
local macro_rules | `(tactic| wtm_at "ne") => `(tactic| first | assumption | ((with_reducible refine Ne.symm ?ws); (case ws => assumption)) | ((with_reducible refine' ne_of_none ?wa ?wb); (case wb => assumption); (case wa => wtm_at "look")) | ((with_reducible refine' Ne.symm (ne_of_none ?wa ?wb)); (case wb => assumption); (case wa => wtm_at "look")))
local macro_rules | `(tactic| wtm_at "seq") => `(tactic| first | assumption | ((with_reducible refine' SqL.of ?ws); (case ws => wtm_at "look")) | ((with_reducible refine' SqT.of ?ws); (case ws => wtm_at "look")) | ((with_reducible refine' Same.seq ?ws ?wt); (case ws => assumption); (case wt => wtm_at "seq")) | ((with_reducible refine' same_t ?ws ?wt); (case ws => assumption); (case wt => wtm_at "seq")))
local macro_rules | `(tactic| wtm_at "ix") => `(tactic| first | assumption | exact atI_nat (j := 0) rfl | exact atI_nat (j := 1) rfl | exact atI_nat (j := 2) rfl | exact atI_nat (j := 3) rfl | exact atI_nat (j := 4) rfl)
local macro_rules | `(tactic| wtm_at "len") => `(tactic| first | (refine sz ?_; simp only [List.length_cons, List.length_nil]; omega) | (refine sz ?_; omega))
local macro_rules | `(tactic| wtm_at "fld") => `(tactic| first | assumption | exact lk_hit | ((with_reducible refine' lk_miss ?wa ?wb); (case wa => decide +kernel); (case wb => wtm_at "fld")) | rfl)
local macro_rules | `(tactic| wtm_at "tyx") => `(tactic| first | assumption | with_reducible exact tyx_int | with_reducible exact tyx_bl | with_reducible exact tyx_str | with_reducible exact tyx_non | ((with_reducible refine' tyx_lst ?wa); (case wa => wtm_at "look")) | ((with_reducible refine' tyx_tup ?wa); (case wa => wtm_at "look")))
local macro_rules | `(tactic| wtm_at "ixn") => `(tactic| first | assumption | exact Evl.ixN_nat (j := 0) (by simp) | exact Evl.ixN_nat (j := 1) (by simp) | exact Evl.ixN_nat (j := 2) (by simp) | rfl)
local macro_rules | `(tactic| wtm_at "cond") => `(tactic| first | assumption | (show (0 : Int) < _; omega) | exact mulL (by omega) | exact mulR (by omega) | exact divU (b := 64) (by omega) (by omega) (by decide) (by decide) | exact powU (a := 200) (by omega) (by decide) (by decide) (by decide))
local macro_rules | `(tactic| wtm_at "xd") => `(tactic| first | assumption | exact xdOk_none | ((with_reducible refine' XdOk.same ?wx ?ws); (case ws => assumption); (case wx => wtm_at "xd")) | ((with_reducible refine' xdOk_at ?wa); (case wa => wtm_at "look")))
local macro_rules | `(tactic| wtm_at "new") => `(tactic| (intro pN nN; generalize eN : upd _ pN _ = HN; have sN := same_gen nN eN; have hN := at_gen eN; clear eN))
local macro_rules | `(tactic| wtm_at "mut") => `(tactic| (generalize eM : upd _ _ _ = HM; have kM := kb_gen eM; have hM := at_gen eM; clear eM; (repeat (first | rw [pf_hit] at hM | rw [pf_nil] at hM | ((rw [pf_miss] at hM); rotate_left; decide +kernel)))))
local macro_rules | `(tactic| wtm_at "make") => `(tactic| (intro pR dR nR ndR neR; generalize eR : upd (upd _ dR _) pR _ = HR; have sR := same_make nR ndR eR; have hR := at_gen eR; clear eR neR))
local macro_rules | `(tactic| wtm_at "shp") => `(tactic| simp [SeqAt.shaped, PyData.canLay0, PyData.canLayAll0, PyData.depth, PyData.depthAll])
local macro_rules | `(tactic| wtm_at "kit") => `(tactic| first | exact kit_int_int | exact kit_int_bool | exact kit_int_str | exact kit_int_list | exact kit_int_tuple | exact kit_int_dict | exact kit_bool_int | exact kit_bool_bool | exact kit_bool_str | exact kit_bool_list | exact kit_bool_tuple | exact kit_bool_dict | exact kit_str_int | exact kit_str_bool | exact kit_str_str | exact kit_str_list | exact kit_str_tuple | exact kit_str_dict | exact kit_list_int | exact kit_list_bool | exact kit_list_str | exact kit_list_list | exact kit_list_tuple | exact kit_list_dict | exact kit_tuple_int | exact kit_tuple_bool | exact kit_tuple_str | exact kit_tuple_list | exact kit_tuple_tuple | exact kit_tuple_dict | exact kit_NoneType_int | exact kit_NoneType_bool | exact kit_NoneType_str | exact kit_NoneType_list | exact kit_NoneType_tuple | exact kit_NoneType_dict | exact kit_dict_int | exact kit_dict_bool | exact kit_dict_str | exact kit_dict_list | exact kit_dict_tuple | exact kit_dict_dict)
local macro_rules | `(tactic| wtm_at "w1") => `(tactic| first
  | with_reducible refine w_seq ?_
  | with_reducible refine w_next ?_
  | with_reducible refine w_set ?_
  | with_reducible refine w_asg ?_
  | with_reducible refine w_par ?_
  | with_reducible refine w_ret ?_
  | with_reducible refine w_drop ?_
  | with_reducible refine w_if ?_
  | with_reducible refine w_ifE ?_
  | ((with_reducible refine' w_var ?wv ?_); (case wv => rfl))
  | with_reducible refine w_c ?_
  | with_reducible refine w_op ?_
  | with_reducible refine w_un ?_
  | with_reducible refine w_I0 ?_
  | with_reducible refine w_U ?_
  | with_reducible refine w_pow10_5 ?_
  | with_reducible refine w_pow10_8 ?_
  | with_reducible refine w_pow10_9 ?_
  | with_reducible refine w_pow10_10 ?_
  | with_reducible refine w_pow10_11 ?_
  | with_reducible refine w_pow10_12 ?_
  | with_reducible refine w_pow10_18 ?_
  | ((with_reducible refine w_I ?wc ?_); (case' wc => try wtm_at "cond"))
  | ((with_reducible refine' w_setL ?wh ?wj ?_); (case wh => wtm_at "look"); (case wj => wtm_at "ixn"); intro hS kS eS; (try dsimp only [List.set_cons_zero, List.set_cons_succ] at eS))
  | ((with_reducible refine w_eq ?wh ?_); (case wh => rfl))
  | ((with_reducible refine w_ne ?wh ?_); (case wh => rfl))
  | with_reducible refine w_is0 ?_
  | with_reducible refine w_isnot0 ?_
  | with_reducible refine w_test ?_
  | with_reducible refine w_tB ?_
  | with_reducible refine w_bl ?_
  | ((with_reducible refine' w_isP ?wa ?wb ?wc ?_); (case wa => assumption); (case wb => assumption); (case wc => wtm_at "xd"))
  | ((with_reducible refine' w_isPt ?wa ?wb ?wc ?_); (case wa => assumption); (case wb => assumption); (case wc => wtm_at "xd"))
  | ((with_reducible refine' w_isPT ?wa ?wt ?wb ?wc ?_); (case wa => assumption); (case wt => wtm_at "look"); (case wb => assumption); (case wc => wtm_at "xd"))
  | with_reducible refine w_bmL ?_
  | with_reducible refine w_bm0 ?_
  | ((with_reducible refine' w_tyL ?wh ?_); (case wh => wtm_at "seq"))
  | with_reducible refine w_callP ?_
  | with_reducible refine w_lcE ?_
  | with_reducible refine w_lc2E ?_
  | with_reducible refine w_iStr ?_
  | with_reducible refine w_strE ?_
  | with_reducible refine w_iEnum ?_
  | ((with_reducible refine' w_enum ?wh ?_); (case wh => wtm_at "seq"))
  | with_reducible refine w_yes ?_
  | with_reducible refine w_m1 ?_
  | with_reducible refine w_sl ?_
  | with_reducible refine w_noPart ?_
  | with_reducible refine w_part ?_
  | with_reducible refine w_intE ?_
  | ((with_reducible refine' w_slS ?wh ?_); (case wh => wtm_at "len"))
  | ((with_reducible refine' w_slL ?wh ?_); (case wh => wtm_at "seq"); intro pC HC nC sC hC)
  | with_reducible refine w_m0 ?_
  | with_reducible refine w_isS ?_
  | with_reducible refine w_inS ?_
  | with_reducible refine w_notInS ?_
  | with_reducible refine w_xmk ?_
  | with_reducible refine w_xv ?_
  | with_reducible refine w_xv0 ?_
  | ((with_reducible refine' w_aug ?wv ?_); (case wv => rfl))
  | with_reducible refine w_ipI ?_
  | with_reducible refine w_rAdd ?_
  | with_reducible refine w_faug ?_
  | ((with_reducible refine' w_faug1 ?wh ?wc ?wn ?wl ?_); (case wh => wtm_at "look"); (case wc => assumption); (case wn => assumption); (case wl => wtm_at "fld"))
  | ((with_reducible refine' w_faug2 ?wh ?wl ?_); (case wh => wtm_at "look"); (case wl => (simp only [List.length_cons, List.length_nil]; omega)); wtm_at "mut")
  | with_reducible refine w_xfE ?_
  | ((with_reducible refine' w_xf ?wa ?wn ?wh ?wl ?_); (case wa => assumption); (case wn => assumption); (case wh => wtm_at "look"); (case wl => wtm_at "fld"))
  | ((with_reducible refine' w_cat ?wh ?wi ?wl ?_); (case wh => wtm_at "look"); (case wi => wtm_at "look"); (case wl => wtm_at "len"); intro pC HC nC sC hC; (try dsimp only [List.cons_append, List.nil_append] at hC))
  | with_reducible refine w_fmtE ?_
  | with_reducible refine w_joinE ?_
  | with_reducible refine w_js ?_
  | with_reducible refine w_jn ?_
  | ((with_reducible refine' w_jt ?wh ?_); (case wh => wtm_at "len"))
  | with_reducible refine w_isB ?_
  | with_reducible refine w_isnB ?_
  | with_reducible refine w_and ?_
  | with_reducible refine w_or ?_
  | with_reducible refine w_not ?_
  | with_reducible refine w_andV ?_
  | with_reducible refine w_orV ?_
  | with_reducible refine w_notV ?_
  | with_reducible refine w_chain ?_
  | with_reducible refine w_cons ?_
  | with_reducible refine w_nil ?_
  | with_reducible refine w_call ?_
  | with_reducible refine w_cb ?_
  | with_reducible refine w_tupE ?_
  | with_reducible refine w_lstE ?_
  | with_reducible refine w_abs ?_
  | with_reducible refine w_max ?_
  | with_reducible refine w_min ?_
  | with_reducible refine w_intI ?_
  | with_reducible refine w_intB ?_
  | ((with_reducible refine' w_lenL ?wh ?_); (case wh => wtm_at "seq"))
  | ((with_reducible refine' w_lenS ?wh ?_); (case wh => wtm_at "len"))
  | ((with_reducible refine' w_ixL ?wh ?wa ?_); (case wh => wtm_at "seq"); (case wa => wtm_at "ix"))
  | ((with_reducible refine' w_ixT ?wh ?wa ?_); (case wh => wtm_at "seq"); (case wa => wtm_at "ix"))
  | with_reducible refine w_gname ?_
  | with_reducible refine w_gsub ?_
  | with_reducible refine w_fldE ?_
  | ((with_reducible refine' w_fld ?wh ?wc ?wn ?wl ?_); (case wh => wtm_at "look"); (case wc => assumption); (case wn => assumption); (case wl => wtm_at "fld"))
  | with_reducible refine w_two ?_
  | with_reducible refine w_forE ?_
  | with_reducible refine w_iTup ?_
  | with_reducible refine w_iList ?_
  | with_reducible refine w_iRng1 ?_
  | with_reducible refine w_iRng2 ?_
  | ((with_reducible refine' w_itT ?wh ?_); (case wh => wtm_at "seq"))
  | ((with_reducible refine' w_itL ?wh ?_); (case wh => wtm_at "seq"))
  | with_reducible refine w_methE ?_
  | ((with_reducible refine' w_meth ?wh ?wl ?_); (case wh => wtm_at "look"); (case wl => wtm_at "fld"))
  | with_reducible refine w_makeE ?_
  | ((with_reducible refine makeG ?_); wtm_at "make")
  | ((with_reducible refine' w_isiB ?wt ?wk ?_); (case wt => wtm_at "tyx"); (case wk => wtm_at "kit"))
  | with_reducible refine w_sfld ?_
  | with_reducible refine w_gfldE ?_
  | ((with_reducible refine' w_st ?wh ?wc ?wn ?wl ?_); (case wh => wtm_at "look"); (case wc => assumption); (case wn => assumption); (case wl => (simp only [List.length_cons, List.length_nil]; omega)); wtm_at "mut")
  | ((with_reducible refine' w_gtup ?wh ?wn ?_); (case wh => wtm_at "seq"); (case wn => rfl))
  | with_reducible refine w_gcons ?_
  | with_reducible refine w_gnil ?_
  | with_reducible refine w_dnotE ?_
  | with_reducible refine w_dgetE ?_
  | with_reducible refine w_dputE ?_
  | with_reducible refine w_asg2 ?_
  | with_reducible refine w_iRng3 ?_
  | with_reducible refine w_makeK ?_
  | with_reducible refine iteT ?_
  | with_reducible refine iteF ?_
  | ((with_reducible refine' iteT' ?wb ?_); (case wb => rfl))
  | ((with_reducible refine' iteF' ?wb ?_); (case wb => rfl))
  | ((with_reducible refine newL ?wl ?_); (case wl => wtm_at "len"); wtm_at "new"))
local macro_rules | `(tactic| wtm_at "w0") => `(tactic| dsimp only [cxOf, L2H.cxH, Cx.nox, Cx.wish, L2.start, List.map_cons, List.map_nil, List.length_cons, List.length_nil, List.cons_append, List.nil_append, List.replicate, Nat.reduceAdd, Nat.reduceSub])
local macro_rules | `(tactic| wtm_at "wp") => `(tactic| repeat (wtm_at "w1"))
local macro_rules | `(tactic| wtm_at "wq") => `(tactic| repeat ((fail_if_success (with_reducible refine w_if ?_)); wtm_at "w1"))

namespace K74
def topS (i : Nat) : Stmt := PySem.Challenge.pw_blocksearch_k74_papers_told.main.body.getD i (.Pass ⟨0, 0, 0, 0⟩)
structure Txt (K : PySem.W.Frag) (mg : Str → Option Value) (Z : Zs) (C_Page C_Broken C_Full C_Gone C_NoFile C_Torn : Addr) : Prop where
  cl_Page : Cls K C_Page
  m_Page : mg "Page" = some (.ref C_Page)
  na_Page_number : NoAttr K C_Page "number"
  na_Page_held : NoAttr K C_Page "held"
  na_Page_text : NoAttr K C_Page "text"
  na_Page_stands : NoAttr K C_Page "stands"
  c_LETTERS : ∃ t, mg "LETTERS" = some (.str "abcdefghijklmnopqrstuvwxyz" t)
  c_LONGEST : ∃ t, mg "LONGEST" = some (.int 12 t)
  c_MOST : ∃ t, mg "MOST" = some (.int 120 t)
  c_MOST_NUMBER : ∃ t, mg "MOST_NUMBER" = some (.int 9999 t)
  c_DEEPEST : ∃ t, mg "DEEPEST" = some (.int 5 t)
  c_MOST_WORDS : ∃ t, mg "MOST_WORDS" = some (.int 12 t)
  c_FARTHEST : ∃ t, mg "FARTHEST" = some (.int 20 t)
  n_isinstance : mg "isinstance" = none
  n_bool : mg "bool" = none
  n_int : mg "int" = none
  n_str : mg "str" = none
  n_list : mg "list" = none
  n_tuple : mg "tuple" = none
  n_len : mg "len" = none
  n_all : mg "all" = none
  n_any : mg "any" = none
  n_max : mg "max" = none
  n_min : mg "min" = none
  n_range : mg "range" = none
  n_abs : mg "abs" = none
  n_sum : mg "sum" = none
  n_enumerate : mg "enumerate" = none
  n_zip : mg "zip" = none
  n_RuntimeError : mg "RuntimeError" = none
  n_OverflowError : mg "OverflowError" = none
  n_KeyError : mg "KeyError" = none
  n_LookupError : mg "LookupError" = none
  x_NoQuery : XpV K Z.NoQuery
  m_Broken : mg "Broken" = some (.ref C_Broken)
  m_Full : mg "Full" = some (.ref C_Full)
  m_Gone : mg "Gone" = some (.ref C_Gone)
  m_NoFile : mg "NoFile" = some (.ref C_NoFile)
  m_Torn : mg "Torn" = some (.ref C_Torn)
  m_Wrong : mg "Wrong" = some (.ref Z.Wrong)
  m_NoText : mg "NoText" = some (.ref Z.NoText)
  m_NoNumber : mg "NoNumber" = some (.ref Z.NoNumber)
  m_NoSize : mg "NoSize" = some (.ref Z.NoSize)
  m_NoQuery : mg "NoQuery" = some (.ref Z.NoQuery)
  m_NoPages : mg "NoPages" = some (.ref Z.NoPages)
  m_NoName : mg "NoName" = some (.ref Z.NoName)
  m_NoShelf : mg "NoShelf" = some (.ref Z.NoShelf)
  m_NoDeed : mg "NoDeed" = some (.ref Z.NoDeed)
  m_Taken : mg "Taken" = some (.ref Z.Taken)
  m_NoSlot : mg "NoSlot" = some (.ref Z.NoSlot)
  n_ValueError : mg "ValueError" = none
  n_IndexError : mg "IndexError" = none
abbrev s_law_kind : Stmt := topS 77
theorem sc_law_kind : FnScope ["_law_e", "_law_names", "_law_some", "_law_name", "_law_bases", "_law_due", "_law_sign"] ["_law_e"] (defScope s_law_kind) := ⟨rfl, rfl, rfl, by decide +kernel, rfl, by decide +kernel, by decide +kernel⟩
section
variable {P : Program} {w : World} {K : PySem.W.Frag} {mg : Str → Option Value} {base : Heap} {Z : Zs} {C_Page C_Broken C_Full C_Gone C_NoFile C_Torn : Addr}
theorem ok_kind2 {f : Addr} {fd : FuncData} (F : Fun K "_law_kind" "_law_kind" s_law_kind f fd) (T : Txt K mg Z C_Page C_Broken C_Full C_Gone C_NoFile C_Torn) : FnQ0 P w K mg base 1 f fd ["_law_e"] (spKind2 K [C_Broken, C_Full, C_Gone, Z.NoDeed, C_NoFile, Z.NoName, Z.NoNumber, Z.NoPages, Z.NoQuery, Z.NoShelf, Z.NoSize, Z.NoSlot, Z.NoText, Z.Taken, C_Torn] Z.Wrong) := by
  refine Fun_okQ F sc_law_kind (fun p vs H Q h => ?_) (fun cdv A outer s H vs Q p pl hot0 hr h => ?_)
  · obtain ⟨D, d, i, nm, rfl, _⟩ := h
    rfl
  · obtain ⟨a, oe⟩ := p
    obtain ⟨D, d, i, nm, rfl, hz, hf, hk, hx, hn, k⟩ := h
    have hE := hk.ex
    have k0 := hk.is 0 _ rfl
    have k1 := hk.is 1 _ rfl
    have k2 := hk.is 2 _ rfl
    have k3 := hk.is 3 _ rfl
    have k4 := hk.is 4 _ rfl
    have k5 := hk.is 5 _ rfl
    have k6 := hk.is 6 _ rfl
    have k7 := hk.is 7 _ rfl
    have k8 := hk.is 8 _ rfl
    have k9 := hk.is 9 _ rfl
    have k10 := hk.is 10 _ rfl
    have k11 := hk.is 11 _ rfl
    have k12 := hk.is 12 _ rfl
    have k13 := hk.is 13 _ rfl
    have k14 := hk.is 14 _ rfl
    have kw := hk.w
    have kr := hk.r
    have ko := hk.o
    have kk := hk.k
    have kl := hk.l
    have kv := hk.v
    have hi : i < 15 := kind2_lt hn
    have hm : (a, oe) ∈ pl := hot0.mem
    have hot := hotD_of (CX := CX0) (P := P) (w := w) (K := K) (mg := mg) (base := base) (N := ["_law_e", "_law_names", "_law_some", "_law_name", "_law_bases", "_law_due", "_law_sign"]) (qual := "_law_kind") (scope := defScope s_law_kind) (f := f) (cd := cdv) (A := A) (outer := outer) (s := s) (H := H) (E := E0) hot0
    refine ⟨_, (pss_cons (ps_set (i := 1) sc_law_kind.nd rfl (.inl rfl) (pe_lst (pa_cons pe_str (pa_cons pe_str (pa_cons pe_str (pa_cons pe_str (pa_cons pe_str (pa_cons pe_str (pa_cons pe_str (pa_cons pe_str (pa_cons pe_str (pa_cons pe_str pa_nil))))))))))))
 (pss_cons (ps_set (i := 1) sc_law_kind.nd rfl (.inl rfl) (pe_op op_cat (pv 1) (pe_lst (pa_cons pe_str (pa_cons pe_str (pa_cons pe_str (pa_cons pe_str (pa_cons pe_str pa_nil))))))))
 (pss_cons (ps_set (i := 2) sc_law_kind.nd rfl (.inl rfl) (pe_lst (pa_cons (pe_callB (call_isP (a := a) (oe := oe) hm hz hf) (by rfl) T.n_isinstance PyProof.Rows.boot_isinstance (pa_cons (pv 0) (pa_cons (pe_gcls T.m_Broken rfl) pa_nil))) (pa_cons (pe_callB (call_isP (a := a) (oe := oe) hm hz hf) (by rfl) T.n_isinstance PyProof.Rows.boot_isinstance (pa_cons (pv 0) (pa_cons (pe_gcls T.m_Full rfl) pa_nil))) (pa_cons (pe_callB (call_isP (a := a) (oe := oe) hm hz hf) (by rfl) T.n_isinstance PyProof.Rows.boot_isinstance (pa_cons (pv 0) (pa_cons (pe_gcls T.m_Gone rfl) pa_nil))) (pa_cons (pe_callB (call_isP (a := a) (oe := oe) hm hz hf) (by rfl) T.n_isinstance PyProof.Rows.boot_isinstance (pa_cons (pv 0) (pa_cons (pe_gcls T.m_NoDeed rfl) pa_nil))) pa_nil))))))
 (pss_cons (ps_set (i := 2) sc_law_kind.nd rfl (.inl rfl) (pe_op op_cat (pv 2) (pe_lst (pa_cons (pe_callB (call_isP (a := a) (oe := oe) hm hz hf) (by rfl) T.n_isinstance PyProof.Rows.boot_isinstance (pa_cons (pv 0) (pa_cons (pe_gcls T.m_NoFile rfl) pa_nil))) (pa_cons (pe_callB (call_isP (a := a) (oe := oe) hm hz hf) (by rfl) T.n_isinstance PyProof.Rows.boot_isinstance (pa_cons (pv 0) (pa_cons (pe_gcls T.m_NoName rfl) pa_nil))) (pa_cons (pe_callB (call_isP (a := a) (oe := oe) hm hz hf) (by rfl) T.n_isinstance PyProof.Rows.boot_isinstance (pa_cons (pv 0) (pa_cons (pe_gcls T.m_NoNumber rfl) pa_nil))) (pa_cons (pe_callB (call_isP (a := a) (oe := oe) hm hz hf) (by rfl) T.n_isinstance PyProof.Rows.boot_isinstance (pa_cons (pv 0) (pa_cons (pe_gcls T.m_NoPages rfl) pa_nil))) pa_nil)))))))
 (pss_cons (ps_set (i := 2) sc_law_kind.nd rfl (.inl rfl) (pe_op op_cat (pv 2) (pe_lst (pa_cons (pe_callB (call_isP (a := a) (oe := oe) hm hz hf) (by rfl) T.n_isinstance PyProof.Rows.boot_isinstance (pa_cons (pv 0) (pa_cons (pe_gcls T.m_NoQuery rfl) pa_nil))) (pa_cons (pe_callB (call_isP (a := a) (oe := oe) hm hz hf) (by rfl) T.n_isinstance PyProof.Rows.boot_isinstance (pa_cons (pv 0) (pa_cons (pe_gcls T.m_NoShelf rfl) pa_nil))) (pa_cons (pe_callB (call_isP (a := a) (oe := oe) hm hz hf) (by rfl) T.n_isinstance PyProof.Rows.boot_isinstance (pa_cons (pv 0) (pa_cons (pe_gcls T.m_NoSize rfl) pa_nil))) (pa_cons (pe_callB (call_isP (a := a) (oe := oe) hm hz hf) (by rfl) T.n_isinstance PyProof.Rows.boot_isinstance (pa_cons (pv 0) (pa_cons (pe_gcls T.m_NoSlot rfl) pa_nil))) pa_nil)))))))
 (pss_cons (ps_set (i := 2) sc_law_kind.nd rfl (.inl rfl) (pe_op op_cat (pv 2) (pe_lst (pa_cons (pe_callB (call_isP (a := a) (oe := oe) hm hz hf) (by rfl) T.n_isinstance PyProof.Rows.boot_isinstance (pa_cons (pv 0) (pa_cons (pe_gcls T.m_NoText rfl) pa_nil))) (pa_cons (pe_callB (call_isP (a := a) (oe := oe) hm hz hf) (by rfl) T.n_isinstance PyProof.Rows.boot_isinstance (pa_cons (pv 0) (pa_cons (pe_gcls T.m_Taken rfl) pa_nil))) (pa_cons (pe_callB (call_isP (a := a) (oe := oe) hm hz hf) (by rfl) T.n_isinstance PyProof.Rows.boot_isinstance (pa_cons (pv 0) (pa_cons (pe_gcls T.m_Torn rfl) pa_nil))) pa_nil))))))
 (pss_cons (ps_if (pt_cmpR op_ne (pe_bm PySem.F.plainAttrs_list PySem.F.slot_list_count PySem.F.type_list_count (mt_countD (huH hr)) (pv 2) (pa_cons pe_bl pa_nil)) pe_int (nomark _))
 (pss_one (ps_ret pe_str))
 pss_nil)
 (pss_cons (ps_set (i := 3) sc_law_kind.nd rfl (.inl rfl) (pe_ix ix_list (pv 1) (pe_bm PySem.F.plainAttrs_list PySem.F.slot_list_index PySem.F.type_list_index (mt_indexD (huH hr)) (pv 2) (pa_cons pe_bl pa_nil)) (fun _ _ => rfl)))
 (pss_cons (ps_set (i := 4) sc_law_kind.nd rfl (.inl rfl) (pe_lst (pa_cons (pe_callB (call_isP (a := a) (oe := oe) hm hz hf) (by rfl) T.n_isinstance PyProof.Rows.boot_isinstance (pa_cons (pv 0) (pa_cons (pe_gcls T.m_Wrong rfl) pa_nil))) (pa_cons (pe_callB (call_isP (a := a) (oe := oe) hm hz hf) (by rfl) T.n_isinstance PyProof.Rows.boot_isinstance (pa_cons (pv 0) (pa_cons (pe_bltn (v := .ty "RuntimeError") (by rfl) T.n_RuntimeError PyProof.Rows.Boot.«RuntimeError» rfl) pa_nil))) (pa_cons (pe_callB (call_isP (a := a) (oe := oe) hm hz hf) (by rfl) T.n_isinstance PyProof.Rows.boot_isinstance (pa_cons (pv 0) (pa_cons (pe_bltn (v := .ty "OverflowError") (by rfl) T.n_OverflowError PyProof.Rows.Boot.«OverflowError» rfl) pa_nil))) (pa_cons (pe_callB (call_isP (a := a) (oe := oe) hm hz hf) (by rfl) T.n_isinstance PyProof.Rows.boot_isinstance (pa_cons (pv 0) (pa_cons (pe_bltn (v := .ty "KeyError") (by rfl) T.n_KeyError PyProof.Rows.Boot.«KeyError» rfl) pa_nil))) pa_nil))))))
 (pss_cons (ps_set (i := 4) sc_law_kind.nd rfl (.inl rfl) (pe_op op_cat (pv 4) (pe_lst (pa_cons (pe_callB (call_isP (a := a) (oe := oe) hm hz hf) (by rfl) T.n_isinstance PyProof.Rows.boot_isinstance (pa_cons (pv 0) (pa_cons (pe_bltn (v := .ty "LookupError") (by rfl) T.n_LookupError PyProof.Rows.Boot.«LookupError» rfl) pa_nil))) (pa_cons (pe_callB (call_isP (a := a) (oe := oe) hm hz hf) (by rfl) T.n_isinstance PyProof.Rows.boot_isinstance (pa_cons (pv 0) (pa_cons (pe_bltn (v := .ty "ValueError") (by rfl) T.n_ValueError PyProof.Rows.Boot.«ValueError» rfl) pa_nil))) pa_nil)))))
 (pss_cons (ps_set (i := 5) sc_law_kind.nd rfl (.inr rfl) (pe_dget2 (u1H hr) (pe_disp (pps_cons pe_str pe_str (pps_cons pe_str pe_str (pps_cons pe_str pe_str (pps_cons pe_str pe_str (pps_cons pe_str pe_str (pps_cons pe_str pe_str pps_nil)))))) rfl rfl (by simp) (by decide)) (pv 3) pe_str ⟨rfl, rfl, rfl, rfl⟩))
 (pss_cons (ps_if (pt_cmpR (op_neD (Nat.lt_of_le_of_lt (Nat.le_succ _) (huH hr))) (pv 4) (pe_lcK (own := [("_law_sign", 6)]) (g := gName 6) (tt := tYes) hot sc_law_kind.nd (pi_strK pe_str) (blkOk_by (own := [("_law_sign", 6)]) (N := ["_law_e", "_law_names", "_law_some", "_law_name", "_law_bases", "_law_due", "_law_sign"]) (sc := defScope s_law_kind) (by decide +kernel)) (fun _ _ _ _ _ => pg_name (i := 6) sc_law_kind.nd rfl (Or.inl rfl)) (fun _ _ _ _ _ => pts_nil) (fun _ _ _ _ _ => (pe_cmpR op_inS (pv 6) (pv 5) (by rfl)))) (nomark _))
 (pss_one (ps_ret pe_str))
 pss_nil)
 (pss_one (ps_ret (pe_op op_addS pe_str (pv 3)))))))))))))))), ?_⟩
    wtm_at "w0"
    wtm_at "wp"
    rename_i p1 n1 H1 s1 h1 p2 n2 H2 s2 h2 p3 H3 n3 s3 h3 p4 n4 H4 s4 h4 p5 n5 H5 s5 h5 p6 H6 n6 s6 h6 p7 n7 H7 s7 h7 p8 H8 n8 s8 h8 p9 n9 H9 s9 h9 p10 H10 n10 s10 h10
    refine w_countT (n := 1) [decide (0 = i), decide (1 = i), decide (2 = i), decide (3 = i), decide (4 = i), decide (5 = i), decide (6 = i), decide (7 = i), decide (8 = i), decide (9 = i), decide (10 = i), decide (11 = i), decide (12 = i), decide (13 = i), decide (14 = i)] rfl (.of h10) (cnt15 hi) ?_
    wtm_at "wp"
    have hS : SqL K H10 p10 _ := .of h10
    refine w_indexT (j := i) [decide (0 = i), decide (1 = i), decide (2 = i), decide (3 = i), decide (4 = i), decide (5 = i), decide (6 = i), decide (7 = i), decide (8 = i), decide (9 = i), decide (10 = i), decide (11 = i), decide (12 = i), decide (13 = i), decide (14 = i)] rfl hS (idx15 hi) (fun m hm => bef15 hi m hm) ?_
    have hN : SqL K H10 p3 (kind2Names.map V.str) := .of (s10 _ _ (s9 _ _ (s8 _ _ (s7 _ _ (s6 _ _ (s5 _ _ (s4 _ _ h3)))))))
    refine w_ixL hN (nam15 hn) ?_
    wtm_at "wp"
    rename_i p11 n11 H11 s11 h11 p12 n12 H12 s12 h12 p13 H13 n13 s13 h13
    intro pd npd
    refine ⟨upd_same, dueKvs, rfl, by decide, ?_⟩
    generalize eN : upd (upd H13 pd _) pd _ = H14
    have s14 : Same H13 H14 := fun c o h => by
      have hcp := ne_of_none h npd
      rw [← eN, upd_ne hcp, upd_ne hcp]
      exact h
    have hd14 : H14 pd = some (.dK (mergeK [] dueKvs)) := by
      rw [← eN]
      exact upd_same
    clear eN
    refine ⟨pd, rfl, .inl ⟨_, .inl hd14⟩, ?_⟩
    wtm_at "wp"
    refine ⟨_, .inl ⟨_, .inr nm, .inl hd14, rfl, rfl⟩, ?_⟩
    rw [due_get hn]
    have sA : Same H H14 := s1.trans (s2.trans (s3.trans (s4.trans (s5.trans (s6.trans (s7.trans (s8.trans (s9.trans (s10.trans (s11.trans (s12.trans (s13.trans s14))))))))))))
    have h13' := s14 _ _ h13
    wtm_at "wp"
    refine lc_fin (fin_str (x := "WROKLV")) (fun j acc H' => Same H14 H' ∧ acc = ((("WROKLV" : Str).cps.toList.take j).map fun c => decide (c ∈ (dueOf i).cps.toList)).map V.bl) (fun D H2 nD s2 hD => ⟨s2, rfl⟩) (fun _ _ _ _ _ => trivial) ?_ ?_
    · rintro D j v acc H3 H4 nD hi ha ⟨s3, e3⟩ hD ⟨rfl, c, hc, rfl⟩
      wtm_at "wp"
      refine ⟨rfl, ?_⟩
      wtm_at "wp"
      refine w_acc hD ha hi (sz (by decide)) (fun H5 k5 h5 => ⟨k5.same s3 nD, ?_⟩)
      rw [e3, take_succ hc]
      simp
      try rfl
    · rintro D acc H3 nD ⟨s3, e3⟩ ha hD
      have e4 : acc = ([basS 87 i, basS 82 i, basS 79 i, basS 75 i, basS 76 i, basS 86 i] : List Bool).map V.bl := by
        rw [e3]
        rfl
      subst e4
      refine w_neD (k := true) (.lst (.of (s3 _ _ h13')) (dpAll_bl [basS 87 i, basS 82 i, basS 79 i, basS 75 i, basS 76 i, basS 86 i])) (.lst (.of hD) (dpAll_bl _)) (shaped_bl _) (shaped_bl _) (SeqAt.eqv_refl _ (SeqAt.canLay_of_shaped (shaped_bl _))) ?_
      wtm_at "wp"
      have hl := kind2_len hn
      refine w_addS (sz (by have : ("!" : Str).length = 1 := rfl; omega)) ?_
      exact k _ (sA.trans s3)
end

end K74

namespace K74
section
variable {P : Program} {w : World} {K : PySem.W.Frag} {mg : Str → Option Value} {base : Heap} {Z : Zs} {C_Page C_Broken C_Full C_Gone C_NoFile C_Torn : Addr}
abbrev s_is_whole_words : Stmt := topS 23
theorem sc_is_whole_words : FnScope ["thing"] ["thing"] (defScope s_is_whole_words) := ⟨rfl, rfl, rfl, by decide +kernel, rfl, by decide +kernel, by decide +kernel⟩
abbrev s_is_word : Stmt := topS 25
theorem sc_is_word : FnScope ["thing", "sign"] ["thing"] (defScope s_is_word) := ⟨rfl, rfl, rfl, by decide +kernel, rfl, by decide +kernel, by decide +kernel⟩
abbrev s_look_words : Stmt := topS 27
theorem sc_look_words : FnScope ["words", "word"] ["words"] (defScope s_look_words) := ⟨rfl, rfl, rfl, by decide +kernel, rfl, by decide +kernel, by decide +kernel⟩
abbrev s_words_of : Stmt := topS 28
theorem sc_words_of : FnScope ["text", "words"] ["text"] (defScope s_words_of) := ⟨rfl, rfl, rfl, by decide +kernel, rfl, by decide +kernel, by decide +kernel⟩
/-! ### words: nothing is refused here -/
def spWord (K : PySem.W.Frag) : Sp := fun vs H Q _ => ∃ v, vs = [v] ∧ TxtV H v ∧ ∀ H', Same H H' → Q (.bl (isWV v)) H'
theorem ok_is_word {f : Addr} {fd : FuncData} (F : Fun K "is_word" "is_word" s_is_word f fd) (T : Txt K mg Z C_Page C_Broken C_Full C_Gone C_NoFile C_Torn) : FnOk P w K mg base CX0 1 f fd ["thing"] (spWord K) := by
  refine F.ok sc_is_word (fun vs H Q E h => ?_) (fun cdv A outer s H vs Q E hr h => ?_)
  · obtain ⟨v, rfl, _⟩ := h
    rfl
  · obtain ⟨v, rfl, hv, k⟩ := h
    have k' : ∀ {b : Bool}, isWV v = b → ∀ H', Same H H' → Q (.bl b) H' := fun e H' s => e ▸ k H' s
    refine ⟨_, (pss_one (ps_ret (pe_and (pe_callB call_isi (by rfl) T.n_isinstance PyProof.Rows.boot_isinstance (pa_cons (pv 0) (pa_cons (pe_bltn (v := .ty "str") (by rfl) T.n_str PyProof.Rows.boot_str rfl) pa_nil))) (pe_and (pe_chain op_le op_le pe_int (pe_callB cl_len (by rfl) T.n_len PySem.boot_len (pa_cons (pv 0) pa_nil)) (pe_gint T.c_LONGEST rfl)) (pe_one (pe_callB (cr_all rfl) (by rfl) T.n_all PyProof.Rows.boot_all (pa_cons (pe_lc (own := [("sign", 1)]) (g := gName 1) (tt := tYes) rfl sc_is_word.nd (pi_str (pv 0)) (blkOk_by (own := [("sign", 1)]) (N := ["thing", "sign"]) (sc := defScope s_is_word) (by decide +kernel)) (fun _ _ _ _ _ => pg_name (i := 1) sc_is_word.nd rfl (Or.inl rfl)) (fun _ _ _ _ _ => pts_nil) (fun _ _ _ _ _ => (pe_cmpR op_inS (pv 1) (pe_gstr T.c_LETTERS rfl) (by rfl)))) pa_nil))))))), ?_⟩
    wtm_at "w0"
    rcases hv with ⟨x, rfl, hx⟩ | ho
    · wtm_at "wp"
      have e0 : isWV (.str x) = (decide (1 ≤ x.length ∧ x.length ≤ 12) && x.cps.toList.all fun c => decide (c ∈ abc.cps.toList)) := rfl
      refine w_dec (fun h1 => ?_) (fun h1 => ?_)
      · wtm_at "wp"
        refine w_dec (fun h2 => ?_) (fun h2 => ?_)
        · wtm_at "wp"
          dsimp only
          refine lc_fin fin_str (fun i acc H' => Same H H' ∧ acc = ((x.cps.toList.take i).map fun c => decide (c ∈ abc.cps.toList)).map V.bl) (fun D H2 nD s2 hD => ⟨s2, rfl⟩) (fun _ _ _ _ _ => trivial) ?_ ?_
          · rintro D i v acc H3 H4 nD hi ha ⟨s3, e3⟩ hD ⟨rfl, c, hc, rfl⟩
            wtm_at "wp"
            refine ⟨rfl, ?_⟩
            wtm_at "wp"
            refine w_acc hD ha hi (sz (by have : x.cps.size = x.length := rfl; omega)) (fun H5 k5 h5 => ⟨k5.same s3 nD, ?_⟩)
            rw [e3, take_succ hc]
            simp
            try rfl
          · rintro D acc H3 nD ⟨s3, e3⟩ ha hD
            wtm_at "wp"
            refine w_all e3 (.of hD) (k' ?_ _ s3)
            rw [e0, decide_eq_true ⟨by omega, by omega⟩, Bool.true_and, take_size, List.all_map]
            rfl
        · wtm_at "wp"
          refine k' ?_ _ (.refl _)
          rw [e0, decide_eq_false (fun z => by omega), Bool.false_and]
      · wtm_at "wp"
        refine k' ?_ _ (.refl _)
        rw [e0, decide_eq_false (fun z => by omega), Bool.false_and]
    · obtain ⟨nx, tv, ht, hk⟩ := ho.ty (K := K)
      wtm_at "wp"
      refine w_isiB ht hk ?_
      wtm_at "wp"
      have e0 : isWV v = false := by
        cases v <;> first | rfl | exact absurd rfl (nx _)
      rw [e0] at k
      exact k _ (.refl _)
def isInt : V → Bool
  | .int _ => true
  | _ => false
def spWhole : Sp := fun vs H Q _ => ∃ v, vs = [v] ∧ Thg H v ∧ Q (.bl (isInt v)) H
theorem ok_whole {f : Addr} {fd : FuncData} (F : Fun K "is_whole" "is_whole" s_is_whole_words f fd) (T : Txt K mg Z C_Page C_Broken C_Full C_Gone C_NoFile C_Torn) : FnOk P w K mg base CX0 1 f fd ["thing"] spWhole := by
  refine F.ok sc_is_whole_words (fun vs H Q E h => ?_) (fun cdv A outer s H vs Q E hr h => ?_)
  · obtain ⟨v, rfl, _⟩ := h
    rfl
  · obtain ⟨v, rfl, hv, k⟩ := h
    refine ⟨_, (pss_one (ps_ret (pe_and (pe_callB call_isi (by rfl) T.n_isinstance PyProof.Rows.boot_isinstance (pa_cons (pv 0) (pa_cons (pe_bltn (v := .ty "int") (by rfl) T.n_int PyProof.Rows.boot_int rfl) pa_nil))) (pe_one (pe_not (pe_callB call_isi (by rfl) T.n_isinstance PyProof.Rows.boot_isinstance (pa_cons (pv 0) (pa_cons (pe_bltn (v := .ty "bool") (by rfl) T.n_bool PyProof.Rows.boot_bool rfl) pa_nil)))))))), ?_⟩
    wtm_at "w0"
    cases hv <;> (wtm_at "wp"; exact k)
def spLookN (K : PySem.W.Frag) : Sp := fun vs H Q _ => ∃ (a : Addr) (ws : List Str), vs = [.ref a] ∧ H a = some (.lst (ws.map V.str)) ∧ okWs ws = true ∧ ∀ H', Same H H' → Q .non H'
theorem ok_lookN {f : Addr} {fd : FuncData} (F : Fun K "look_words" "look_words" s_look_words f fd) (T : Txt K mg Z C_Page C_Broken C_Full C_Gone C_NoFile C_Torn) (f_is_word : Fn P w K mg base "is_word" 1 ["thing"] (spWord K)) : FnOk P w K mg base CX0 2 f fd ["words"] (spLookN K) := by
  refine F.ok sc_look_words (fun vs H Q E h => ?_) (fun cdv A outer s H vs Q E hr h => ?_)
  · obtain ⟨a, ws, rfl, _⟩ := h
    rfl
  · obtain ⟨a, ws, rfl, hS, hok, k⟩ := h
    have hall := okWs_all hok
    obtain ⟨b1, b2, b3⟩ := ok_bounds hok
    have hlen : (ws.map V.str).length = ws.length := List.length_map ..
    refine ⟨_, (pss_one (ps_if (PW.pt (pw_or (pt_not (pt_val (pe_callB call_isi (by rfl) T.n_isinstance PyProof.Rows.boot_isinstance (pa_cons (pv 0) (pa_cons (pe_bltn (v := .ty "list") (by rfl) T.n_list PyProof.Rows.boot_list rfl) pa_nil))))) (pw_or (pt_cmpR op_gt (pe_callB cl_len (by rfl) T.n_len PySem.boot_len (pa_cons (pv 0) pa_nil)) (pe_gint T.c_MOST rfl) (nomark _)) (pw_or1 (pt_not (pt_val (pe_callB (cr_all rfl) (by rfl) T.n_all PyProof.Rows.boot_all (pa_cons (pe_lc (own := [("word", 1)]) (g := gName 1) (tt := tYes) rfl sc_look_words.nd (show PI _ _ _ (iList K _) from (pi_list (pv 0))) (blkOk_by (own := [("word", 1)]) (N := ["words", "word"]) (sc := defScope s_look_words) (by decide +kernel)) (fun _ _ _ _ _ => pg_name (i := 1) sc_look_words.nd rfl (Or.inl rfl)) (fun _ _ _ _ _ => pts_nil) (fun _ _ _ _ _ => (pe_fn f_is_word (hr.mono (by omega)) rfl (pa_cons (pv 1) pa_nil)))) pa_nil))))))))
 (pss_one (ps_never))
 pss_nil)), ?_⟩
    wtm_at "w0"
    wtm_at "wp"
    refine iteF' (decide_eq_false (by rw [hlen]; omega)) ?_
    wtm_at "wp"
    refine lc_fin (fin_list (xs := ws.map V.str)) (fun i acc H' => Same H H' ∧ acc = ((ws.take i).map isW).map V.bl) (fun D H2 nD s2 hD => ⟨s2, rfl⟩) (fun i acc H2 _ h => .of (h.1 _ _ hS)) ?_ ?_
    · rintro D i v acc H3 H4 nD hi ha ⟨s3, e3⟩ hD ⟨rfl, hv⟩
      rw [List.getElem?_map] at hv
      obtain ⟨y, hxw, rfl⟩ := Option.map_eq_some_iff.mp hv
      have hy := b2 y (List.mem_of_getElem? hxw)
      wtm_at "wp"
      refine ⟨rfl, ?_⟩
      wtm_at "wp"
      refine ⟨.str y, rfl, .inl ⟨y, rfl, by omega⟩, fun H5 s5 => ?_⟩
      refine w_acc (s5 _ _ hD) ha hi (sz (by rw [hlen]; omega)) (fun H6 k6 h6 => ⟨k6.same (s3.trans s5) nD, ?_⟩)
      rw [e3, take_succL hxw]
      simp
      try rfl
    · rintro D acc H3 nD ⟨s3, e3⟩ ha hD
      wtm_at "wp"
      refine w_all e3 (.of hD) ?_
      wtm_at "wp"
      have e1 : ((((ws.take (ws.map V.str).length).map isW)).all id) = true := by
        rw [List.all_eq_true]
        intro b hb
        obtain ⟨y, hy, rfl⟩ := List.mem_map.mp hb
        exact hall y (List.mem_of_mem_take hy)
      rw [e1]
      wtm_at "wp"
      exact k _ s3
def spWordsN (K : PySem.W.Frag) : Sp := fun vs H Q _ => ∃ x : Str, vs = [.str x] ∧ x.length ≤ 40000 ∧ okWs (wsOf x) = true ∧ ∀ p H', H p = none → Same H H' → H' p = some (.lst ((wsOf x).map V.str)) → Q (.ref p) H'
theorem ok_wordsN {f : Addr} {fd : FuncData} (F : Fun K "words_of" "words_of" s_words_of f fd) (T : Txt K mg Z C_Page C_Broken C_Full C_Gone C_NoFile C_Torn) (f_look_words : Fn P w K mg base "look_words" 2 ["words"] (spLookN K)) : FnOk P w K mg base CX0 3 f fd ["text"] (spWordsN K) := by
  refine F.ok sc_words_of (fun vs H Q E h => ?_) (fun cdv A outer s H vs Q E hr h => ?_)
  · obtain ⟨x, rfl, _⟩ := h
    rfl
  · obtain ⟨x, rfl, hx, hok, k⟩ := h
    refine ⟨_, (pss_cons (ps_if (pt_not (pt_val (pe_callB call_isi (by rfl) T.n_isinstance PyProof.Rows.boot_isinstance (pa_cons (pv 0) (pa_cons (pe_bltn (v := .ty "str") (by rfl) T.n_str PyProof.Rows.boot_str rfl) pa_nil)))))
 (pss_one (ps_never))
 pss_nil)
 (pss_cons (ps_set (i := 1) sc_words_of.nd rfl (.inl rfl) (pe_ifExp (pt_cmpR op_eq (pv 0) pe_str (nomark _)) (pe_lst pa_nil) (pe_split (pv 0) pe_str)))
 (pss_cons (ps_expr (pe_fn f_look_words (hr.mono (by omega)) rfl (pa_cons (pv 1) pa_nil)))
 (pss_one (ps_ret (pv 1)))))), ?_⟩
    wtm_at "w0"
    wtm_at "wp"
    refine w_dec (fun h1 => ?_) (fun h1 => ?_)
    · have e1 : x = "" := V.str.inj h1
      have e2 : wsOf x = [] := if_pos e1
      rw [e2] at k hok
      wtm_at "wp"
      rename_i p n1 H1 s1 hp
      refine ⟨p, [], rfl, hp, hok, fun H2 s2 => ?_⟩
      wtm_at "wp"
      exact k p H2 n1 (s1.trans s2) (s2 _ _ hp)
    · have e1 : x ≠ "" := fun z => h1 (by rw [z])
      have e2 : wsOf x = Txt.split x " " := if_neg e1
      wtm_at "wp"
      refine w_split rfl (Nat.le_trans (by omega : x.length + 2 ≤ 100000) (by decide)) (fun p H1 n1 s1 hp => ?_)
      rw [← e2] at hp
      wtm_at "wp"
      refine ⟨p, _, rfl, hp, hok, fun H2 s2 => ?_⟩
      wtm_at "wp"
      exact k p H2 n1 (s1.trans s2) (s2 _ _ hp)
abbrev s_look_word : Stmt := topS 26
theorem sc_look_word : FnScope ["thing"] ["thing"] (defScope s_look_word) := ⟨rfl, rfl, rfl, by decide +kernel, rfl, by decide +kernel, by decide +kernel⟩
def spLook1N (K : PySem.W.Frag) : Sp := fun vs H Q _ => ∃ x : Str, vs = [.str x] ∧ isW x = true ∧ ∀ H', Same H H' → Q .non H'
theorem ok_look1N {f : Addr} {fd : FuncData} (F : Fun K "look_word" "look_word" s_look_word f fd) (T : Txt K mg Z C_Page C_Broken C_Full C_Gone C_NoFile C_Torn) (f_is_word : Fn P w K mg base "is_word" 1 ["thing"] (spWord K)) : FnOk P w K mg base CX0 2 f fd ["thing"] (spLook1N K) := by
  refine F.ok sc_look_word (fun vs H Q E h => ?_) (fun cdv A outer s H vs Q E hr h => ?_)
  · obtain ⟨x, rfl, _⟩ := h
    rfl
  · obtain ⟨x, rfl, hx, k⟩ := h
    have hl := isW_len hx
    refine ⟨_, (pss_one (ps_if (pt_not (pt_val (pe_fn f_is_word (hr.mono (by omega)) rfl (pa_cons (pv 0) pa_nil))))
 (pss_one (ps_never))
 pss_nil)), ?_⟩
    wtm_at "w0"
    wtm_at "wp"
    refine ⟨_, rfl, .inl ⟨x, rfl, by omega⟩, fun H1 s1 => ?_⟩
    have e : isWV (.str x) = true := hx
    rw [e]
    wtm_at "wp"
    exact k _ s1

abbrev s_Page___init__ : Stmt := inClass (topS 57) 0
theorem sc_Page___init__ : FnScope ["self", "number", "text", "place", "word"] ["self", "number", "text"] (defScope s_Page___init__) := ⟨rfl, rfl, rfl, by decide +kernel, rfl, by decide +kernel, by decide +kernel⟩
/-! ### pages -/
/-- what the dict of the places holds -/
def Stands (H : Hp) (s : Addr) (ws : List Str) : Prop := ∃ (kvs : List (Key × V)) (M : Str → Option Addr), H s = some (.dK kvs) ∧ kvs.length ≤ ws.length ∧ (∀ w, valV kvs (.inr w) = (M w).map V.ref) ∧ (∀ w, w ∉ ws → M w = none) ∧ (∀ w ∈ ws, ∃ q, M w = some q ∧ H q = some (.lst ((plc ws w).map fun n : Nat => V.int n))) ∧ (∀ u w q, M u = some q → M w = some q → u = w)
/-- a page -/
structure PgF (C : Addr) (H : Hp) (r : Addr) (i : Int) (x : Str) : Prop where
  ex : ∃ d h s, H r = some (.ins C d [("number", .int i), ("held", .ref h), ("text", .str x), ("stands", .ref s)]) ∧ H h = some (.lst ((wsOf x).map V.str)) ∧ Stands H s (wsOf x)
theorem Stands.same {H H' : Hp} {s : Addr} {ws : List Str} (h : Stands H s ws) (e : Same H H') : Stands H' s ws := by
  obtain ⟨kvs, M, h1, h2, h3, h4, h5, h6⟩ := h
  exact ⟨kvs, M, e _ _ h1, h2, h3, h4, fun w hw => by obtain ⟨q, a, b⟩ := h5 w hw; exact ⟨q, a, e _ _ b⟩, h6⟩
theorem PgF.same {C : Addr} {H H' : Hp} {r : Addr} {i : Int} {x : Str} (h : PgF C H r i x) (e : Same H H') : PgF C H' r i x := by
  obtain ⟨d, a, s, h1, h2, h3⟩ := h.ex
  exact ⟨d, a, s, e _ _ h1, e _ _ h2, h3.same e⟩
def spPageN (C : Addr) : Sp := fun vs H Q _ => ∃ (r d : Addr) (i : Int) (x : Str), vs = [.ref r, .int i, .str x] ∧ H r = some (.ins C d []) ∧ 1 ≤ i ∧ i ≤ 9999 ∧ x.length ≤ 40000 ∧ okWs (wsOf x) = true ∧
  ∀ H', KB r H H' → PgF C H' r i x → (∀ (S : Addr → Prop) H'', (∀ q, S q → q ≠ r ∧ H q ≠ none) → (∀ c o, H' c = some o → ¬ S c → H'' c = some o) → PgF C H'' r i x) → Q .non H'
theorem ok_pageN {f : Addr} {fd : FuncData} (F : FunD K "__init__" "Page.__init__" (defArgs s_Page___init__) (defBody s_Page___init__) (defScope s_Page___init__) [.str ""] [] f fd) (T : Txt K mg Z C_Page C_Broken C_Full C_Gone C_NoFile C_Torn) (f_is_whole_words : Fn P w K mg base "is_whole_words" 1 ["thing"] spWhole) (f_words_of : Fn P w K mg base "words_of" 3 ["text"] (spWordsN K)) : FnOk P w K mg base CX0 5 f fd ["self", "number", "text"] (spPageN C_Page) := by
  have c1 := T.cl_Page
  have n1 := T.na_Page_number
  have n2 := T.na_Page_held
  have n3 := T.na_Page_text
  have n4 := T.na_Page_stands
  refine F.ok sc_Page___init__ (fun vs H Q E h => ?_) (fun cdv A outer s H vs Q E hr h => ?_)
  · obtain ⟨r, d, i, x, rfl, _⟩ := h
    rfl
  · obtain ⟨r, d, i, x, rfl, hrr, hi1, hi2, hxl, hok, k⟩ := h
    refine ⟨_, PSs.nox (pss_cons (ps_if (PW.pt (pw_or (pt_not (pt_val (pe_fn f_is_whole_words (hr.mono (by omega)) rfl (pa_cons (pv 1) pa_nil)))) (pw_or1 (pt_not (pt_chain op_le op_le pe_int (pv 1) (pe_gint T.c_MOST_NUMBER rfl))))))
 (pss_one (ps_never))
 pss_nil)
 (pss_cons (ps_fld (pv 0) (pv 1) rfl)
 (pss_cons (ps_fld (pv 0) (pe_fn f_words_of (hr.mono (by omega)) rfl (pa_cons (pv 2) pa_nil)) rfl)
 (pss_cons (ps_fld (pv 0) (pv 2) rfl)
 (pss_cons (ps_fld (pv 0) pe_dnewK rfl)
 (pss_one (ps_for PassesOwn.never rfl (pi_enum (by rfl) T.n_enumerate (pa_cons (pe_fld (pv 0) rfl) pa_nil)) (pg_tup rfl (pgs_cons (pg_name (i := 3) sc_Page___init__.nd rfl (.inl rfl)) (pgs_cons (pg_name (i := 4) sc_Page___init__.nd rfl (.inl rfl)) pgs_nil)))
 (pss_one (ps_expr (pe_bm PySem.F.plainAttrs_list PySem.F.slot_list_append PySem.F.type_list_append mt_append (pe_dsetd (pe_fld (pv 0) rfl) (pv 4) (pe_lst pa_nil) ⟨rfl, rfl, rfl, rfl⟩) (pa_cons (pv 3) pa_nil))))))))))), ?_⟩
    wtm_at "w0"
    wtm_at "wp"
    refine ⟨_, rfl, .int i, ?_⟩
    wtm_at "wp"
    refine iteT' (decide_eq_true hi1) ?_
    wtm_at "wp"
    refine iteF' (by rw [decide_eq_true hi2]; rfl) ?_
    wtm_at "wp"
    rename_i H1 kb1 e1
    refine ⟨x, rfl, hxl, hok, fun hh H2 nh s2 hh2 => ?_⟩
    have nr : ∀ {H' : Hp} {o : HO} {q : Addr}, KB r H H' → H' r = some o → H' q = none → H q = none := fun kb hr nq => kb_newD kb hr nq
    have hlen := (ok_bounds hok).1
    have hr2 := s2 _ _ e1
    have kb2' : KB r H H2 := kb1.trans (KB.of s2)
    wtm_at "wp"
    rename_i H3 kb3 e3 H4 kb4 e4
    refine w_dnewK (fun sd H5 nsd s5 hsd => ?_)
    have hr5 := s5 _ _ e4
    have nhr : hh ≠ r := fun z => by rw [z, e1] at nh; cases nh
    have hh5 := s5 _ _ (kb4 _ _ (kb3 _ _ hh2 nhr) nhr)
    have kb5 : KB r H H5 := kb2'.trans ((kb3.trans kb4).trans (KB.of s5))
    have nsr : sd ≠ r := fun z => by rw [z, e4] at nsd; cases nsd
    have nsh : sd ≠ hh := fun z => by rw [z, kb4 _ _ (kb3 _ _ hh2 nhr) nhr] at nsd; cases nsd
    have nsd0 : H sd = none := nr (kb2'.trans (kb3.trans kb4)) e4 nsd
    clear kb3 kb4 e3 e4 s5 nsd hr2 kb2'
    wtm_at "wp"
    rename_i H6 kb6 e6
    have hh6 := kb6 _ _ hh5 nhr
    have hsd6 := kb6 _ _ hsd nsr
    have kbH6 : KB r H H6 := kb5.trans kb6
    refine for_fin (fin_enum (xs := (wsOf x).map V.str)) (fun j σ H' => ∃ (v3 v4 : Option V) (kvs : List (Key × V)) (M : Str → Option Addr), σ = [some (.ref r), some (.int i), some (.str x), v3, v4] ∧ (∀ c o, H6 c = some o → c ≠ sd → H' c = some o) ∧ H' sd = some (.dK kvs) ∧ kvs.length ≤ j ∧
      (∀ w, valV kvs (.inr w) = (M w).map V.ref) ∧ (∀ w, w ∉ (wsOf x).take j → M w = none) ∧ (∀ w ∈ (wsOf x).take j, ∃ q, M w = some q ∧ H' q = some (.lst ((plc ((wsOf x).take j) w).map fun n : Nat => V.int n)) ∧ H6 q = none) ∧ (∀ u w q, M u = some q → M w = some q → u = w))
      ⟨_, _, [], fun _ => none, rfl, fun c o h _ => h, hsd6, by simp, fun w => rfl, fun w _ => rfl, fun w hw => absurd hw (by simp), fun u w q h => by cases h⟩ (fun j σ H' _ h => by obtain ⟨_, _, _, _, _, h, _⟩ := h; exact .of (h _ _ hh6 nsh.symm)) ?_ ?_
    · rintro j y σ H7 H7' hj ⟨v3, v4, kvs, M, rfl, kp7, hsd7, hkl, hM, hM0, hM1, hMi⟩ ⟨t, wd, rfl, nt, st, ht, hwd⟩
      rw [List.length_map] at hj
      rw [List.getElem?_map] at hwd
      obtain ⟨ww, hww, rfl⟩ := Option.map_eq_some_iff.mp hwd
      have hr7 := st _ _ (kp7 _ _ e6 (Ne.symm nsr))
      have hsd7' := st _ _ hsd7
      have htk : (wsOf x).take (j + 1) = (wsOf x).take j ++ [ww] := take_succL hww
      have htl : ((wsOf x).take j).length = j := by rw [List.length_take]; omega
      wtm_at "wp"
      refine w_dsetd ?_
      wtm_at "wp"
      refine w_dset1 hsd7' ?_
      wtm_at "wp"
      rename_i q nq H8 s8 hq
      have hsd8 := s8 _ _ hsd7'
      have S8 := st.trans s8
      have kp8 : ∀ c o, H6 c = some o → c ≠ sd → H8 c = some o := fun c o h n => S8 _ _ (kp7 c o h n)
      have nqs : q ≠ sd := fun z => by rw [z, hsd7'] at nq; cases nq
      have nq6 : H6 q = none := by
        cases e : H6 q with
        | none => rfl
        | some o =>
          rw [st _ _ (kp7 _ _ e nqs)] at nq
          cases nq
      have nM : ∀ w p, M w = some p → H8 p ≠ none ∧ p ≠ sd ∧ p ≠ q ∧ H6 p = none := fun w p hp => by
        have hw : w ∈ (wsOf x).take j := Classical.byContradiction fun z => by rw [hM0 w z] at hp; cases hp
        obtain ⟨q', a, b, c⟩ := hM1 w hw
        rw [hp] at a
        cases a
        refine ⟨by rw [S8 _ _ b]; simp, fun z => ?_, fun z => ?_, c⟩
        · rw [z, hsd6] at c
          cases c
        · rw [← z, st _ _ b] at nq
          cases nq
      refine ⟨kvs, .inr ww, hsd8, rfl, Nat.lt_of_le_of_lt (by omega : _ ≤ 1000) (by decide), fun v hval => ?_, fun hval => ?_⟩
      · rw [hM ww] at hval
        obtain ⟨p, hp, rfl⟩ := Option.map_eq_some_iff.mp hval
        have hw : ww ∈ (wsOf x).take j := Classical.byContradiction fun z => by rw [hM0 ww z] at hp; cases hp
        obtain ⟨q', a, b, c⟩ := hM1 ww hw
        rw [hp] at a
        cases a
        have b8 := S8 _ _ b
        obtain ⟨_, nps, _, _⟩ := nM ww p hp
        wtm_at "wp"
        refine w_append b8 (Nat.lt_of_le_of_lt (by rw [List.length_map]; exact Nat.le_trans (plc_len _ _) (by rw [htl]; omega : _ ≤ 1000)) (by decide)) (fun H9 k9 h9 => ?_)
        refine ⟨_, _, kvs, M, rfl, fun c' o h n => k9 _ _ (kp8 c' o h n) (fun z => by rw [z, c] at h; cases h), k9 _ _ hsd8 nps.symm, by omega, hM, fun w hn => hM0 w (fun z => hn (by rw [htk]; exact List.mem_append_left _ z)), fun w hm => ?_, hMi⟩
        rw [htk] at hm ⊢
        by_cases hwe : w = ww
        · subst hwe
          refine ⟨p, hp, ?_, c⟩
          rw [h9, plc_snoc, if_pos rfl, htl, List.map_append]
          rfl
        · have hw2 : w ∈ (wsOf x).take j := by
            rcases List.mem_append.mp hm with h | h
            · exact h
            · exact absurd (List.mem_singleton.mp h) hwe
          obtain ⟨q2, a2, b2, c2⟩ := hM1 w hw2
          refine ⟨q2, a2, ?_, c2⟩
          rw [plc_snoc, if_neg (fun z => hwe z.symm), List.append_nil]
          exact k9 _ _ (S8 _ _ b2) (fun z => hwe (hMi w ww p (z ▸ a2) hp))
      · have hMn : M ww = none := by
          rw [hM ww] at hval
          cases e : M ww with
          | none => rfl
          | some p => rw [e] at hval; cases hval
        have hwn : ww ∉ (wsOf x).take j := fun z => by
          obtain ⟨q', a, _⟩ := hM1 ww z
          rw [hMn] at a
          cases a
        generalize eN : upd H8 sd _ = H9
        have k9 : KB sd H8 H9 := kb_gen eN
        have h9 := at_gen eN
        clear eN
        have hq9 := k9 _ _ hq nqs
        wtm_at "wp"
        refine w_append hq9 (by decide) (fun H10 k10 h10 => ?_)
        refine ⟨_, _, _, fun w => if w = ww then some q else M w, rfl, fun c o h n => k10 _ _ (k9 _ _ (kp8 c o h n) n) (fun z => by rw [z, nq6] at h; cases h), k10 _ _ h9 nqs.symm, Nat.le_trans (length_putK _ _ _) (by omega), fun w => ?_, fun w hn => ?_, fun w hm => ?_, fun u w p hu hw => ?_⟩
        · dsimp only
          rw [valV_put]
          by_cases e : w = ww
          · subst e
            simp
          · rw [if_neg (fun z => e (Sum.inr.inj z)), if_neg e]
            exact hM w
        · dsimp only
          rw [htk] at hn
          rw [if_neg (fun z => hn (by rw [z]; simp))]
          exact hM0 w (fun z => hn (List.mem_append_left _ z))
        · rw [htk] at hm ⊢
          by_cases hwe : w = ww
          · subst hwe
            refine ⟨q, by dsimp only; exact if_pos rfl, ?_, nq6⟩
            rw [h10, plc_snoc, if_pos rfl, htl, plc_none hwn]
            rfl
          · have hw2 : w ∈ (wsOf x).take j := by
              rcases List.mem_append.mp hm with h | h
              · exact h
              · exact absurd (List.mem_singleton.mp h) hwe
            obtain ⟨q2, a2, b2, c2⟩ := hM1 w hw2
            obtain ⟨_, n2s, n2q, _⟩ := nM w q2 a2
            refine ⟨q2, by dsimp only; rw [if_neg hwe]; exact a2, ?_, c2⟩
            rw [plc_snoc, if_neg (fun z => hwe z.symm), List.append_nil]
            exact k10 _ _ (k9 _ _ (S8 _ _ b2) n2s) n2q
        · dsimp only at hu hw
          by_cases e1 : u = ww
          · by_cases e2 : w = ww
            · rw [e1, e2]
            · rw [if_pos e1] at hu
              rw [if_neg e2] at hw
              cases hu
              exact absurd rfl (nM w q hw).2.2.1
          · by_cases e2 : w = ww
            · rw [if_pos e2] at hw
              rw [if_neg e1] at hu
              cases hw
              exact absurd rfl (nM u q hu).2.2.1
            · rw [if_neg e1] at hu
              rw [if_neg e2] at hw
              exact hMi u w p hu hw
    · rintro σ H7 ⟨v3, v4, kvs, M, rfl, kp7, hsd7, hkl, hM, hM0, hM1, hMi⟩
      rw [List.length_map] at hkl
      rw [List.length_map, List.take_length] at hM0 hM1
      refine k H7 (fun c o h n => ?_) ⟨d, hh, sd, kp7 _ _ e6 (Ne.symm nsr), kp7 _ _ hh6 nsh.symm, kvs, M, hsd7, hkl, hM, hM0, fun w hw => by obtain ⟨q, a, b, _⟩ := hM1 w hw; exact ⟨q, a, b⟩, hMi⟩ (fun S H'' hS kb => ?_)
      · exact kp7 _ _ (kbH6 c o h n) (fun z => by rw [z, nsd0] at h; cases h)
      · have nS : ∀ {q : Addr}, H q = none → ¬ S q := fun hq z => (hS _ z).2 hq
        have nr' : ¬ S r := fun z => (hS _ z).1 rfl
        exact ⟨d, hh, sd, kb _ _ (kp7 _ _ e6 (Ne.symm nsr)) nr', kb _ _ (kp7 _ _ hh6 nsh.symm) (nS (nr kb1 e1 nh)), kvs, M, kb _ _ hsd7 (nS nsd0), hkl, hM, hM0, fun w hw => by obtain ⟨q, a, b, c⟩ := hM1 w hw; exact ⟨q, a, kb _ _ b (nS (nr kbH6 e6 c))⟩, hMi⟩
abbrev s_Page_words : Stmt := inClass (topS 57) 1
theorem sc_Page_words : FnScope ["self"] ["self"] (defScope s_Page_words) := ⟨rfl, rfl, rfl, by decide +kernel, rfl, by decide +kernel, by decide +kernel⟩
def spPWords (C : Addr) : Sp := fun vs H Q _ => ∃ (r : Addr) (i : Int) (x : Str), vs = [.ref r] ∧ PgF C H r i x ∧ ∀ p H', H p = none → Same H H' → H' p = some (.lst ((wsOf x).map V.str)) → Q (.ref p) H'
theorem ok_pwords {f : Addr} {fd : FuncData} (F : Fun K "words" "Page.words" s_Page_words f fd) (T : Txt K mg Z C_Page C_Broken C_Full C_Gone C_NoFile C_Torn) : FnOk P w K mg base CX0 1 f fd ["self"] (spPWords C_Page) := by
  have c1 := T.cl_Page
  have n2 := T.na_Page_held
  refine F.ok sc_Page_words (fun vs H Q E h => ?_) (fun cdv A outer s H vs Q E hr h => ?_)
  · obtain ⟨r, i, x, rfl, _⟩ := h
    rfl
  · obtain ⟨r, i, x, rfl, hp, k⟩ := h
    obtain ⟨d, a, s', h1, h2, h3⟩ := hp.ex
    refine ⟨_, (pss_one (ps_ret (pe_callTy cl_list (by rfl) T.n_list PyProof.Rows.boot_list (pa_cons (pe_fld (pv 0) rfl) pa_nil)))), ?_⟩
    wtm_at "w0"
    wtm_at "wp"
    exact w_listOf (.of h2) (fun l H2 nl s2 hl => k _ _ nl s2 hl)
abbrev s_Page___eq__ : Stmt := inClass (topS 57) 4
theorem sc_Page___eq__ : FnScope ["self", "other"] ["self", "other"] (defScope s_Page___eq__) := ⟨rfl, rfl, rfl, by decide +kernel, rfl, by decide +kernel, by decide +kernel⟩
/-- how two pages are seen to be alike -/
def PqR (K : PySem.W.Frag) (C : Addr) : Addr → V → Hp → Bool → Prop := fun a y H b => ∃ i x, PgF C H a i x ∧ ((∃ r i' x', y = .ref r ∧ PgF C H r i' x' ∧ b = decide (i = i' ∧ x = x')) ∨ (NotC K H C y ∧ b = false))
theorem ok_peq {f : Addr} {fd : FuncData} (F : Fun K "__eq__" "Page.__eq__" s_Page___eq__ f fd) (T : Txt K mg Z C_Page C_Broken C_Full C_Gone C_NoFile C_Torn) (kl : Kls K C_Page) : FnOk P w K mg base CX0 1 f fd ["self", "other"] (spEqb (PqR K C_Page)) := by
  have hc := T.cl_Page
  have h1 := T.na_Page_number
  have h2 := T.na_Page_text
  refine F.ok sc_Page___eq__ (fun vs H Q E h => ?_) (fun cdv A outer s H vs Q E hr h => ?_)
  · obtain ⟨a, y, b, rfl, _⟩ := h
    rfl
  · obtain ⟨a, y, b, rfl, ⟨i, x, hp, hy⟩, k⟩ := h
    obtain ⟨d1, a1, s1, o1, _, _⟩ := hp.ex
    refine ⟨_, (pss_one (ps_ret (pe_and (pe_callB call_isi (by rfl) T.n_isinstance PyProof.Rows.boot_isinstance (pa_cons (pv 1) (pa_cons (pe_gcls T.m_Page rfl) pa_nil))) (pe_and (pe_cmpR op_eq (pe_fld (pv 0) rfl) (pe_fld (pv 1) rfl) (nomark _)) (pe_one (pe_cmpR op_eq (pe_fld (pv 0) rfl) (pe_fld (pv 1) rfl) (nomark _))))))), ?_⟩
    wtm_at "w0"
    wtm_at "wp"
    rcases hy with ⟨r, i', x', rfl, hp', rfl⟩ | ⟨⟨tv, ht, hk⟩, rfl⟩
    · obtain ⟨d2, a2, s2, o2, _, _⟩ := hp'.ex
      refine w_isiO (kl.ty o2) kit_self ?_
      wtm_at "wp"
      refine w_dec (fun e1 => ?_) (fun e1 => ?_)
      · wtm_at "wp"
        have e : decide (V.str x = V.str x') = decide (i = i' ∧ x = x') := by
          rw [decide_eq_decide]
          exact ⟨fun z => ⟨V.int.inj e1, V.str.inj z⟩, fun z => by rw [z.2]⟩
        rw [e]
        exact k _ (.refl _)
      · have e : decide (i = i' ∧ x = x') = false := decide_eq_false fun z => e1 (by rw [z.1])
        rw [e] at k
        exact k _ (.refl _)
    · refine w_isiO ht hk ?_
      wtm_at "wp"
      exact k _ (.refl _)
abbrev s_Page___len__ : Stmt := inClass (topS 57) 5
theorem sc_Page___len__ : FnScope ["self"] ["self"] (defScope s_Page___len__) := ⟨rfl, rfl, rfl, by decide +kernel, rfl, by decide +kernel, by decide +kernel⟩
def spPLen (C : Addr) : Sp := fun vs H Q _ => ∃ (r : Addr) (i : Int) (x : Str), vs = [.ref r] ∧ PgF C H r i x ∧ Q (.int ((wsOf x).length : Nat)) H
theorem ok_plen {f : Addr} {fd : FuncData} (F : Fun K "__len__" "Page.__len__" s_Page___len__ f fd) (T : Txt K mg Z C_Page C_Broken C_Full C_Gone C_NoFile C_Torn) : FnOk P w K mg base CX0 1 f fd ["self"] (spPLen C_Page) := by
  have c1 := T.cl_Page
  have n2 := T.na_Page_held
  refine F.ok sc_Page___len__ (fun vs H Q E h => ?_) (fun cdv A outer s H vs Q E hr h => ?_)
  · obtain ⟨r, i, x, rfl, _⟩ := h
    rfl
  · obtain ⟨r, i, x, rfl, hp, k⟩ := h
    obtain ⟨d, a, s', h1, h2, h3⟩ := hp.ex
    refine ⟨_, (pss_one (ps_ret (pe_callB cl_len (by rfl) T.n_len PySem.boot_len (pa_cons (pe_fld (pv 0) rfl) pa_nil)))), ?_⟩
    wtm_at "w0"
    wtm_at "wp"
    rw [List.length_map]
    exact k
abbrev s_Page___str__ : Stmt := inClass (topS 57) 6
theorem sc_Page___str__ : FnScope ["self"] ["self"] (defScope s_Page___str__) := ⟨rfl, rfl, rfl, by decide +kernel, rfl, by decide +kernel, by decide +kernel⟩
def spPStr (C : Addr) : Sp := fun vs H Q _ => ∃ (r : Addr) (i : Int) (x : Str), vs = [.ref r] ∧ PgF C H r i x ∧ x.length ≤ 40000 ∧ Q (.str x) H
theorem ok_pstr {f : Addr} {fd : FuncData} (F : Fun K "__str__" "Page.__str__" s_Page___str__ f fd) (T : Txt K mg Z C_Page C_Broken C_Full C_Gone C_NoFile C_Torn) : FnOk P w K mg base CX0 1 f fd ["self"] (spPStr C_Page) := by
  have c1 := T.cl_Page
  have n2 := T.na_Page_text
  refine F.ok sc_Page___str__ (fun vs H Q E h => ?_) (fun cdv A outer s H vs Q E hr h => ?_)
  · obtain ⟨r, i, x, rfl, _⟩ := h
    rfl
  · obtain ⟨r, i, x, rfl, hp, hl, k⟩ := h
    obtain ⟨d, a, s', h1, h2, h3⟩ := hp.ex
    refine ⟨_, (pss_one (ps_ret (pe_joined1 (pe_fmt (pe_fld (pv 0) rfl))))), ?_⟩
    wtm_at "w0"
    wtm_at "wp"
    exact .inl ⟨x, rfl, sz (by omega), k⟩
abbrev s_Page___repr__ : Stmt := inClass (topS 57) 7
theorem sc_Page___repr__ : FnScope ["self"] ["self"] (defScope s_Page___repr__) := ⟨rfl, rfl, rfl, by decide +kernel, rfl, by decide +kernel, by decide +kernel⟩
def pageRepr (i : Nat) (x : Str) : Str := S ((("Page(" : Str).cps.toList ++ TL.numL i ++ (", " : Str).cps.toList) ++ (39 :: (x.cps.toList ++ [39])) ++ [41])
def spPRepr (C : Addr) : Sp := fun vs H Q _ => ∃ (r : Addr) (i : Nat) (x : Str), vs = [.ref r] ∧ PgF C H r i x ∧ i ≤ 9999 ∧ x.length ≤ 40000 ∧ (∀ c ∈ x.cps.toList, c = 32 ∨ (97 ≤ c ∧ c ≤ 122)) ∧ Q (.str (pageRepr i x)) H
theorem ok_prepr {f : Addr} {fd : FuncData} (F : Fun K "__repr__" "Page.__repr__" s_Page___repr__ f fd) (T : Txt K mg Z C_Page C_Broken C_Full C_Gone C_NoFile C_Torn) : FnOk P w K mg base CX0 1 f fd ["self"] (spPRepr C_Page) := by
  have c1 := T.cl_Page
  have n2 := T.na_Page_text
  have n3 := T.na_Page_number
  refine F.ok sc_Page___repr__ (fun vs H Q E h => ?_) (fun cdv A outer s H vs Q E hr h => ?_)
  · obtain ⟨r, i, x, rfl, _⟩ := h
    rfl
  · obtain ⟨r, i, x, rfl, hp, hi, hl, hx, k⟩ := h
    obtain ⟨d, a, s', h1, h2, h3⟩ := hp.ex
    have hn := numL_len4 hi
    refine ⟨_, (pss_one (ps_ret (pe_fj (.cons pe_str (.cons (pe_fmt (pe_fld (pv 0) rfl)) (.cons pe_str (.cons (pe_fmtR (pe_fld (pv 0) rfl)) (.cons pe_str .nil)))))))), ?_⟩
    wtm_at "w0"
    wtm_at "wp"
    have l1 : (Str.empty ++ ("Page(" : Str)).length = 5 := by decide +kernel
    have l2 : (", " : Str).length = 2 := rfl
    have l3 : (")" : Str).length = 1 := rfl
    have hrp := repr_plain hx
    have hrl : (reprText x).length ≤ 40002 := by
      rw [hrp, len_S, List.length_cons, List.length_append, len_cps]
      simp
      omega
    refine ⟨by decide +kernel, ?_⟩
    wtm_at "wp"
    refine .inr ⟨_, rfl, PySem.Flt.log2_lt_of (by decide) (by rw [Int.natAbs_natCast]; exact Nat.lt_of_le_of_lt hi (by decide +kernel)), _, rfl, ?_⟩
    rw [num_S]
    refine ⟨sz (by rw [Str.length_append, l1, len_S]; omega), ?_⟩
    wtm_at "wp"
    refine ⟨sz (by rw [Str.length_append, Str.length_append, l1, len_S, l2]; omega), ?_⟩
    wtm_at "wp"
    refine w_fmtRE ?_
    wtm_at "wp"
    refine .inl ⟨x, rfl, sz (by omega), _, rfl, sz (by rw [Str.length_append, Str.length_append, Str.length_append, l1, len_S, l2]; omega), ?_⟩
    wtm_at "wp"
    refine ⟨sz (by rw [Str.length_append, Str.length_append, Str.length_append, Str.length_append, l1, len_S, l2, l3]; omega), ?_⟩
    wtm_at "wp"
    have e : Str.empty ++ ("Page(" : Str) ++ S (TL.numL i) ++ (", " : Str) ++ reprText x ++ (")" : Str) = pageRepr i x := str_ext (by
      rw [cps_append, cps_append, cps_append, cps_append, cps_append, hrp]
      rfl)
    rw [e]
    exact k
abbrev s_Page_places : Stmt := inClass (topS 57) 2
theorem sc_Page_places : FnScope ["self", "word"] ["self", "word"] (defScope s_Page_places) := ⟨rfl, rfl, rfl, by decide +kernel, rfl, by decide +kernel, by decide +kernel⟩
def spPPlaces (C : Addr) : Sp := fun vs H Q _ => ∃ (r : Addr) (i : Int) (x u : Str), vs = [.ref r, .str u] ∧ PgF C H r i x ∧ isW u = true ∧ ∀ p H', H p = none → Same H H' → H' p = some (.lst ((plc (wsOf x) u).map fun n : Nat => V.int n)) → Q (.ref p) H'
theorem ok_pplaces {f : Addr} {fd : FuncData} (F : Fun K "places" "Page.places" s_Page_places f fd) (T : Txt K mg Z C_Page C_Broken C_Full C_Gone C_NoFile C_Torn) (f_look_word : Fn P w K mg base "look_word" 2 ["thing"] (spLook1N K)) : FnOk P w K mg base CX0 3 f fd ["self", "word"] (spPPlaces C_Page) := by
  have c1 := T.cl_Page
  have n2 := T.na_Page_stands
  refine F.ok sc_Page_places (fun vs H Q E h => ?_) (fun cdv A outer s H vs Q E hr h => ?_)
  · obtain ⟨r, i, x, u, rfl, _⟩ := h
    rfl
  · obtain ⟨r, i, x, u, rfl, hp, hu, k⟩ := h
    refine ⟨_, (pss_cons (ps_expr (pe_fn f_look_word (hr.mono (by omega)) rfl (pa_cons (pv 1) pa_nil)))
 (pss_one (ps_ret (pe_callTy cl_list (by rfl) T.n_list PyProof.Rows.boot_list (pa_cons (pe_dget2 (u1_of hr) (pe_fld (pv 0) rfl) (pv 1) (pe_lst pa_nil) ⟨rfl, rfl, rfl, rfl⟩) pa_nil))))), ?_⟩
    wtm_at "w0"
    wtm_at "wp"
    refine ⟨u, rfl, hu, fun H1 s1 => ?_⟩
    obtain ⟨d, a, st, h1, h2, kvs, M, g1, g2, g3, g4, g5, g6⟩ := (hp.same s1).ex
    wtm_at "wp"
    refine w_dget2 ?_
    wtm_at "wp"
    refine w_dset1 g1 ?_
    wtm_at "wp"
    rename_i q2 nq H2 s2 hq2
    refine ⟨_, .inl ⟨kvs, .inr u, .inl (s2 _ _ g1), rfl, rfl⟩, ?_⟩
    rw [g3 u]
    wtm_at "wp"
    by_cases hm : u ∈ wsOf x
    · obtain ⟨q, e1, e2⟩ := g5 u hm
      rw [e1]
      exact w_listOf (.of (s2 _ _ e2)) (fun l H3 nl s3 hl => k l H3 (same_free (s1.trans s2) nl) (s1.trans (s2.trans s3)) hl)
    · rw [g4 u hm]
      refine w_listOf (.of hq2) (fun l H3 nl s3 hl => k l H3 (same_free (s1.trans s2) nl) (s1.trans (s2.trans s3)) ?_)
      rw [hl, plc_none hm]
      rfl

end
end K74

namespace K74
section
variable {P : Program} {w : World} {K : PySem.W.Frag} {mg : Str → Option Value} {base : Heap} {Z : Zs} {C_Page C_Broken C_Full C_Gone C_NoFile C_Torn : Addr}
abbrev s_count_word : Stmt := topS 33
theorem sc_count_word : FnScope ["parts", "deep"] ["parts", "deep"] (defScope s_count_word) := ⟨rfl, rfl, rfl, by decide +kernel, rfl, by decide +kernel, by decide +kernel⟩
abbrev s_count_phrase : Stmt := topS 34
theorem sc_count_phrase : FnScope ["parts", "deep", "part"] ["parts", "deep"] (defScope s_count_phrase) := ⟨rfl, rfl, rfl, by decide +kernel, rfl, by decide +kernel, by decide +kernel⟩
abbrev s_count_near : Stmt := topS 35
theorem sc_count_near : FnScope ["parts", "deep", "far", "words", "word"] ["parts", "deep"] (defScope s_count_near) := ⟨rfl, rfl, rfl, by decide +kernel, rfl, by decide +kernel, by decide +kernel⟩
abbrev s_count_joined : Stmt := topS 36
theorem sc_count_joined : FnScope ["parts", "deep", "counts", "part"] ["parts", "deep"] (defScope s_count_joined) := ⟨rfl, rfl, rfl, by decide +kernel, rfl, by decide +kernel, by decide +kernel⟩
abbrev s_count_but : Stmt := topS 37
theorem sc_count_but : FnScope ["parts", "deep"] ["parts", "deep"] (defScope s_count_but) := ⟨rfl, rfl, rfl, by decide +kernel, rfl, by decide +kernel, by decide +kernel⟩
abbrev s_count_words : Stmt := topS 39
theorem sc_count_words : FnScope ["thing", "deep", "kind", "parts", "count"] ["thing", "deep"] (defScope s_count_words) := ⟨rfl, rfl, rfl, by decide +kernel, rfl, by decide +kernel, by decide +kernel⟩
abbrev s_is_query : Stmt := topS 40
theorem sc_is_query : FnScope ["thing", "many"] ["thing"] (defScope s_is_query) := ⟨rfl, rfl, rfl, by decide +kernel, rfl, by decide +kernel, by decide +kernel⟩
/-! ### queries -/
def spPart (K : PySem.W.Frag) (N : Nat) (g : Nat → List PyData → Option Nat) : Sp := fun vs H Q _ => ∃ (a : Addr) (n L : Nat) (xs : List V) (ds : List PyData), vs = [.ref a, .int ((n + 1 : Nat) : Int)] ∧ n ≤ N ∧ H a = some (.lst xs) ∧ RpAll H xs ds ∧ (∀ d ∈ ds, Fit L d) ∧ L ≤ 50 ∧ xs.length ≤ 1000 ∧ ∀ H', Same H H' → Q (cntV (g n ds)) H'
def spCnt (K : PySem.W.Frag) (N : Nat) : Sp := fun vs H Q _ => ∃ (v : V) (n L : Nat) (d : PyData), vs = [v, .int (n : Nat)] ∧ n ≤ N ∧ Rp H v d ∧ Fit L d ∧ L ≤ 50 ∧ ∀ H', Same H H' → Q (cntV (cnt n d)) H'
theorem at_rp {H : Hp} {xs : List V} {ds : List PyData} (h : RpAll H xs ds) {i : Nat} (hi : i < xs.length) : ∃ v d, xs[i]? = some v ∧ ds[i]? = some d ∧ Rp H v d := by
  obtain ⟨d, h1, h2⟩ := h.at (List.getElem?_eq_getElem hi)
  exact ⟨_, d, List.getElem?_eq_getElem hi, h1, h2⟩
theorem ok_cword {N : Nat} {f : Addr} {fd : FuncData} (F : Fun K "count_word" "count_word" s_count_word f fd) (T : Txt K mg Z C_Page C_Broken C_Full C_Gone C_NoFile C_Torn) (f_is_word : Fn P w K mg base "is_word" 1 ["thing"] (spWord K)) : FnOk P w K mg base CX0 2 f fd ["parts", "deep"] (spPart K N fun _ => wordC) := by
  refine F.ok sc_count_word (fun vs H Q E h => ?_) (fun cdv A outer s H vs Q E hr h => ?_)
  · obtain ⟨a, n, L, xs, ds, rfl, _⟩ := h
    rfl
  · obtain ⟨a, n, L, xs, ds, rfl, hn, ha, hR, hF, hL, hl, k⟩ := h
    have hlen := hR.length
    have k' : ∀ {o : Option Nat}, wordC ds = o → ∀ H', Same H H' → Q (cntV o) H' := fun e H' s => e ▸ k H' s
    refine ⟨_, (pss_one (ps_ret (pe_ifExp (PW.pt (pw_and (pt_cmpR op_eq (pe_callB cl_len (by rfl) T.n_len PySem.boot_len (pa_cons (pv 0) pa_nil)) pe_int (nomark _)) (pw_and1 (pt_val (pe_fn f_is_word (hr.mono (by omega)) rfl (pa_cons (pe_ix ix_list (pv 0) pe_int (fun _ _ => rfl)) pa_nil)))))) pe_int pe_non))), ?_⟩
    wtm_at "w0"
    wtm_at "wp"
    refine w_dec (fun h1 => ?_) (fun h1 => ?_)
    · have h1' : xs.length = 1 := by have := V.int.inj h1; omega
      obtain ⟨v, d, g1, g2, g3⟩ := at_rp hR (i := 0) (by omega)
      wtm_at "wp"
      refine w_ixL (.of ha) (atI_nat g1) ?_
      wtm_at "wp"
      refine ⟨v, rfl, g3.txt (hF d (List.mem_of_getElem? g2)), fun H1 s1 => ?_⟩
      have e0 : ds = [d] := by
        match ds, hlen, g2 with
        | [d'], _, g2 => cases g2; rfl
        | [], hl, g2 => cases g2
        | _ :: _ :: _, hl, _ => simp at hl; omega
      rw [isWD_of g3]
      wtm_at "wp"
      cases hw : isWD d with
      | true =>
        wtm_at "wp"
        exact k' (o := some 1) (by rw [e0]; unfold wordC; rw [if_pos ⟨rfl, by simp [hw]⟩]) _ s1
      | false =>
        wtm_at "wp"
        exact k' (o := none) (by rw [e0]; unfold wordC; rw [if_neg (fun z => by simp [hw] at z)]) _ s1
    · wtm_at "wp"
      exact k' (o := none) (by unfold wordC; rw [if_neg (fun z => h1 (by rw [hlen, z.1]; rfl))]) _ (.refl _)
/-- is each a word? -/
theorem all_words {H : Hp} : True := trivial
theorem ok_cphrase {N : Nat} {f : Addr} {fd : FuncData} (F : Fun K "count_phrase" "count_phrase" s_count_phrase f fd) (T : Txt K mg Z C_Page C_Broken C_Full C_Gone C_NoFile C_Torn) (f_is_word : Fn P w K mg base "is_word" 1 ["thing"] (spWord K)) : FnOk P w K mg base CX0 2 f fd ["parts", "deep"] (spPart K N fun _ => phraseC) := by
  refine F.ok sc_count_phrase (fun vs H Q E h => ?_) (fun cdv A outer s H vs Q E hr h => ?_)
  · obtain ⟨a, n, L, xs, ds, rfl, _⟩ := h
    rfl
  · obtain ⟨a, n, L, xs, ds, rfl, hn, ha, hR, hF, hL, hl, k⟩ := h
    have hlen := hR.length
    have k' : ∀ {o : Option Nat}, phraseC ds = o → ∀ H', Same H H' → Q (cntV o) H' := fun e H' s => e ▸ k H' s
    refine ⟨_, (pss_one (ps_ret (pe_ifExp (PW.pt (pw_and (pt_chain op_le op_le pe_int (pe_callB cl_len (by rfl) T.n_len PySem.boot_len (pa_cons (pv 0) pa_nil)) pe_int) (pw_and1 (pt_val (pe_callB (cr_all rfl) (by rfl) T.n_all PyProof.Rows.boot_all (pa_cons (pe_lc (own := [("part", 2)]) (g := gName 2) (tt := tYes) rfl sc_count_phrase.nd (show PI _ _ _ (iList K _) from (pi_list (pv 0))) (blkOk_by (own := [("part", 2)]) (N := ["parts", "deep", "part"]) (sc := defScope s_count_phrase) (by decide +kernel)) (fun _ _ _ _ _ => pg_name (i := 2) sc_count_phrase.nd rfl (Or.inl rfl)) (fun _ _ _ _ _ => pts_nil) (fun _ _ _ _ _ => (pe_fn f_is_word (hr.mono (by omega)) rfl (pa_cons (pv 2) pa_nil)))) pa_nil)))))) (pe_callB cl_len (by rfl) T.n_len PySem.boot_len (pa_cons (pv 0) pa_nil)) pe_non))), ?_⟩
    wtm_at "w0"
    wtm_at "wp"
    refine w_dec (fun h1 => ?_) (fun h1 => ?_)
    · wtm_at "wp"
      refine w_dec (fun h2 => ?_) (fun h2 => ?_)
      · wtm_at "wp"
        refine lc_fin (fin_list (xs := xs)) (fun i acc H' => Same H H' ∧ acc = ((ds.take i).map isWD).map V.bl) (fun D H2 nD s2 hD => ⟨s2, rfl⟩) (fun i acc H2 _ h => .of (h.1 _ _ ha)) ?_ ?_
        · rintro D i v acc H3 H4 nD hi hac ⟨s3, e3⟩ hD ⟨rfl, hv⟩
          obtain ⟨d, g1, g2⟩ := hR.at hv
          wtm_at "wp"
          refine ⟨rfl, ?_⟩
          wtm_at "wp"
          refine ⟨v, rfl, (g2.same s3).txt (hF d (List.mem_of_getElem? g1)), fun H5 s5 => ?_⟩
          refine w_acc (s5 _ _ hD) hac hi (sz (by omega)) (fun H6 k6 h6 => ⟨k6.same (s3.trans s5) nD, ?_⟩)
          rw [e3, take_succL g1, isWD_of g2]
          simp
        · rintro D acc H3 nD ⟨s3, e3⟩ hac hD
          rw [hlen, List.take_length] at e3
          wtm_at "wp"
          refine w_all e3 (.of hD) ?_
          have ea : ((ds.map isWD).all id) = ds.all isWD := by
            rw [List.all_map]
            rfl
          rw [ea]
          wtm_at "wp"
          cases hb : ds.all isWD with
          | true =>
            have ha3 := s3 _ _ ha
            wtm_at "wp"
            rw [hlen]
            exact k' (o := some ds.length) (by unfold phraseC; rw [if_pos ⟨by omega, by omega, hb⟩]) _ s3
          | false =>
            wtm_at "wp"
            exact k' (o := none) (by unfold phraseC; rw [if_neg (fun z => by rw [hb] at z; exact absurd z.2.2 Bool.false_ne_true)]) _ s3
      · wtm_at "wp"
        exact k' (o := none) (by unfold phraseC; rw [if_neg (fun z => by omega)]) _ (.refl _)
    · wtm_at "wp"
      exact k' (o := none) (by unfold phraseC; rw [if_neg (fun z => by omega)]) _ (.refl _)
theorem ok_cnear {N : Nat} {f : Addr} {fd : FuncData} (F : Fun K "count_near" "count_near" s_count_near f fd) (T : Txt K mg Z C_Page C_Broken C_Full C_Gone C_NoFile C_Torn) (f_is_word : Fn P w K mg base "is_word" 1 ["thing"] (spWord K)) (f_is_whole_words : Fn P w K mg base "is_whole_words" 1 ["thing"] spWhole) : FnOk P w K mg base CX0 2 f fd ["parts", "deep"] (spPart K N fun _ => nearC) := by
  refine F.ok sc_count_near (fun vs H Q E h => ?_) (fun cdv A outer s H vs Q E hr h => ?_)
  · obtain ⟨a, n, L, xs, ds, rfl, _⟩ := h
    rfl
  · obtain ⟨a, n, L, xs, ds, rfl, hn, ha, hR, hF, hL, hl, k⟩ := h
    have hlen := hR.length
    have k' : ∀ {o : Option Nat}, nearC ds = o → ∀ H', Same H H' → Q (cntV o) H' := fun e H' s => e ▸ k H' s
    refine ⟨_, (pss_cons (ps_if (pt_cmpR op_ne (pe_callB cl_len (by rfl) T.n_len PySem.boot_len (pa_cons (pv 0) pa_nil)) pe_int (nomark _))
 (pss_one (ps_ret pe_non))
 pss_nil)
 (pss_cons (ps_asg (pv 0) (pg_star (k := 1) (after := 0) rfl (pgs_cons (pg_name (i := 2) sc_count_near.nd rfl (.inl rfl)) (pgs_star (pg_name (i := 3) sc_count_near.nd rfl (.inl rfl)) pgs_nil))))
 (pss_cons (ps_if (PW.pt (pw_or (pt_not (pt_val (pe_fn f_is_whole_words (hr.mono (by omega)) rfl (pa_cons (pv 2) pa_nil)))) (pw_or (pt_not (pt_chain op_le op_le pe_int (pv 2) (pe_gint T.c_FARTHEST rfl))) (pw_or1 (pt_not (pt_val (pe_callB (cr_all rfl) (by rfl) T.n_all PyProof.Rows.boot_all (pa_cons (pe_lc (own := [("word", 4)]) (g := gName 4) (tt := tYes) rfl sc_count_near.nd (show PI _ _ _ (iList K _) from (pi_list (pv 3))) (blkOk_by (own := [("word", 4)]) (N := ["parts", "deep", "far", "words", "word"]) (sc := defScope s_count_near) (by decide +kernel)) (fun _ _ _ _ _ => pg_name (i := 4) sc_count_near.nd rfl (Or.inl rfl)) (fun _ _ _ _ _ => pts_nil) (fun _ _ _ _ _ => (pe_fn f_is_word (hr.mono (by omega)) rfl (pa_cons (pv 4) pa_nil)))) pa_nil))))))))
 (pss_one (ps_ret pe_non))
 pss_nil)
 (pss_one (ps_ret pe_int))))), ?_⟩
    wtm_at "w0"
    wtm_at "wp"
    refine w_decN (fun h1 => ?_) (fun h1 => ?_)
    · have h3 : xs.length = 3 := by have := V.int.inj h1; omega
      obtain ⟨x, y, z, rfl⟩ : ∃ x y z, xs = [x, y, z] := by
        match xs, h3 with
        | [x, y, z], _ => exact ⟨x, y, z, rfl⟩
      obtain ⟨d1, d2, d3, rfl⟩ : ∃ d1 d2 d3, ds = [d1, d2, d3] := by
        have h3' : ds.length = 3 := by omega
        match ds, h3' with
        | [x, y, z], _ => exact ⟨x, y, z, rfl⟩
      obtain ⟨_, e1, r1⟩ := hR.at (i := 0) rfl
      obtain ⟨_, e2, r2⟩ := hR.at (i := 1) rfl
      obtain ⟨_, e3, r3⟩ := hR.at (i := 2) rfl
      cases e1
      cases e2
      cases e3
      wtm_at "wp"
      refine ⟨a, _, rfl, .inr (.of ha), by simp, fun p1 n1 => ?_⟩
      generalize eN : upd H p1 _ = H1
      have s1 := same_gen n1 eN
      have hp1 := at_gen eN
      clear eN
      have hp1' : H1 p1 = some (.lst [y, z]) := hp1
      simp only [List.length_cons, List.length_nil, List.take_succ_cons, List.take_zero, List.drop_succ_cons, List.drop_zero, Nat.reduceAdd, Nat.reduceSub, List.cons_append, List.nil_append, List.drop_nil]
      wtm_at "wp"
      refine ⟨x, rfl, r1.thg.same s1, ?_⟩
      have bad : (∀ f, d1 ≠ .int f) → ∀ H', Same H H' → Q .non H' := fun hb => k' (o := none) (by
        unfold nearC
        split
        · rename_i f a b heq
          cases heq
          exact absurd rfl (hb f)
        · rfl)
      cases r1 with
      | non => wtm_at "wp"; exact bad (fun f z => by cases z) _ s1
      | bl b => wtm_at "wp"; exact bad (fun f z => by cases z) _ s1
      | str b => wtm_at "wp"; exact bad (fun f z => by cases z) _ s1
      | lst h r => wtm_at "wp"; exact bad (fun f z => by cases z) _ s1
      | tup h r => wtm_at "wp"; exact bad (fun f z => by cases z) _ s1
      | int i =>
        wtm_at "wp"
        refine w_dec (fun g1 => ?_) (fun g1 => ?_)
        · wtm_at "wp"
          by_cases g2 : i ≤ 20
          · refine iteF' (by rw [decide_eq_true g2]; rfl) ?_
            wtm_at "wp"
            refine lc_fin (fin_list (xs := [y, z])) (fun i acc H' => Same H1 H' ∧ acc = (([d2, d3].take i).map isWD).map V.bl) (fun D H2 nD s2 hD => ⟨s2, rfl⟩) (fun i acc H2 _ h => .of (h.1 _ _ hp1')) ?_ ?_
            · rintro D j v acc H3 H4 nD hj hac ⟨s3, e3⟩ hD ⟨rfl, hv⟩
              have hvd : ∃ d, [d2, d3][j]? = some d ∧ Rp H v d ∧ Fit L d := by
                match j, hj with
                | 0, _ => cases hv; exact ⟨d2, rfl, r2, hF d2 (by simp)⟩
                | 1, _ => cases hv; exact ⟨d3, rfl, r3, hF d3 (by simp)⟩
              obtain ⟨d, g1', g2', g3'⟩ := hvd
              wtm_at "wp"
              refine ⟨rfl, ?_⟩
              wtm_at "wp"
              refine ⟨v, rfl, ((g2'.same s1).same s3).txt g3', fun H5 s5 => ?_⟩
              refine w_acc (s5 _ _ hD) hac hj (sz (by simp)) (fun H6 k6 h6 => ⟨k6.same (s3.trans s5) nD, ?_⟩)
              rw [e3, take_succL g1', isWD_of g2']
              simp
            · rintro D acc H3 nD ⟨s3, e3⟩ hac hD
              wtm_at "wp"
              refine w_all (bs := [isWD d2, isWD d3]) e3 (.of hD) ?_
              wtm_at "wp"
              have ea : ([isWD d2, isWD d3].all id) = (isWD d2 && isWD d3) := by simp
              rw [ea]
              cases hb : (isWD d2 && isWD d3) with
              | true =>
                rw [Bool.and_eq_true] at hb
                wtm_at "wp"
                exact k' (o := some 2) (by unfold nearC; simp only; rw [if_pos ⟨by omega, g2, hb.1, hb.2⟩]) _ (s1.trans s3)
              | false =>
                wtm_at "wp"
                exact k' (o := none) (by unfold nearC; simp only; rw [if_neg (fun z => by rw [z.2.2.1, z.2.2.2] at hb; cases hb)]) _ (s1.trans s3)
          · refine iteT' (by rw [decide_eq_false g2]; rfl) ?_
            wtm_at "wp"
            exact k' (o := none) (by unfold nearC; simp only; rw [if_neg (fun z => g2 z.2.1)]) _ s1
        · wtm_at "wp"
          exact k' (o := none) (by unfold nearC; simp only; rw [if_neg (fun z => g1 z.1)]) _ s1
    · wtm_at "wp"
      refine k' (o := none) ?_ _ (.refl _)
      unfold nearC
      split
      · rename_i f a b
        exact absurd (by rw [hlen]; rfl) h1
      · rfl
theorem ok_cjoin {N : Nat} {f : Addr} {fd : FuncData} (F : Fun K "count_joined" "count_joined" s_count_joined f fd) (T : Txt K mg Z C_Page C_Broken C_Full C_Gone C_NoFile C_Torn) (f_count_words : Fn P w K mg base "count_words" (4 * N + 3) ["thing", "deep"] (spCnt K N)) : FnOk P w K mg base CX0 (4 * N + 4) f fd ["parts", "deep"] (spPart K N fun n ds => joinC (ds.map (cnt n))) := by
  refine F.ok sc_count_joined (fun vs H Q E h => ?_) (fun cdv A outer s H vs Q E hr h => ?_)
  · obtain ⟨a, n, L, xs, ds, rfl, _⟩ := h
    rfl
  · obtain ⟨a, n, L, xs, ds, rfl, hn, ha, hR, hF, hL, hl, k⟩ := h
    have hlen := hR.length
    have k' : ∀ {o : Option Nat}, joinC (ds.map (cnt n)) = o → ∀ H', Same H H' → Q (cntV o) H' := fun e H' s => e ▸ k H' s
    refine ⟨_, (pss_cons (ps_setLc (i := 2) (own := [("part", 3)]) (g := gName 3) (tt := tYes) rfl sc_count_joined.nd rfl rfl (sw_true rfl rfl rfl (by decide +kernel)) (show PI _ _ _ (iList K _) from (pi_list (pv 0))) (blkOk_by (own := [("part", 3)]) (N := ["parts", "deep", "counts", "part"]) (sc := defScope s_count_joined) (by decide +kernel)) (fun _ _ _ _ _ => pg_name (i := 3) sc_count_joined.nd rfl (Or.inl rfl)) (fun _ _ _ _ _ => pts_nil) (fun _ _ _ _ _ => (pe_fn f_count_words (hr.mono (by omega)) rfl (pa_cons (pv 3) (pa_cons (pe_op op_sub (pv 1) pe_int) pa_nil)))))
 (pss_cons (ps_if (PW.pt (pw_or (pt_not (pt_chain op_le op_le pe_int (pe_callB cl_len (by rfl) T.n_len PySem.boot_len (pa_cons (pv 0) pa_nil)) pe_int)) (pw_or1 (pt_cmpR op_in_seq pe_non (pv 2) (by rfl)))))
 (pss_one (ps_ret pe_non))
 pss_nil)
 (pss_one (ps_ret (pe_callB (cr_sum rfl) (by rfl) T.n_sum PyProof.Rows.boot_sum (pa_cons (pv 2) pa_nil)))))), ?_⟩
    wtm_at "w0"
    wtm_at "wp"
    refine lc_fin (fin_list (xs := xs)) (fun i acc H' => Same H H' ∧ acc = ((ds.take i).map (cnt n)).map cntV) (fun D H2 nD s2 hD => ⟨s2, rfl⟩) (fun i acc H2 _ h => .of (h.1 _ _ ha)) ?_ ?_
    · rintro D i v acc H3 H4 nD hi hac ⟨s3, e3⟩ hD ⟨rfl, hv⟩
      obtain ⟨d, g1, g2⟩ := hR.at hv
      wtm_at "wp"
      refine ⟨rfl, ?_⟩
      wtm_at "wp"
      have en : (((n + 1 : Nat) : Int) - 1) = ((n : Nat) : Int) := by omega
      rw [en]
      refine ⟨v, n, L, d, rfl, hn, g2.same s3, hF d (List.mem_of_getElem? g1), hL, fun H5 s5 => ?_⟩
      refine w_acc (s5 _ _ hD) hac hi (sz (by omega)) (fun H6 k6 h6 => ⟨k6.same (s3.trans s5) nD, ?_⟩)
      rw [e3, take_succL g1]
      simp
    · rintro D acc H3 nD ⟨s3, e3⟩ hac hD
      rw [hlen, List.take_length] at e3
      subst e3
      have ha3 := s3 _ _ ha
      generalize hcs : ds.map (cnt n) = cs at *
      have hcl : cs.length = ds.length := by rw [← hcs, List.length_map]
      wtm_at "wp"
      have fin : cs.all (·.isSome) = true ∨ cs.all (·.isSome) = false := by cases cs.all (·.isSome) <;> simp
      refine w_dec (fun h1 => ?_) (fun h1 => ?_)
      · wtm_at "wp"
        by_cases h2 : (xs.length : Int) ≤ 4
        · refine iteF' (by rw [decide_eq_true h2]; rfl) ?_
          wtm_at "wp"
          refine w_inV (.inl (.of hD)) rfl (cnt_flat cs) ?_
          rw [cnt_none cs]
          wtm_at "wp"
          rcases fin with hs | hs
          · rw [hs]
            wtm_at "wp"
            obtain ⟨ms, rfl⟩ := cnt_all hs
            refine ⟨D, ms.map fun m : Nat => (m : Int), rfl, .of (by rw [hD]; simp [cntV]), ?_⟩
            have es : (ms.map fun m : Nat => (m : Int)).sum = ((ms.sum : Nat) : Int) := sum_cast ms
            rw [es]
            refine k' (o := some ms.sum) ?_ _ s3
            unfold joinC
            rw [if_pos ⟨by omega, by omega, hs⟩]
            simp
          · rw [hs]
            wtm_at "wp"
            exact k' (o := none) (by unfold joinC; rw [if_neg (fun z => by rw [hs] at z; exact absurd z.2.2 Bool.false_ne_true)]) _ s3
        · refine iteT' (by rw [decide_eq_false h2]; rfl) ?_
          wtm_at "wp"
          exact k' (o := none) (by unfold joinC; rw [if_neg (fun z => by omega)]) _ s3
      · wtm_at "wp"
        exact k' (o := none) (by unfold joinC; rw [if_neg (fun z => by omega)]) _ s3
theorem ok_cbut {N : Nat} {f : Addr} {fd : FuncData} (F : Fun K "count_but" "count_but" s_count_but f fd) (T : Txt K mg Z C_Page C_Broken C_Full C_Gone C_NoFile C_Torn) (f_count_joined : Fn P w K mg base "count_joined" (4 * N + 4) ["parts", "deep"] (spPart K N fun n ds => joinC (ds.map (cnt n)))) : FnOk P w K mg base CX0 (4 * N + 5) f fd ["parts", "deep"] (spPart K N fun n ds => butC (ds.map (cnt n))) := by
  refine F.ok sc_count_but (fun vs H Q E h => ?_) (fun cdv A outer s H vs Q E hr h => ?_)
  · obtain ⟨a, n, L, xs, ds, rfl, _⟩ := h
    rfl
  · obtain ⟨a, n, L, xs, ds, rfl, hn, ha, hR, hF, hL, hl, k⟩ := h
    have hlen := hR.length
    have k' : ∀ {o : Option Nat}, butC (ds.map (cnt n)) = o → ∀ H', Same H H' → Q (cntV o) H' := fun e H' s => e ▸ k H' s
    refine ⟨_, (pss_one (ps_ret (pe_ifExp (pt_cmpR op_eq (pe_callB cl_len (by rfl) T.n_len PySem.boot_len (pa_cons (pv 0) pa_nil)) pe_int (nomark _)) (pe_fn f_count_joined (hr.mono (by omega)) rfl (pa_cons (pv 0) (pa_cons (pv 1) pa_nil))) pe_non))), ?_⟩
    wtm_at "w0"
    wtm_at "wp"
    refine w_dec (fun h1 => ?_) (fun h1 => ?_)
    · wtm_at "wp"
      refine ⟨a, n, L, xs, ds, rfl, hn, ha, hR, hF, hL, hl, fun H1 s1 => ?_⟩
      refine k' ?_ _ s1
      unfold butC
      rw [List.length_map, if_pos (by have := V.int.inj h1; omega)]
    · wtm_at "wp"
      exact k' (o := none) (by unfold butC; rw [List.length_map, if_neg (fun z => h1 (by rw [hlen, z]; rfl))]) _ (.refl _)

theorem ok_cnt0 {f : Addr} {fd : FuncData} {D : Addr} {es : Array DictEntry} {n0 : Nat} (F : Fun K "count_words" "count_words" s_count_words f fd) (T : Txt K mg Z C_Page C_Broken C_Full C_Gone C_NoFile C_Torn) (kc_KINDS : mg "KINDS" = some (.ref D)) (kd_KINDS : KDict K w D es n0) : FnOk P w K mg base CX0 3 f fd ["thing", "deep"] (spCnt K 0) := by
  refine F.ok sc_count_words (fun vs H Q E h => ?_) (fun cdv A outer s H vs Q E hr h => ?_)
  · obtain ⟨v, n, L, d, rfl, _⟩ := h
    rfl
  · obtain ⟨v, n, L, d, rfl, hn, hR, hF, hL, k⟩ := h
    have hn0 : n = 0 := by omega
    subst hn0
    have hA : ∀ (f : Addr) (sp : Sp), (fun _ => none : Addr → Option Sp) f = some sp → L2.Held P w K mg base 0 f sp := fun f sp z => by cases z
    refine ⟨_, (pss_cons (ps_if (PW.pt (pw_or (pt_cmpR op_eq (pv 1) pe_int (nomark _)) (pw_or (pt_not (pt_val (pe_callB call_isi (by rfl) T.n_isinstance PyProof.Rows.boot_isinstance (pa_cons (pv 0) (pa_cons (pe_bltn (v := .ty "tuple") (by rfl) T.n_tuple PyProof.Rows.boot_tuple rfl) pa_nil))))) (pw_or (pt_cmpR (op_eqD hr.units) (pv 0) (pe_tup pa_nil) (nomark _)) (pw_or1 (pt_not (pt_val (pe_callB call_isi (by rfl) T.n_isinstance PyProof.Rows.boot_isinstance (pa_cons (pe_ix ix_tup (pv 0) pe_int (fun _ _ => rfl)) (pa_cons (pe_bltn (v := .ty "str") (by rfl) T.n_str PyProof.Rows.boot_str rfl) pa_nil))))))))))
 (pss_one (ps_ret pe_non))
 pss_nil)
 (pss_cons (ps_asg (pv 0) (pg_star (k := 1) (after := 0) rfl (pgs_cons (pg_name (i := 2) sc_count_words.nd rfl (.inl rfl)) (pgs_star (pg_name (i := 3) sc_count_words.nd rfl (.inl rfl)) pgs_nil))))
 (pss_cons (ps_if (pt_cmpR (op_notIn_kd kd_KINDS) (pv 2) (pe_gcls kc_KINDS rfl) (by rfl))
 (pss_one (ps_ret pe_non))
 pss_nil)
 (pss_cons (ps_set (i := 4) sc_count_words.nd rfl (.inl rfl) (pe_ix ix_kdict (pe_gcls kc_KINDS rfl) (pv 2) (fun _ _ => rfl)))
 (pss_one (ps_ret (pe_callA (i := 4) hA (hr.mono (by omega)) rfl (.inl rfl) (pa_cons (pv 3) (pa_cons (pv 1) pa_nil))))))))), ?_⟩
    wtm_at "w0"
    wtm_at "wp"
    exact k _ (.refl _)
theorem ok_cntS {N : Nat} {f : Addr} {fd : FuncData} {D : Addr} {es : Array DictEntry} {n0 : Nat} (F : Fun K "count_words" "count_words" s_count_words f fd) (T : Txt K mg Z C_Page C_Broken C_Full C_Gone C_NoFile C_Torn) (kc_KINDS : mg "KINDS" = some (.ref D)) (kd_KINDS : KDict K w D es n0)
    (KK : ∀ k : Str, (∃ fk g, PySem.W.nsIn K D k = some (some (.ref fk)) ∧ L2.Held P w K mg base (4 * N + 5) fk (spPart K N g) ∧ ∀ n ps, cnt (n + 1) (.tuple (.str k :: ps)) = g n ps) ∨ (PySem.W.nsIn K D k = some none ∧ ∀ n ps, cnt (n + 1) (.tuple (.str k :: ps)) = none)) : FnOk P w K mg base CX0 (4 * N + 7) f fd ["thing", "deep"] (spCnt K (N + 1)) := by
  refine F.ok sc_count_words (fun vs H Q E h => ?_) (fun cdv A outer s H vs Q E hr h => ?_)
  · obtain ⟨v, n, L, d, rfl, _⟩ := h
    rfl
  · obtain ⟨v, n, L, d, rfl, hn, hR, hF, hL, k⟩ := h
    have hS : ∃ S : Addr → Option Sp, (∀ f sp, S f = some sp → L2.Held P w K mg base (4 * N + 5) f sp) ∧ ∀ kk ps, d = .tuple (.str kk :: ps) → (∃ fk g, PySem.W.nsIn K D kk = some (some (.ref fk)) ∧ S fk = some (spPart K N g) ∧ ∀ n, cnt (n + 1) d = g n ps) ∨ (PySem.W.nsIn K D kk = some none ∧ ∀ n, cnt (n + 1) d = none) := by
      by_cases hd : ∃ kk ps, d = .tuple (.str kk :: ps)
      · obtain ⟨kk, ps, rfl⟩ := hd
        rcases KK kk with ⟨fk, g, h1, h2, h3⟩ | ⟨h1, h2⟩
        · refine ⟨fun f => if f = fk then some (spPart K N g) else none, fun f sp z => ?_, fun k2 p2 e => .inl ⟨fk, g, ?_, if_pos rfl, ?_⟩⟩
          · dsimp only at z
            split at z
            · rename_i hf
              cases z
              rw [hf]
              exact h2
            · cases z
          · cases e
            exact h1
          · cases e
            exact fun n => h3 n ps
        · refine ⟨fun _ => none, fun f sp z => (by cases z), fun k2 p2 e => .inr ⟨?_, ?_⟩⟩
          · cases e
            exact h1
          · cases e
            exact fun n => h2 n ps
      · exact ⟨fun _ => none, fun f sp z => (by cases z), fun kk ps e => absurd ⟨kk, ps, e⟩ hd⟩
    obtain ⟨S, hA, hS⟩ := hS
    have k' : ∀ {o : Option Nat}, cnt n d = o → ∀ H', Same H H' → Q (cntV o) H' := fun e H' s => e ▸ k H' s
    refine ⟨_, (pss_cons (ps_if (PW.pt (pw_or (pt_cmpR op_eq (pv 1) pe_int (nomark _)) (pw_or (pt_not (pt_val (pe_callB call_isi (by rfl) T.n_isinstance PyProof.Rows.boot_isinstance (pa_cons (pv 0) (pa_cons (pe_bltn (v := .ty "tuple") (by rfl) T.n_tuple PyProof.Rows.boot_tuple rfl) pa_nil))))) (pw_or (pt_cmpR (op_eqD hr.units) (pv 0) (pe_tup pa_nil) (nomark _)) (pw_or1 (pt_not (pt_val (pe_callB call_isi (by rfl) T.n_isinstance PyProof.Rows.boot_isinstance (pa_cons (pe_ix ix_tup (pv 0) pe_int (fun _ _ => rfl)) (pa_cons (pe_bltn (v := .ty "str") (by rfl) T.n_str PyProof.Rows.boot_str rfl) pa_nil))))))))))
 (pss_one (ps_ret pe_non))
 pss_nil)
 (pss_cons (ps_asg (pv 0) (pg_star (k := 1) (after := 0) rfl (pgs_cons (pg_name (i := 2) sc_count_words.nd rfl (.inl rfl)) (pgs_star (pg_name (i := 3) sc_count_words.nd rfl (.inl rfl)) pgs_nil))))
 (pss_cons (ps_if (pt_cmpR (op_notIn_kd kd_KINDS) (pv 2) (pe_gcls kc_KINDS rfl) (by rfl))
 (pss_one (ps_ret pe_non))
 pss_nil)
 (pss_cons (ps_set (i := 4) sc_count_words.nd rfl (.inl rfl) (pe_ix ix_kdict (pe_gcls kc_KINDS rfl) (pv 2) (fun _ _ => rfl)))
 (pss_one (ps_ret (pe_callA (i := 4) hA (hr.mono (by omega)) rfl (.inl rfl) (pa_cons (pv 3) (pa_cons (pv 1) pa_nil))))))))), ?_⟩
    wtm_at "w0"
    wtm_at "wp"
    refine w_dec (fun h1 => ?_) (fun h1 => ?_)
    · have hn0 : n = 0 := by have := V.int.inj h1; omega
      subst hn0
      wtm_at "wp"
      exact k' (o := none) rfl _ (.refl _)
    · obtain ⟨m, rfl⟩ : ∃ m, n = m + 1 := ⟨n - 1, by
        have : n ≠ 0 := fun z => h1 (by rw [z]; rfl)
        omega⟩
      cases hR with
      | non => wtm_at "wp"; exact k' (o := none) rfl _ (.refl _)
      | bl b => wtm_at "wp"; exact k' (o := none) rfl _ (.refl _)
      | int i => wtm_at "wp"; exact k' (o := none) rfl _ (.refl _)
      | str x => wtm_at "wp"; exact k' (o := none) rfl _ (.refl _)
      | lst h r => wtm_at "wp"; exact k' (o := none) rfl _ (.refl _)
      | @tup a xs ds ha hr' =>
        have hlen := hr'.length
        have hdp : Dp K H (.ref a) (.tuple ds) := (Rp.tup ha hr').dp
        have hg := hF.good
        wtm_at "wp"
        rename_i q1 n1 H1 s1 h1'
        refine w_eqD (same_dp s1 hdp) (.tup (.of h1') .nil) (hg.shaped (by omega)) (by simp [SeqAt.shaped, PyData.canLay0, PyData.canLayAll0, PyData.depth, PyData.depthAll]) (k := ds.isEmpty) (by cases ds <;> simp [PyData.eqv, PyData.eqvAll]) ?_
        have ha1 := s1 _ _ ha
        wtm_at "wp"
        match xs, ds, ha, hr', hlen with
        | [], [], _, _, _ =>
          wtm_at "wp"
          exact k' (o := none) rfl _ s1
        | x :: xr, dd :: dr, ha, .cons rx rr, hlen =>
          have ha1 := s1 _ _ ha
          have hxl : (x :: xr).length ≤ 1000 := by
            have : 0 < L := by
              cases L with
              | zero => rcases hF with (h | ⟨b, h⟩ | ⟨i, h⟩) | ⟨y, h, _⟩ <;> cases h
              | succ L => omega
            obtain ⟨L', rfl⟩ : ∃ L', L = L' + 1 := ⟨L - 1, by omega⟩
            rw [hlen]
            exact hF.tup.1
          have hfit : ∀ e ∈ dd :: dr, Fit (L - 1) e := by
            cases L with
            | zero => rcases hF with (h | ⟨b, h⟩ | ⟨i, h⟩) | ⟨y, h, _⟩ <;> cases h
            | succ L' => exact hF.tup.2
          refine iteF' rfl ?_
          wtm_at "wp"
          have e0 : cnt (m + 1) (.tuple (dd :: dr)) = none ∨ ∃ kk, dd = .str kk := by
            cases dd with
            | str kk => exact .inr ⟨kk, rfl⟩
            | _ => exact .inl rfl
          cases rx with
          | non => wtm_at "wp"; exact k' (o := none) rfl _ s1
          | bl b => wtm_at "wp"; exact k' (o := none) rfl _ s1
          | int i => wtm_at "wp"; exact k' (o := none) rfl _ s1
          | lst h r => have h := s1 _ _ h; wtm_at "wp"; exact k' (o := none) rfl _ s1
          | tup h r => have h := s1 _ _ h; wtm_at "wp"; exact k' (o := none) rfl _ s1
          | str kk =>
            wtm_at "wp"
            refine ⟨a, _, rfl, .inl (.of ha1), by simp, fun p2 n2 => ?_⟩
            generalize eN : upd H1 p2 _ = H2
            have s2 := same_gen n2 eN
            have hp2 := at_gen eN
            clear eN
            simp only [List.length_cons, List.take_succ_cons, List.take_zero, List.drop_succ_cons, List.drop_zero, List.cons_append, List.nil_append, Nat.add_sub_cancel, Nat.sub_zero] at hp2 ⊢
            rw [List.drop_of_length_le (Nat.le_refl _)]
            rw [List.take_of_length_le (Nat.le_refl _)] at hp2
            wtm_at "wp"
            rcases hS kk dr rfl with ⟨fk, g, g1, g2, g3⟩ | ⟨g1, g2⟩
            · refine ⟨kk, _, rfl, rfl, g1, ?_⟩
              wtm_at "wp"
              refine ⟨D, kk, .ref fk, rfl, rfl, ⟨es, n0, _, kd_KINDS.at_, kd_KINDS.lit, g1, rfl⟩, ?_⟩
              wtm_at "wp"
              refine ⟨fk, _, rfl, g2, ?_⟩
              wtm_at "wp"
              refine ⟨p2, m, L - 1, xr, dr, rfl, by omega, hp2, (rr.same s1).same s2, fun e he => hfit e (List.mem_cons_of_mem _ he), by omega, by simp at hxl; omega, fun H3 s3 => ?_⟩
              rw [← g3 m]
              exact k _ (s1.trans (s2.trans s3))
            · refine ⟨kk, _, rfl, rfl, g1, ?_⟩
              wtm_at "wp"
              exact k' (o := none) (g2 m) _ (s1.trans s2)
def spIsQ (K : PySem.W.Frag) : Sp := fun vs H Q _ => ∃ (v : V) (L : Nat) (d : PyData), vs = [v] ∧ Rp H v d ∧ Fit L d ∧ L ≤ 50 ∧ ∀ H', Same H H' → Q (.bl (isQ d)) H'
theorem ok_isq {f : Addr} {fd : FuncData} (F : Fun K "is_query" "is_query" s_is_query f fd) (T : Txt K mg Z C_Page C_Broken C_Full C_Gone C_NoFile C_Torn) (f_count_words : Fn P w K mg base "count_words" 23 ["thing", "deep"] (spCnt K 5)) : FnOk P w K mg base CX0 24 f fd ["thing"] (spIsQ K) := by
  refine F.ok sc_is_query (fun vs H Q E h => ?_) (fun cdv A outer s H vs Q E hr h => ?_)
  · obtain ⟨v, L, d, rfl, _⟩ := h
    rfl
  · obtain ⟨v, L, d, rfl, hR, hF, hL, k⟩ := h
    refine ⟨_, (pss_cons (ps_set (i := 1) sc_is_query.nd rfl (.inl rfl) (pe_fn f_count_words (hr.mono (by omega)) rfl (pa_cons (pv 0) (pa_cons (pe_gint T.c_DEEPEST rfl) pa_nil))))
 (pss_one (ps_ret (pe_and (pe_cmpR op_isnot0 (pv 1) pe_non (nomark _)) (pe_one (pe_cmpR op_le (pv 1) (pe_gint T.c_MOST_WORDS rfl) (nomark _))))))), ?_⟩
    wtm_at "w0"
    wtm_at "wp"
    refine ⟨v, 5, L, d, rfl, Nat.le_refl _, hR, hF, hL, fun H1 s1 => ?_⟩
    have k1 := k H1 s1
    unfold isQ at k1
    wtm_at "wp"
    cases hc : cnt 5 d with
    | none =>
      rw [hc] at k1
      refine iteF' rfl ?_
      exact k1
    | some m =>
      rw [hc] at k1
      refine iteT' rfl ?_
      dsimp only [cntV]
      wtm_at "wp"
      have e : decide ((m : Int) ≤ 12) = decide (m ≤ 12) := by
        rw [decide_eq_decide]
        omega
      rw [e]
      exact k1
abbrev s_look_query : Stmt := topS 41
theorem sc_look_query : FnScope ["thing"] ["thing"] (defScope s_look_query) := ⟨rfl, rfl, rfl, by decide +kernel, rfl, by decide +kernel, by decide +kernel⟩
def spLookQ (K : PySem.W.Frag) : Sp := fun vs H Q _ => ∃ (v : V) (L : Nat) (d : PyData), vs = [v] ∧ Rp H v d ∧ Fit L d ∧ L ≤ 50 ∧ isQ d = true ∧ ∀ H', Same H H' → Q .non H'
theorem ok_lookq {f : Addr} {fd : FuncData} (F : Fun K "look_query" "look_query" s_look_query f fd) (T : Txt K mg Z C_Page C_Broken C_Full C_Gone C_NoFile C_Torn) (f_is_query : Fn P w K mg base "is_query" 24 ["thing"] (spIsQ K)) : FnOk P w K mg base CX0 25 f fd ["thing"] (spLookQ K) := by
  refine F.ok sc_look_query (fun vs H Q E h => ?_) (fun cdv A outer s H vs Q E hr h => ?_)
  · obtain ⟨v, L, d, rfl, _⟩ := h
    rfl
  · obtain ⟨v, L, d, rfl, hR, hF, hL, hq, k⟩ := h
    refine ⟨_, (pss_one (ps_if (pt_not (pt_val (pe_fn f_is_query (hr.mono (by omega)) rfl (pa_cons (pv 0) pa_nil))))
 (pss_one (ps_never))
 pss_nil)), ?_⟩
    wtm_at "w0"
    wtm_at "wp"
    refine ⟨v, L, d, rfl, hR, hF, hL, fun H1 s1 => ?_⟩
    rw [hq]
    wtm_at "wp"
    exact k _ s1

end
end K74

namespace K74
section
variable {P : Program} {w : World} {K : PySem.W.Frag} {mg : Str → Option Value} {base : Heap} {Z : Zs} {C_Page C_Broken C_Full C_Gone C_NoFile C_Torn : Addr}
abbrev s_places_of_phrase : Stmt := topS 43
theorem sc_places_of_phrase : FnScope ["words", "page", "held", "at"] ["words", "page"] (defScope s_places_of_phrase) := ⟨rfl, rfl, rfl, by decide +kernel, rfl, by decide +kernel, by decide +kernel⟩
abbrev s_places_of_near : Stmt := topS 44
theorem sc_places_of_near : FnScope ["far", "word", "other", "page", "one", "two"] ["far", "word", "other", "page"] (defScope s_places_of_near) := ⟨rfl, rfl, rfl, by decide +kernel, rfl, by decide +kernel, by decide +kernel⟩
abbrev s_places_in : Stmt := topS 45
theorem sc_places_in : FnScope ["query", "page", "kind", "parts"] ["query", "page"] (defScope s_places_in) := ⟨rfl, rfl, rfl, by decide +kernel, rfl, by decide +kernel, by decide +kernel⟩
abbrev s_places_of : Stmt := topS 46
theorem sc_places_of : FnScope ["query", "page", "told"] ["query", "page"] (defScope s_places_of) := ⟨rfl, rfl, rfl, by decide +kernel, rfl, by decide +kernel, by decide +kernel⟩
/-! ### what a page has of a query -/
theorem okWs_pg {x : Str} (h : okWs (wsOf x) = true) : (wsOf x).length ≤ 120 := (ok_bounds h).1
/-- a page with a text of words -/
structure PgO (C : Addr) (H : Hp) (r : Addr) (i : Int) (x : Str) : Prop where
  pg : PgF C H r i x
  ok : okWs (wsOf x) = true
theorem PgO.same {C : Addr} {H H' : Hp} {r : Addr} {i : Int} {x : Str} (h : PgO C H r i x) (e : Same H H') : PgO C H' r i x := ⟨h.pg.same e, h.ok⟩
theorem rp_nats {H : Hp} {l : Addr} {ns : List Nat} (h : H l = some (.lst (ns.map fun n : Nat => V.int n))) : Rp H (.ref l) (.list (ns.map nD)) := .lst h (by
  clear h
  induction ns with
  | nil => exact .nil
  | cons n r ih => exact .cons (.int _) ih)
theorem cut_strs {ws : List Str} {i n : Nat} (h : i ≤ ws.length) : cutV (ws.map V.str) (some (i : Int)) (some ((i : Int) + (n : Int))) = ((ws.drop i).take n).map V.str := by
  have e : ((i : Int) + (n : Int)) = ((i + n : Nat) : Int) := by omega
  rw [e]
  rcases Nat.lt_or_ge ws.length (i + n) with h1 | h1
  · unfold cutV
    rw [sIx_nat (i := i) (by rw [List.length_map]; exact h), sIx_big (by rw [List.length_map]; omega), List.map_take, List.map_drop]
    rw [List.take_of_length_le (by rw [List.length_drop]; omega), List.take_of_length_le (by rw [List.length_drop, List.length_map]; omega)]
  · rw [cutV_mid (by omega) (by rw [List.length_map]; exact h1), List.map_take, List.map_drop]
    congr 1
    omega
theorem filt1 {α : Type} {p : α → Bool} {a : α} (h : p a = true) : [a].filter p = [a] := by rw [List.filter_cons, if_pos h]; rfl
theorem filt0 {α : Type} {p : α → Bool} {a : α} (h : p a = false) : [a].filter p = [] := by rw [List.filter_cons, if_neg (by rw [h]; exact Bool.false_ne_true)]; rfl
theorem none_back {H H' : Hp} {l : Addr} (s : Same H H') (n : H' l = none) : H l = none := by
  cases h : H l with
  | none => rfl
  | some o => rw [s _ _ h] at n; cases n
def spRun (K : PySem.W.Frag) (C : Addr) : Sp := fun vs H Q _ => ∃ (a r : Addr) (i : Int) (x : Str) (us : List Str), vs = [.ref a, .ref r] ∧ H a = some (.lst (us.map V.str)) ∧ us ≠ [] ∧ us.length ≤ 100 ∧ (∀ u ∈ us, isW u = true) ∧ PgO C H r i x ∧ ∀ l H', H l = none → Same H H' → H' l = some (.lst ((runP (wsOf x) us).map fun n : Nat => V.int n)) → Q (.ref l) H'
theorem ok_run {f : Addr} {fd : FuncData} (F : Fun K "places_of_phrase" "places_of_phrase" s_places_of_phrase f fd) (T : Txt K mg Z C_Page C_Broken C_Full C_Gone C_NoFile C_Torn) (me_Page_words : Me P w K mg base C_Page "words" 1 ["self"] (spPWords C_Page)) (me_Page_places : Me P w K mg base C_Page "places" 3 ["self", "word"] (spPPlaces C_Page)) : FnOk P w K mg base CX0 4 f fd ["words", "page"] (spRun K C_Page) := by
  have hc := T.cl_Page
  refine F.ok sc_places_of_phrase (fun vs H Q E h => ?_) (fun cdv A outer s H vs Q E hr h => ?_)
  · obtain ⟨a, r, i, x, us, rfl, _⟩ := h
    rfl
  · obtain ⟨a, r, i, x, us, rfl, ha, hne, hul, huW, hp, k⟩ := h
    obtain ⟨u, ur, rfl⟩ : ∃ u ur, us = u :: ur := by
      cases us with
      | nil => exact absurd rfl hne
      | cons u ur => exact ⟨u, ur, rfl⟩
    have h120 := okWs_pg hp.ok
    have hwW := okWs_all hp.ok
    obtain ⟨d0, a0, s0', o0, _, _⟩ := hp.pg.ex
    refine ⟨_, (pss_cons (ps_set (i := 2) sc_places_of_phrase.nd rfl (.inr rfl) (pe_me0 (pv 1) T.cl_Page me_Page_words (hr.mono (by omega))))
 (pss_one (ps_ret (pe_lc (own := [("at", 3)]) (g := gName 3) rfl sc_places_of_phrase.nd (show PI _ _ _ (iList K _) from (pi_list (pe_me (pv 1) T.cl_Page me_Page_places (hr.mono (by omega)) (pa_cons (pe_ix (show IxR _ (rIxL K) from ix_list) (pv 0) pe_int (fun _ _ => rfl)) pa_nil)))) (blkOk_by (own := [("at", 3)]) (N := ["words", "page", "held", "at"]) (sc := defScope s_places_of_phrase) (by decide +kernel)) (fun _ _ _ _ _ => pg_name (i := 3) sc_places_of_phrase.nd rfl (Or.inl rfl)) (fun _ _ _ _ _ => (pts_one (pt_cmpR (show OpR _ _ (rEqD K) from (op_eqD hr.units)) (pe_slice (show SlR _ (rSlL K) from sl_list) (pv 2) (po_some (pv 3)) (po_some (pe_op op_add (pv 3) (pe_callB (show CallR _ _ (Bw.rLen K) from cl_len) (by rfl) T.n_len PySem.boot_len (pa_cons (pv 0) pa_nil))))) (pv 0) (nomark _)))) (fun _ _ _ _ _ => (pv 3)))))), ?_⟩
    wtm_at "w0"
    wtm_at "wp"
    refine ⟨r, i, x, rfl, hp.pg, fun hd H1 n1 s1 h1 => ?_⟩
    have ha1 := s1 _ _ ha
    have hp1 := hp.same s1
    have o1 := s1 _ _ o0
    have nhda : hd ≠ a := fun z => by rw [z, ha] at n1; cases n1
    wtm_at "wp"
    refine ⟨r, i, x, u, rfl, hp1.pg, huW u (by simp), fun pl H2 n2 s2 h2 => ?_⟩
    have ha2 := s2 _ _ ha1
    have h12 := s2 _ _ h1
    refine ⟨pl, rfl, ⟨_, .of h2⟩, ?_⟩
    refine lc_fin (fin_list (xs := (plc (wsOf x) u).map fun n : Nat => V.int n)) (fun j acc H' => Same H2 H' ∧ acc = (((plc (wsOf x) u).take j).filter fun n => decide (((wsOf x).drop n).take (u :: ur).length = u :: ur)).map fun n : Nat => V.int n) (fun D H3 nD s3 hD => ⟨s3, rfl⟩) (fun j acc H3 _ h => .of (h.1 _ _ h2)) ?_ ?_
    · rintro D j v acc H3 H4 nD hj hac ⟨s3, e3⟩ hD ⟨rfl, hv⟩
      rw [List.getElem?_map] at hv
      obtain ⟨at_, hat, rfl⟩ := Option.map_eq_some_iff.mp hv
      have hlt := (plc_lt (List.mem_of_getElem? hat)).1
      have ha3 := s3 _ _ ha2
      have h13 := s3 _ _ h12
      wtm_at "wp"
      refine ⟨rfl, ?_⟩
      wtm_at "wp"
      rename_i q4 H4 n4 s4 h4
      rw [List.length_map, cut_strs (Nat.le_of_lt hlt)] at h4
      have hsub : ∀ w ∈ ((wsOf x).drop at_).take (u :: ur).length, isW w = true := fun w hw => hwW w (List.mem_of_mem_drop (List.mem_of_mem_take hw))
      refine w_eqD (.lst (.of h4) (dpAll_str _)) (.lst (.of (s4 _ _ ha3)) (dpAll_str (u :: ur))) (shaped_str (fun b hb => isW_strOk (hsub b hb))) (shaped_str (fun b hb => isW_strOk (huW b hb))) (eqv_strs _ _) ?_
      wtm_at "wp"
      refine w_dec (fun hd4 => ?_) (fun hd4 => ?_)
      · wtm_at "wp"
        refine w_acc (s4 _ _ hD) hac hj (sz (by rw [List.length_map]; have := plc_len (wsOf x) u; omega)) (fun H6 k6 h6 => ⟨k6.same (s3.trans s4) nD, ?_⟩)
        rw [e3, take_succL hat, List.filter_append, List.map_append, filt1 (p := fun n => decide (((wsOf x).drop n).take (u :: ur).length = u :: ur)) (a := at_) (decide_eq_true hd4)]
        rfl
      · refine w_skip (s4 _ _ hD) hac ⟨s3.trans s4, ?_⟩
        rw [e3, take_succL hat, List.filter_append, List.map_append, filt0 (p := fun n => decide (((wsOf x).drop n).take (u :: ur).length = u :: ur)) (a := at_) (decide_eq_false hd4), List.map_nil, List.append_nil]
    · rintro D acc H3 nD ⟨s3, e3⟩ hac hD
      rw [List.length_map, List.take_length] at e3
      exact k D H3 (none_back (s1.trans s2) nD) (s1.trans (s2.trans s3)) (by rw [hD, e3]; rfl)
def spNearP (K : PySem.W.Frag) (C : Addr) : Sp := fun vs H Q _ => ∃ (f : Int) (a b : Str) (r : Addr) (i : Int) (x : Str), vs = [.int f, .str a, .str b, .ref r] ∧ isW a = true ∧ isW b = true ∧ PgO C H r i x ∧ ∀ l H', H l = none → Same H H' → Rp H' (.ref l) (.list ((nearP f a b (wsOf x)).map pD)) → Q (.ref l) H'
theorem ok_nearp {f : Addr} {fd : FuncData} (F : Fun K "places_of_near" "places_of_near" s_places_of_near f fd) (T : Txt K mg Z C_Page C_Broken C_Full C_Gone C_NoFile C_Torn) (me_Page_places : Me P w K mg base C_Page "places" 3 ["self", "word"] (spPPlaces C_Page)) : FnOk P w K mg base CX0 4 f fd ["far", "word", "other", "page"] (spNearP K C_Page) := by
  have hc := T.cl_Page
  refine F.ok sc_places_of_near (fun vs H Q E h => ?_) (fun cdv A outer s H vs Q E hr h => ?_)
  · obtain ⟨f, a, b, r, i, x, rfl, _⟩ := h
    rfl
  · obtain ⟨fa, a, b, r, i, x, rfl, haW, hbW, hp, k⟩ := h
    have h120 := okWs_pg hp.ok
    have pa := plc_len (wsOf x) a
    have pb := plc_len (wsOf x) b
    obtain ⟨d0, a0, s0', o0, _, _⟩ := hp.pg.ex
    refine ⟨_, (pss_one (ps_ret (pe_lc2 (own := [("one", 4), ("two", 5)]) (vs1 := [5]) (g := gName 4) (g1 := gName 5) (tt := tYes) rfl sc_places_of_near.nd (show PI _ _ _ (iList K _) from (pi_list (pe_me (pv 3) T.cl_Page me_Page_places (hr.mono (by omega)) (pa_cons (pv 1) pa_nil)))) (blkOk_by (own := [("one", 4), ("two", 5)]) (N := ["far", "word", "other", "page", "one", "two"]) (sc := defScope s_places_of_near) (by decide +kernel)) (by decide) (fun _ _ _ _ _ => pg_name (i := 4) sc_places_of_near.nd rfl (Or.inl rfl)) (fun _ _ _ _ _ => pts_nil) (fun _ _ _ _ _ => (show PI _ _ _ (iList K _) from (pi_list (pe_me (pv 3) T.cl_Page me_Page_places (hr.mono (by omega)) (pa_cons (pv 2) pa_nil))))) (fun _ _ _ _ _ => pg_name (i := 5) sc_places_of_near.nd rfl (Or.inl rfl)) (fun _ _ _ _ _ => (pts_one (pt_chain op_le op_le pe_int (pe_callB cl_abs (by rfl) T.n_abs PyProof.Rows.boot_abs (pa_cons (pe_op op_sub (pv 4) (pv 5)) pa_nil)) (pv 0)))) (fun _ _ _ _ _ => (pe_tup (pa_cons (pv 4) (pa_cons (pv 5) pa_nil))))))), ?_⟩
    wtm_at "w0"
    wtm_at "wp"
    refine ⟨r, i, x, a, rfl, hp.pg, haW, fun pl H2 n2 s2 h2 => ?_⟩
    refine ⟨pl, rfl, ⟨_, .of h2⟩, ?_⟩
    have hN : ∀ j, ((((plc (wsOf x) a).take j).map fun n => ((plc (wsOf x) b).filter fun m => isNear fa n m).map fun m => (n, m)).flatten).length ≤ 120 * 120 := fun j => by
      rw [List.length_flatten]
      have h := sum_le (l := ((((plc (wsOf x) a).take j).map fun n => ((plc (wsOf x) b).filter fun m => isNear fa n m).map fun m => (n, m)).map List.length)) (c := 120) (fun y hy => by
        obtain ⟨l, hl, rfl⟩ := List.mem_map.mp hy
        obtain ⟨n, _, rfl⟩ := List.mem_map.mp hl
        rw [List.length_map]
        exact Nat.le_trans (List.length_filter_le _ _) (by omega))
      rw [List.length_map, List.length_map, List.length_take] at h
      exact Nat.le_trans h (Nat.mul_le_mul_right _ (by omega))
    refine lc2_fin (fin_list (xs := (plc (wsOf x) a).map fun n : Nat => V.int n)) (fun j acc H' => Same H2 H' ∧ RpAll H' acc ((((plc (wsOf x) a).take j).map fun n => ((plc (wsOf x) b).filter fun m => isNear fa n m).map fun m => (n, m)).flatten.map pD)) (fun D H3 nD s3 hD => ⟨s3, .nil⟩) (fun j acc H3 _ h => .of (h.1 _ _ h2)) ?_ ?_
    · rintro D j v acc H3 H4 nD hj ⟨s3, r3⟩ hD ⟨rfl, hv⟩
      rw [List.getElem?_map] at hv
      obtain ⟨n, hn, rfl⟩ := Option.map_eq_some_iff.mp hv
      have hp3 := (hp.same s2).same s3
      have o3 := s3 _ _ (s2 _ _ o0)
      wtm_at "wp"
      refine ⟨rfl, ?_⟩
      wtm_at "wp"
      refine ⟨r, i, x, b, rfl, hp3.pg, hbW, fun pb2 H4 n4 s4 h4 => ?_⟩
      refine ⟨pb2, rfl, ⟨_, .of h4⟩, ?_⟩
      have nbD : pb2 ≠ D := fun z => by rw [z, hD] at n4; cases n4
      have hn1 := hN j
      have hn2 := hN (j + 1)
      have eS : ((((plc (wsOf x) a).take (j + 1)).map fun n => ((plc (wsOf x) b).filter fun m => isNear fa n m).map fun m => (n, m)).flatten) = ((((plc (wsOf x) a).take j).map fun n => ((plc (wsOf x) b).filter fun m => isNear fa n m).map fun m => (n, m)).flatten) ++ ((plc (wsOf x) b).filter fun m => isNear fa n m).map fun m => (n, m) := by
        rw [take_succL hn]
        simp
      refine in_fin (D := D) (fin_list (xs := (plc (wsOf x) b).map fun n : Nat => V.int n)) (fun e ac H' => KB D H4 H' ∧ ac.length ≤ 14400 + e ∧ RpAll H' ac (((((plc (wsOf x) a).take j).map fun n => ((plc (wsOf x) b).filter fun m => isNear fa n m).map fun m => (n, m)).flatten ++ (((plc (wsOf x) b).take e).filter fun m => isNear fa n m).map fun m => (n, m)).map pD)) ⟨acc, s4 _ _ hD, KB.refl, ?_, ?_⟩ (fun e ac H' _ h => .of (h.1 _ _ h4 nbD)) ?_ ?_
      · rw [r3.length, List.length_map]
        omega
      · simpa using r3.same s4
      · rintro e y ac H5 H6 he ⟨k5, l5, r5⟩ hD5 ⟨rfl, hy⟩
        rw [List.getElem?_map] at hy
        obtain ⟨m, hm, rfl⟩ := Option.map_eq_some_iff.mp hy
        rw [List.length_map] at he
        wtm_at "wp"
        refine ⟨rfl, ?_⟩
        have enr : isNear fa n m = decide (1 ≤ ((n : Int) - m).natAbs ∧ ((((n : Int) - m).natAbs : Nat) : Int) ≤ fa) := rfl
        wtm_at "wp"
        refine w_dec (fun g1 => ?_) (fun g1 => ?_)
        · wtm_at "wp"
          refine w_dec (fun g2 => ?_) (fun g2 => ?_)
          · wtm_at "wp"
            rename_i t7 n7 H7 s7 h7
            have nt : t7 ≠ D := fun z => by rw [z, hD5] at n7; cases n7
            refine w_accJ (s7 _ _ hD5) (by omega) (fun H8 k8 h8 => ⟨k5.trans ((KB.of s7).trans k8), by simp; omega, ?_⟩)
            have tk : TupK H6 H8 := (TupK.of s7).trans (TupK.kb k8 (s7 _ _ hD5))
            have et : isNear fa n m = true := by rw [enr]; exact decide_eq_true ⟨by omega, g2⟩
            have eF : ((plc (wsOf x) b).take (e + 1)).filter (fun m => isNear fa n m) = ((plc (wsOf x) b).take e).filter (fun m => isNear fa n m) ++ [m] := by
              rw [take_succL hm, List.filter_append, filt1 (p := fun m => isNear fa n m) et]
            have eG : (((plc (wsOf x) b).take (e + 1)).filter (fun m => isNear fa n m)).map (fun m => (n, m)) = (((plc (wsOf x) b).take e).filter (fun m => isNear fa n m)).map (fun m => (n, m)) ++ [(n, m)] := by
              rw [eF, List.map_append]
              rfl
            rw [eG, ← List.append_assoc, List.map_append]
            refine (r5.tupk tk (noLs_all fun d hd => ?_)).append ?_
            · obtain ⟨q, _, rfl⟩ := List.mem_map.mp hd
              rfl
            · exact .cons (.tup (k8 _ _ h7 nt) (.cons (.int _) (.cons (.int _) .nil))) .nil
          · refine ⟨ac, hD5, k5, by omega, ?_⟩
            have et : isNear fa n m = false := by rw [enr]; exact decide_eq_false fun z => g2 z.2
            have eF : ((plc (wsOf x) b).take (e + 1)).filter (fun m => isNear fa n m) = ((plc (wsOf x) b).take e).filter (fun m => isNear fa n m) := by
              rw [take_succL hm, List.filter_append, filt0 (p := fun m => isNear fa n m) et, List.append_nil]
            rw [eF]
            exact r5
        · wtm_at "wp"
          refine ⟨ac, hD5, k5, by omega, ?_⟩
          have et : isNear fa n m = false := by rw [enr]; exact decide_eq_false fun z => g1 (by omega)
          have eF : ((plc (wsOf x) b).take (e + 1)).filter (fun m => isNear fa n m) = ((plc (wsOf x) b).take e).filter (fun m => isNear fa n m) := by
            rw [take_succL hm, List.filter_append, filt0 (p := fun m => isNear fa n m) et, List.append_nil]
          rw [eF]
          exact r5
      · rintro ac H5 ⟨k5, l5, r5⟩ hD5
        rw [List.length_map, List.take_length] at r5
        exact ⟨ac, hD5, k5.same (s3.trans s4) nD, by rw [eS]; exact r5⟩
    · rintro D acc H3 nD ⟨s3, r3⟩ hD
      rw [List.length_map, List.take_length] at r3
      exact k D H3 (none_back s2 nD) (s2.trans s3) (.lst hD r3)

end
end K74

namespace K74
section
variable {P : Program} {w : World} {K : PySem.W.Frag} {mg : Str → Option Value} {base : Heap} {Z : Zs} {C_Page C_Broken C_Full C_Gone C_NoFile C_Torn : Addr}
/-! ### places in a page, whether it has them -/
def spPlcIn (K : PySem.W.Frag) (C : Addr) : Sp := fun vs H Q _ => ∃ (v : V) (n m : Nat) (d : PyData) (r : Addr) (i : Int) (x : Str), vs = [v, .ref r] ∧ Rp H v d ∧ cnt (n + 1) d = some m ∧ PgO C H r i x ∧ ∀ v' H', Same H H' → (∀ l, v' = .ref l → H l = none) → Rp H' v' (plcD d (wsOf x)) → Q v' H'
theorem ok_plcin {f : Addr} {fd : FuncData} (F : Fun K "places_in" "places_in" s_places_in f fd) (T : Txt K mg Z C_Page C_Broken C_Full C_Gone C_NoFile C_Torn) (f_places_of_near : Fn P w K mg base "places_of_near" 4 ["far", "word", "other", "page"] (spNearP K C_Page)) (f_places_of_phrase : Fn P w K mg base "places_of_phrase" 4 ["words", "page"] (spRun K C_Page)) : FnOk P w K mg base CX0 5 f fd ["query", "page"] (spPlcIn K C_Page) := by
  refine F.ok sc_places_in (fun vs H Q E h => ?_) (fun cdv A outer s H vs Q E hr h => ?_)
  · obtain ⟨v, n, m, d, r, i, x, rfl, _⟩ := h
    rfl
  · obtain ⟨v, n, m, d, r, i, x, rfl, hR, hc, hp, k⟩ := h
    have hqo := cnt_inv hc
    obtain ⟨kk, ps, rfl⟩ : ∃ kk ps, d = .tuple (.str kk :: ps) := by
      cases hqo <;> exact ⟨_, _, rfl⟩
    cases hR with
    | @tup a xs _ ha hr' =>
      cases hr' with
      | @cons x0 _ xr _ rx rr =>
        cases rx
        have hlen := rr.length
        refine ⟨_, (pss_cons (ps_asg (pv 0) (pg_star (k := 1) (after := 0) rfl (pgs_cons (pg_name (i := 2) sc_places_in.nd rfl (.inl rfl)) (pgs_star (pg_name (i := 3) sc_places_in.nd rfl (.inl rfl)) pgs_nil))))
 (pss_cons (ps_if (pt_cmpR op_eq (pv 2) pe_str (nomark _))
 (pss_one (ps_ret (pe_fn f_places_of_near (hr.mono (by omega)) rfl (pa_cons (pe_ix ix_list (pv 3) pe_int (fun _ _ => rfl)) (pa_cons (pe_ix ix_list (pv 3) pe_int (fun _ _ => rfl)) (pa_cons (pe_ix ix_list (pv 3) pe_int (fun _ _ => rfl)) (pa_cons (pv 1) pa_nil)))))))
 pss_nil)
 (pss_cons (ps_if (pt_cmpR op_in_seq (pv 2) (pe_tup (pa_cons pe_str (pa_cons pe_str pa_nil))) (by rfl))
 (pss_one (ps_ret (pe_fn f_places_of_phrase (hr.mono (by omega)) rfl (pa_cons (pv 3) (pa_cons (pv 1) pa_nil)))))
 pss_nil)
 (pss_one (ps_ret pe_non))))), ?_⟩
        wtm_at "w0"
        wtm_at "wp"
        refine ⟨a, _, rfl, .inl (.of ha), by simp, fun p2 n2 => ?_⟩
        generalize eN : upd H p2 _ = H2
        have s2 := same_gen n2 eN
        have hp2 := at_gen eN
        clear eN
        simp only [List.length_cons, List.take_succ_cons, List.take_zero, List.drop_succ_cons, List.drop_zero, List.cons_append, List.nil_append, Nat.add_sub_cancel, Nat.sub_zero] at hp2 ⊢
        rw [List.drop_of_length_le (Nat.le_refl _)]
        rw [List.take_of_length_le (Nat.le_refl _)] at hp2
        have rr2 := rr.same s2
        have pg2 := hp.same s2
        wtm_at "wp"
        refine w_dec (fun hk => ?_) (fun hk => ?_)
        · have e2 : kk = "near" := V.str.inj hk
          subst e2
          cases hqo with
          | @near fa wa wb h1 h2 ha' hb' =>
            match xr, rr2, hlen with
            | [x1, x2, x3], .cons r1 (.cons r2 (.cons r3 .nil)), _ =>
              cases r1
              cases r2
              cases r3
              wtm_at "wp"
              refine ⟨fa, wa, wb, r, i, x, rfl, ha', hb', pg2, fun l H3 n3 s3 h3 => k _ H3 (s2.trans s3) (fun l' e => by cases e; exact none_back s2 n3) ?_⟩
              rw [plcD, if_pos rfl]
              exact h3
          | join h1 h2 h3 => rcases h1 with h | h | h <;> exact absurd h (by decide +kernel)
        · have e2 : ¬ kk = "near" := fun z => hk (by rw [z])
          wtm_at "wp"
          rename_i q3 n3 H3 s3 h3
          have hp3 := s3 _ _ hp2
          have rr3 := rr2.same s3
          refine w_inV (.inr (.of h3)) rfl rfl ?_
          rw [in_two']
          wtm_at "wp"
          refine w_dec (fun hk3 => ?_) (fun hk3 => ?_)
          · have hws : ∃ ws : List Str, ps = ws.map PyData.str ∧ ws ≠ [] ∧ ws.length ≤ 100 ∧ ∀ w ∈ ws, isW w = true := by
              cases hqo with
              | @word w0 hw => exact ⟨[w0], rfl, by simp, by simp, fun w hw' => by rw [List.mem_singleton.mp hw']; exact hw⟩
              | @phrase ws h1 h2 h3 => exact ⟨ws, rfl, fun z => by rw [z] at h1; simp at h1, by omega, h3⟩
              | near => exact absurd rfl e2
              | join h1 h2 h3 => rcases h1 with rfl | rfl | rfl <;> exact absurd hk3 (by decide +kernel)
            obtain ⟨ws, rfl, hw1, hw2, hw3⟩ := hws
            have ex := rp_strs rr3
            subst ex
            wtm_at "wp"
            refine ⟨p2, r, i, x, ws, rfl, hp3, hw1, hw2, hw3, pg2.same s3, fun l H4 n4 s4 h4 => k _ H4 (s2.trans (s3.trans s4)) (fun l' e => by cases e; exact none_back (s2.trans s3) n4) ?_⟩
            rw [plcD, if_neg e2, if_pos hk3, filt_str]
            exact rp_nats h4
          · wtm_at "wp"
            refine k _ H3 (s2.trans s3) (fun l' e => by cases e) ?_
            rw [plcD, if_neg e2, if_neg hk3]
            exact .non
def spPlcOf (K : PySem.W.Frag) (C : Addr) : Sp := fun vs H Q _ => ∃ (v : V) (m : Nat) (d : PyData) (r : Addr) (i : Int) (x : Str), vs = [v, .ref r] ∧ Rp H v d ∧ cnt 1 d = some m ∧ m ≤ 12 ∧ PgO C H r i x ∧ ∀ v' H', Same H H' → Rp H' v' (plcD d (wsOf x)) → Q v' H'
theorem ok_plcof {f : Addr} {fd : FuncData} (F : Fun K "places_of" "places_of" s_places_of f fd) (T : Txt K mg Z C_Page C_Broken C_Full C_Gone C_NoFile C_Torn) (f_look_query : Fn P w K mg base "look_query" 25 ["thing"] (spLookQ K)) (f_places_in : Fn P w K mg base "places_in" 5 ["query", "page"] (spPlcIn K C_Page)) : FnOk P w K mg base CX0 26 f fd ["query", "page"] (spPlcOf K C_Page) := by
  refine F.ok sc_places_of (fun vs H Q E h => ?_) (fun cdv A outer s H vs Q E hr h => ?_)
  · obtain ⟨v, m, d, r, i, x, rfl, _⟩ := h
    rfl
  · obtain ⟨v, m, d, r, i, x, rfl, hR, hc, hm, hp, k⟩ := h
    obtain ⟨ds, eds⟩ := plcD_list (wsOf x) hc
    refine ⟨_, (pss_cons (ps_expr (pe_fn f_look_query (hr.mono (by omega)) rfl (pa_cons (pv 0) pa_nil)))
 (pss_cons (ps_set (i := 2) sc_places_of.nd rfl (.inl rfl) (pe_fn f_places_in (hr.mono (by omega)) rfl (pa_cons (pv 0) (pa_cons (pv 1) pa_nil))))
 (pss_cons (ps_if (pt_cmpR op_is0 (pv 2) pe_non (nomark _))
 (pss_one (ps_never))
 pss_nil)
 (pss_one (ps_ret (pv 2)))))), ?_⟩
    wtm_at "w0"
    wtm_at "wp"
    refine ⟨v, 5, d, rfl, hR, cnt_fit (cnt_mono hc (by decide)), by decide, by unfold isQ; rw [cnt_mono hc (by decide)]; exact decide_eq_true hm, fun H1 s1 => ?_⟩
    wtm_at "wp"
    refine ⟨v, 0, m, d, r, i, x, rfl, hR.same s1, hc, hp.same s1, fun v' H2 s2 n2 h2 => ?_⟩
    have k2 := k v' H2 (s1.trans s2) h2
    rw [eds] at h2
    cases h2 with
    | lst h r =>
      wtm_at "wp"
      exact k2

end
end K74

namespace K74
section
variable {P : Program} {w : World} {K : PySem.W.Frag} {mg : Str → Option Value} {base : Heap} {Z : Zs} {C_Page C_Broken C_Full C_Gone C_NoFile C_Torn : Addr}
abbrev s_is_ground : Stmt := topS 63
theorem sc_is_ground : FnScope ["thing", "word", "many"] ["thing", "word", "many"] (defScope s_is_ground) := ⟨rfl, rfl, rfl, by decide +kernel, rfl, by decide +kernel, by decide +kernel⟩
abbrev s_is_whole_store : Stmt := topS 59
theorem sc_is_whole_store : FnScope ["thing"] ["thing"] (defScope s_is_whole_store) := ⟨rfl, rfl, rfl, by decide +kernel, rfl, by decide +kernel, by decide +kernel⟩
abbrev s_stand : Stmt := topS 64
theorem sc_stand : FnScope ["words", "at", "held"] ["words", "at", "held"] (defScope s_stand) := ⟨rfl, rfl, rfl, by decide +kernel, rfl, by decide +kernel, by decide +kernel⟩
abbrev s_is_near : Stmt := topS 65
theorem sc_is_near : FnScope ["query", "one", "other", "held", "kind", "far", "word", "another"] ["query", "one", "other", "held"] (defScope s_is_near) := ⟨rfl, rfl, rfl, by decide +kernel, rfl, by decide +kernel, by decide +kernel⟩
abbrev s_holds_at : Stmt := topS 66
theorem sc_holds_at : FnScope ["query", "ground", "held"] ["query", "ground", "held"] (defScope s_holds_at) := ⟨rfl, rfl, rfl, by decide +kernel, rfl, by decide +kernel, by decide +kernel⟩
/-! ### grounds looked at -/
def spGr : Sp := fun vs H Q _ => ∃ (v : V) (x : Str) (m : Nat) (d : PyData), vs = [v, .str x, .int m] ∧ Rp H v d ∧ Q (.bl (isGr d x m)) H
theorem ok_isgr {f : Addr} {fd : FuncData} (F : Fun K "is_ground" "is_ground" s_is_ground f fd) (T : Txt K mg Z C_Page C_Broken C_Full C_Gone C_NoFile C_Torn) : FnOk P w K mg base CX0 1 f fd ["thing", "word", "many"] spGr := by
  refine F.ok sc_is_ground (fun vs H Q E h => ?_) (fun cdv A outer s H vs Q E hr h => ?_)
  · obtain ⟨v, x, m, d, rfl, _⟩ := h
    rfl
  · obtain ⟨v, x, m, d, rfl, hR, k⟩ := h
    have k' : ∀ {b : Bool}, isGr d x m = b → Q (.bl b) H := fun e => e ▸ k
    refine ⟨_, (pss_one (ps_ret (pe_and (pe_callB call_isi (by rfl) T.n_isinstance PyProof.Rows.boot_isinstance (pa_cons (pv 0) (pa_cons (pe_bltn (v := .ty "tuple") (by rfl) T.n_tuple PyProof.Rows.boot_tuple rfl) pa_nil))) (pe_and (pe_cmpR op_eq (pe_callB cl_len (by rfl) T.n_len PySem.boot_len (pa_cons (pv 0) pa_nil)) (pe_op op_add (pv 2) pe_int) (nomark _)) (pe_and (pe_callB call_isi (by rfl) T.n_isinstance PyProof.Rows.boot_isinstance (pa_cons (pe_ix ix_tup (pv 0) pe_int (fun _ _ => rfl)) (pa_cons (pe_bltn (v := .ty "str") (by rfl) T.n_str PyProof.Rows.boot_str rfl) pa_nil))) (pe_one (pe_cmpR op_eq (pe_ix ix_tup (pv 0) pe_int (fun _ _ => rfl)) (pv 1) (nomark _)))))))), ?_⟩
    wtm_at "w0"
    cases hR with
    | non => wtm_at "wp"; exact k' rfl
    | bl b => wtm_at "wp"; exact k' rfl
    | int i => wtm_at "wp"; exact k' rfl
    | str y => wtm_at "wp"; exact k' rfl
    | lst h r => wtm_at "wp"; exact k' rfl
    | @tup a xs ds ha rr =>
      have hlen := rr.length
      wtm_at "wp"
      refine w_lenT (.of ha) ?_
      wtm_at "wp"
      refine w_dec (fun h1 => ?_) (fun h1 => ?_)
      · have hl : xs.length = m + 1 := by have := V.int.inj h1; omega
        cases rr with
        | nil => simp at hl
        | @cons y0 d0 yr dr r0 rr' =>
          have hlr := rr'.length
          have hlm : dr.length = m := by simp at hl; omega
          wtm_at "wp"
          cases r0 with
          | non => wtm_at "wp"; exact k' rfl
          | bl b => wtm_at "wp"; exact k' rfl
          | int i => wtm_at "wp"; exact k' rfl
          | lst h r => wtm_at "wp"; exact k' rfl
          | tup h r => wtm_at "wp"; exact k' rfl
          | str z =>
            wtm_at "wp"
            refine k' ?_
            rw [gr_cons, decide_eq_true hlm, Bool.true_and, decide_eq_decide]
            exact ⟨fun e => by rw [e], V.str.inj⟩
      · refine k' ?_
        unfold isGr
        split
        · rename_i z r e
          cases e
          rw [decide_eq_false (fun z => h1 (by rw [hlen, ← z]; simp)), Bool.false_and]
        · rfl
theorem ok_wholeS {f : Addr} {fd : FuncData} (F : Fun K "is_whole" "is_whole" s_is_whole_store f fd) (T : Txt K mg Z C_Page C_Broken C_Full C_Gone C_NoFile C_Torn) : FnOk P w K mg base CX0 1 f fd ["thing"] spWhole := by
  refine F.ok sc_is_whole_store (fun vs H Q E h => ?_) (fun cdv A outer s H vs Q E hr h => ?_)
  · obtain ⟨v, rfl, _⟩ := h
    rfl
  · obtain ⟨v, rfl, hv, k⟩ := h
    refine ⟨_, (pss_one (ps_ret (pe_and (pe_callB call_isi (by rfl) T.n_isinstance PyProof.Rows.boot_isinstance (pa_cons (pv 0) (pa_cons (pe_bltn (v := .ty "int") (by rfl) T.n_int PyProof.Rows.boot_int rfl) pa_nil))) (pe_one (pe_not (pe_callB call_isi (by rfl) T.n_isinstance PyProof.Rows.boot_isinstance (pa_cons (pv 0) (pa_cons (pe_bltn (v := .ty "bool") (by rfl) T.n_bool PyProof.Rows.boot_bool rfl) pa_nil)))))))), ?_⟩
    wtm_at "w0"
    cases hv <;> (wtm_at "wp"; exact k)
def spStand (K : PySem.W.Frag) : Sp := fun vs H Q _ => ∃ (a hd : Addr) (v : V) (us held : List Str) (d : PyData), vs = [.ref a, v, .ref hd] ∧ H a = some (.lst (us.map V.str)) ∧ Rp H v d ∧ HW H hd held ∧ us.length ≤ 100 ∧ (∀ u ∈ us, isW u = true) ∧ ∀ H', Same H H' → Q (.bl (standD us d held)) H'
theorem ok_stand {f : Addr} {fd : FuncData} (F : Fun K "stand" "stand" s_stand f fd) (T : Txt K mg Z C_Page C_Broken C_Full C_Gone C_NoFile C_Torn) (f_is_whole_store : Fn P w K mg base "is_whole_store" 1 ["thing"] spWhole) : FnOk P w K mg base CX0 2 f fd ["words", "at", "held"] (spStand K) := by
  refine F.ok sc_stand (fun vs H Q E h => ?_) (fun cdv A outer s H vs Q E hr h => ?_)
  · obtain ⟨a, hd, v, us, held, d, rfl, _⟩ := h
    rfl
  · obtain ⟨a, hd, v, us, held, d, rfl, ha, hR, ⟨hh, hhl, hhW⟩, hul, huW, k⟩ := h
    have k' : ∀ {b : Bool}, standD us d held = b → ∀ H', Same H H' → Q (.bl b) H' := fun e H' s => e ▸ k H' s
    refine ⟨_, (pss_one (ps_ret (pe_and (pe_fn f_is_whole_store (hr.mono (by omega)) rfl (pa_cons (pv 1) pa_nil)) (pe_and (pe_cmpR op_le pe_int (pv 1) (nomark _)) (pe_one (pe_cmpR (op_eqD hr.units) (pe_slice sl_list (pv 2) (po_some (pv 1)) (po_some (pe_op op_add (pv 1) (pe_callB cl_len (by rfl) T.n_len PySem.boot_len (pa_cons (pv 0) pa_nil))))) (pv 0) (nomark _))))))), ?_⟩
    wtm_at "w0"
    wtm_at "wp"
    refine ⟨v, rfl, hR.thg, ?_⟩
    cases hR with
    | non => wtm_at "wp"; exact k' rfl _ (.refl _)
    | bl b => wtm_at "wp"; exact k' rfl _ (.refl _)
    | str y => wtm_at "wp"; exact k' rfl _ (.refl _)
    | lst h r => wtm_at "wp"; exact k' rfl _ (.refl _)
    | tup h r => wtm_at "wp"; exact k' rfl _ (.refl _)
    | int i =>
      wtm_at "wp"
      refine w_dec (fun h0 => ?_) (fun h0 => ?_)
      · obtain ⟨j, rfl⟩ := Int.eq_ofNat_of_zero_le h0
        wtm_at "wp"
        rename_i q4 H4 n4 s4 h4
        rw [List.length_map, cutV_any, ← List.map_drop, ← List.map_take] at h4
        have hsub : ∀ w ∈ (held.drop j).take us.length, isW w = true := fun w hw => hhW w (List.mem_of_mem_drop (List.mem_of_mem_take hw))
        refine w_eqD (.lst (.of h4) (dpAll_str _)) (.lst (.of (s4 _ _ ha)) (dpAll_str us)) (shaped_str (fun b hb => isW_strOk (hsub b hb))) (shaped_str (fun b hb => isW_strOk (huW b hb))) (eqv_strs _ _) ?_
        exact k' stand_int _ s4
      · exact k' (stand_neg h0) _ (.refl _)
def spNearT (K : PySem.W.Frag) : Sp := fun vs H Q _ => ∃ (t hd : Addr) (v1 v2 : V) (fa : Int) (a b : Str) (held : List Str) (d1 d2 : PyData), vs = [.ref t, v1, v2, .ref hd] ∧ H t = some (.tup [.str "near", .int fa, .str a, .str b]) ∧ isW a = true ∧ isW b = true ∧ Rp H v1 d1 ∧ Rp H v2 d2 ∧ HW H hd held ∧ ∀ H', Same H H' → Q (.bl (isNearD fa a b d1 d2 held)) H'
theorem ok_isnear {f : Addr} {fd : FuncData} (F : Fun K "is_near" "is_near" s_is_near f fd) (T : Txt K mg Z C_Page C_Broken C_Full C_Gone C_NoFile C_Torn) (f_stand : Fn P w K mg base "stand" 2 ["words", "at", "held"] (spStand K)) : FnOk P w K mg base CX0 3 f fd ["query", "one", "other", "held"] (spNearT K) := by
  refine F.ok sc_is_near (fun vs H Q E h => ?_) (fun cdv A outer s H vs Q E hr h => ?_)
  · obtain ⟨t, hd, v1, v2, fa, a, b, held, d1, d2, rfl, _⟩ := h
    rfl
  · obtain ⟨t, hd, v1, v2, fa, a, b, held, d1, d2, rfl, ht, haW, hbW, hR1, hR2, hh, k⟩ := h
    have k' : ∀ {b' : Bool}, isNearD fa a b d1 d2 held = b' → ∀ H', Same H H' → Q (.bl b') H' := fun e H' s => e ▸ k H' s
    refine ⟨_, (pss_cons (ps_asg (pv 0) (pg_tup rfl (pgs_cons (pg_name (i := 4) sc_is_near.nd rfl (.inl rfl)) (pgs_cons (pg_name (i := 5) sc_is_near.nd rfl (.inl rfl)) (pgs_cons (pg_name (i := 6) sc_is_near.nd rfl (.inl rfl)) (pgs_cons (pg_name (i := 7) sc_is_near.nd rfl (.inl rfl)) pgs_nil))))))
 (pss_cons (ps_if (PW.pt (pw_or (pt_not (pt_val (pe_fn f_stand (hr.mono (by omega)) rfl (pa_cons (pe_lst (pa_cons (pv 6) pa_nil)) (pa_cons (pv 1) (pa_cons (pv 3) pa_nil)))))) (pw_or1 (pt_not (pt_val (pe_fn f_stand (hr.mono (by omega)) rfl (pa_cons (pe_lst (pa_cons (pv 7) pa_nil)) (pa_cons (pv 2) (pa_cons (pv 3) pa_nil)))))))))
 (pss_one (ps_ret pe_bl))
 pss_nil)
 (pss_one (ps_ret (pe_chain op_le op_le pe_int (pe_callB cl_abs (by rfl) T.n_abs PyProof.Rows.boot_abs (pa_cons (pe_op op_sub (pv 1) (pv 2)) pa_nil)) (pv 5)))))), ?_⟩
    wtm_at "w0"
    wtm_at "wp"
    rename_i p1 H1 n1 s1 h1
    refine ⟨p1, hd, v1, [a], held, d1, rfl, h1, hR1.same s1, hh.same s1, by simp, fun u hu => by rw [List.mem_singleton.mp hu]; exact haW, fun H2 s2 => ?_⟩
    have S2 := s1.trans s2
    unfold isNearD at k'
    cases e1 : standD [a] d1 held with
    | false =>
      wtm_at "wp"
      exact k' (by rw [e1]; rfl) _ S2
    | true =>
      wtm_at "wp"
      rename_i p3 H3 n3 s3 h3
      have S3 := S2.trans s3
      refine ⟨p3, hd, v2, [b], held, d2, rfl, h3, hR2.same S3, hh.same S3, by simp, fun u hu => by rw [List.mem_singleton.mp hu]; exact hbW, fun H4 s4 => ?_⟩
      have S4 := S3.trans s4
      cases e2 : standD [b] d2 held with
      | false =>
        wtm_at "wp"
        exact k' (by rw [e1, e2]; rfl) _ S4
      | true =>
        obtain ⟨i, rfl, hi⟩ := stand_of e1
        obtain ⟨j, rfl, hj⟩ := stand_of e2
        cases hR1
        cases hR2
        wtm_at "wp"
        refine w_dec (fun g1 => ?_) (fun g1 => ?_)
        · wtm_at "wp"
          refine k' ?_ _ S4
          rw [e1, e2]
          show (true && (true && decide _)) = _
          rw [Bool.true_and, Bool.true_and, decide_eq_decide]
          exact ⟨fun z => z.2, fun z => ⟨by omega, z⟩⟩
        · refine k' ?_ _ S4
          rw [e1, e2]
          show (true && (true && decide _)) = _
          rw [Bool.true_and, Bool.true_and, decide_eq_false (fun z => g1 (by omega))]
/-- a plain query in a tuple -/
structure PlQ (H : Hp) (t : Addr) (k : Str) (ps : List PyData) (xr : List V) : Prop where
  at_ : H t = some (.tup (.str k :: xr))
  rp : RpAll H xr ps
  q : ∃ n m, QOf n (.tuple (.str k :: ps)) m
  n1 : ¬ k = "and"
  n2 : ¬ k = "or"
  n3 : ¬ k = "but"
theorem PlQ.same {H H' : Hp} {t : Addr} {k : Str} {ps : List PyData} {xr : List V} (h : PlQ H t k ps xr) (s : Same H H') : PlQ H' t k ps xr := ⟨s _ _ h.at_, h.rp.same s, h.q, h.n1, h.n2, h.n3⟩
theorem PlQ.cases {H : Hp} {t : Addr} {k : Str} {ps : List PyData} {xr : List V} (h : PlQ H t k ps xr) : (∃ (fa : Int) (a b : Str), k = "near" ∧ ps = [.int fa, .str a, .str b] ∧ xr = [.int fa, .str a, .str b] ∧ isW a = true ∧ isW b = true) ∨
    (¬ k = "near" ∧ ∃ us : List Str, ps = us.map PyData.str ∧ xr = us.map V.str ∧ us ≠ [] ∧ us.length ≤ 5 ∧ (∀ u ∈ us, isW u = true) ∧ ∀ held, plcD (.tuple (.str k :: ps)) held = .list ((runP held us).map nD)) := by
  obtain ⟨n, m, hq⟩ := h.q
  have hrp := h.rp
  cases hq with
  | @word w hw => exact .inr ⟨by decide +kernel, [w], rfl, rp_strs hrp, by simp, by simp, fun u hu => by rw [List.mem_singleton.mp hu]; exact hw, fun held => plcD_word⟩
  | @phrase ws g1 g2 g3 => exact .inr ⟨by decide +kernel, ws, rfl, rp_strs hrp, fun z => by rw [z] at g1; simp at g1, g2, g3, fun held => plcD_phrase⟩
  | @near f a b g1 g2 g3 g4 =>
    cases hrp with
    | cons r1 r => cases r with
      | cons r2 r => cases r with
        | cons r3 r =>
          cases r
          cases r1
          cases r2
          cases r3
          exact .inl ⟨f, a, b, rfl, rfl, rfl, g3, g4⟩
  | join a _ _ => rcases a with rfl | rfl | rfl <;> exact absurd rfl (by first | exact h.n1 | exact h.n2 | exact h.n3)
def spAt (K : PySem.W.Frag) : Sp := fun vs H Q _ => ∃ (t hd : Addr) (v : V) (k : Str) (ps : List PyData) (xr : List V) (g : PyData) (held : List Str), vs = [.ref t, v, .ref hd] ∧ PlQ H t k ps xr ∧ Rp H v g ∧ HW H hd held ∧ ∀ H', Same H H' → Q (.bl (atD k ps g held)) H'
theorem ok_hat {f : Addr} {fd : FuncData} (F : Fun K "holds_at" "holds_at" s_holds_at f fd) (T : Txt K mg Z C_Page C_Broken C_Full C_Gone C_NoFile C_Torn) (f_is_ground : Fn P w K mg base "is_ground" 1 ["thing", "word", "many"] spGr) (f_is_near : Fn P w K mg base "is_near" 3 ["query", "one", "other", "held"] (spNearT K)) (f_stand : Fn P w K mg base "stand" 2 ["words", "at", "held"] (spStand K)) : FnOk P w K mg base CX0 4 f fd ["query", "ground", "held"] (spAt K) := by
  refine F.ok sc_holds_at (fun vs H Q E h => ?_) (fun cdv A outer s H vs Q E hr h => ?_)
  · obtain ⟨t, hd, v, k, ps, xr, g, held, rfl, _⟩ := h
    rfl
  · obtain ⟨t, hd, v, kk, ps, xr, g, held, rfl, hq, hR, hh, k⟩ := h
    have ht := hq.at_
    refine ⟨_, (pss_cons (ps_if (pt_cmpR op_eq (pe_ix ix_tup (pv 0) pe_int (fun _ _ => rfl)) pe_str (nomark _))
 (pss_one (ps_ret (pe_and (pe_fn f_is_ground (hr.mono (by omega)) rfl (pa_cons (pv 1) (pa_cons pe_str (pa_cons pe_int pa_nil)))) (pe_one (pe_fn f_is_near (hr.mono (by omega)) rfl (pa_cons (pv 0) (pa_cons (pe_ix ix_tup (pv 1) pe_int (fun _ _ => rfl)) (pa_cons (pe_ix ix_tup (pv 1) pe_int (fun _ _ => rfl)) (pa_cons (pv 2) pa_nil)))))))))
 pss_nil)
 (pss_one (ps_ret (pe_and (pe_fn f_is_ground (hr.mono (by omega)) rfl (pa_cons (pv 1) (pa_cons pe_str (pa_cons pe_int pa_nil)))) (pe_one (pe_fn f_stand (hr.mono (by omega)) rfl (pa_cons (pe_callTy cl_list (by rfl) T.n_list PyProof.Rows.boot_list (pa_cons (pe_slice sl_tup (pv 0) (po_some pe_int) po_none) pa_nil)) (pa_cons (pe_ix ix_tup (pv 1) pe_int (fun _ _ => rfl)) (pa_cons (pv 2) pa_nil))))))))), ?_⟩
    wtm_at "w0"
    wtm_at "wp"
    rcases hq.cases with ⟨fa, a, b, rfl, rfl, rfl, haW, hbW⟩ | ⟨hn, us, rfl, rfl, hne, hul, huW, -⟩
    · refine iteT' (decide_eq_true rfl) ?_
      wtm_at "wp"
      refine ⟨v, "at", 2, g, rfl, hR, ?_⟩
      unfold atD at k
      rw [if_pos rfl] at k
      cases e : isGr g "at" 2 with
      | false =>
        rw [e] at k
        wtm_at "wp"
        exact k _ (.refl _)
      | true =>
        obtain ⟨r, rfl, hr2⟩ := gr_of e
        match r, hr2, hR with
        | [x, y], _, hR =>
          rw [e] at k
          cases hR with
          | tup hg rg => cases rg with
            | cons r0 rg => cases rg with
              | cons r1 rg => cases rg with
                | cons r2 rg =>
                  cases rg
                  wtm_at "wp"
                  exact ⟨t, hd, _, _, fa, a, b, held, x, y, rfl, ht, haW, hbW, r1, r2, hh, k⟩
    · refine iteF' (decide_eq_false (fun z => hn (V.str.inj z))) ?_
      wtm_at "wp"
      refine ⟨v, "at", 1, g, rfl, hR, ?_⟩
      unfold atD at k
      rw [if_neg hn, filt_str] at k
      cases e : isGr g "at" 1 with
      | false =>
        rw [e] at k
        wtm_at "wp"
        exact k _ (.refl _)
      | true =>
        obtain ⟨r, rfl, hr2⟩ := gr_of e
        match r, hr2, hR with
        | [x], _, hR =>
          rw [e] at k
          cases hR with
          | tup hg rg => cases rg with
            | cons r0 rg => cases rg with
              | cons r1 rg =>
                cases rg
                wtm_at "wp"
                refine w_slTd (i := 1) (.of ht) (by decide) (by simp) (fun p4 H4 n4 s4 h4 => ?_)
                refine w_nil ?_
                refine w_listOfT (.of h4) (fun p5 H5 n5 s5 h5 => ?_)
                wtm_at "wp"
                exact ⟨p5, hd, _, us, held, x, rfl, h5, (r1.same s4).same s5, (hh.same s4).same s5, by omega, huW, fun H' s => k H' ((s4.trans s5).trans s)⟩
abbrev s_found_at : Stmt := topS 68
theorem sc_found_at : FnScope ["query", "held", "places", "one", "other", "at"] ["query", "held", "places"] (defScope s_found_at) := ⟨rfl, rfl, rfl, by decide +kernel, rfl, by decide +kernel, by decide +kernel⟩
abbrev s_has_none : Stmt := topS 67
theorem sc_has_none : FnScope ["query", "held"] ["query", "held"] (defScope s_has_none) := ⟨rfl, rfl, rfl, by decide +kernel, rfl, by decide +kernel, by decide +kernel⟩
def spFound (K : PySem.W.Frag) : Sp := fun vs H Q _ => ∃ (t hd pl : Addr) (k : Str) (ps : List PyData) (xr : List V) (held : List Str), vs = [.ref t, .ref hd, .ref pl] ∧ PlQ H t k ps xr ∧ HW H hd held ∧ H pl = some (.lst ((List.range held.length).map fun i : Nat => V.int (i : Int))) ∧ ∀ l H' (bs : List Bool), Same H H' → H' l = some (.lst (bs.map V.bl)) → bs.any id = hasN (plcD (.tuple (.str k :: ps)) held) → Q (.ref l) H'
theorem ok_found {f : Addr} {fd : FuncData} (F : Fun K "found_at" "found_at" s_found_at f fd) (T : Txt K mg Z C_Page C_Broken C_Full C_Gone C_NoFile C_Torn) (f_is_near : Fn P w K mg base "is_near" 3 ["query", "one", "other", "held"] (spNearT K)) (f_stand : Fn P w K mg base "stand" 2 ["words", "at", "held"] (spStand K)) : FnOk P w K mg base CX0 4 f fd ["query", "held", "places"] (spFound K) := by
  refine F.ok sc_found_at (fun vs H Q E h => ?_) (fun cdv A outer s H vs Q E hr h => ?_)
  · obtain ⟨t, hd, pl, k, ps, xr, held, rfl, _⟩ := h
    rfl
  · obtain ⟨t, hd, pl, kk, ps, xr, held, rfl, hq, hh, hpl, k⟩ := h
    have ht := hq.at_
    have hL := hh.len
    refine ⟨_, (pss_cons (ps_if (pt_cmpR op_eq (pe_ix ix_tup (pv 0) pe_int (fun _ _ => rfl)) pe_str (nomark _))
 (pss_one (ps_ret (pe_lc2 (own := [("one", 3), ("other", 4)]) (vs1 := [4]) (g := gName 3) (g1 := gName 4) (tt := tYes) (tt1 := tYes) rfl sc_found_at.nd (show PI _ _ _ (iList K _) from (pi_list (pv 2))) (blkOk_by (own := [("one", 3), ("other", 4)]) (N := ["query", "held", "places", "one", "other", "at"]) (sc := defScope s_found_at) (by decide +kernel)) (by decide) (fun _ _ _ _ _ => pg_name (i := 3) sc_found_at.nd rfl (Or.inl rfl)) (fun _ _ _ _ _ => pts_nil) (fun _ _ _ _ _ => (show PI _ _ _ (iList K _) from (pi_list (pv 2)))) (fun _ _ _ _ _ => pg_name (i := 4) sc_found_at.nd rfl (Or.inl rfl)) (fun _ _ _ _ _ => pts_nil) (fun _ _ _ _ _ => (pe_fn f_is_near (hr.mono (by omega)) rfl (pa_cons (pv 0) (pa_cons (pv 3) (pa_cons (pv 4) (pa_cons (pv 1) pa_nil)))))))))
 pss_nil)
 (pss_one (ps_ret (pe_lc (own := [("at", 5)]) (g := gName 5) (tt := tYes) rfl sc_found_at.nd (show PI _ _ _ (iList K _) from (pi_list (pv 2))) (blkOk_by (own := [("at", 5)]) (N := ["query", "held", "places", "one", "other", "at"]) (sc := defScope s_found_at) (by decide +kernel)) (fun _ _ _ _ _ => pg_name (i := 5) sc_found_at.nd rfl (Or.inl rfl)) (fun _ _ _ _ _ => pts_nil) (fun _ _ _ _ _ => (pe_fn f_stand (hr.mono (by omega)) rfl (pa_cons (pe_callTy (show CallR _ _ (rListOf K) from cl_list) (by rfl) T.n_list PyProof.Rows.boot_list (pa_cons (pe_slice (show SlR _ (rSlT K) from sl_tup) (pv 0) (po_some pe_int) po_none) pa_nil)) (pa_cons (pv 5) (pa_cons (pv 1) pa_nil))))))))), ?_⟩
    wtm_at "w0"
    wtm_at "wp"
    rcases hq.cases with ⟨fa, a, b, rfl, rfl, rfl, haW, hbW⟩ | ⟨hn, us, rfl, rfl, hne, hul, huW, hpc⟩
    · refine iteT' (decide_eq_true rfl) ?_
      have hLL : held.length * held.length ≤ 120 * 120 := Nat.mul_le_mul hL hL
      wtm_at "wp"
      refine lc2_fin (fin_list (xs := (List.range held.length).map fun i : Nat => V.int (i : Int))) (fun j acc H' => Same H H' ∧ acc = ((((List.range held.length).take j).map fun i : Nat => (List.range held.length).map fun e : Nat => isNearD fa a b (.int (i : Int)) (.int (e : Int)) held).flatten).map V.bl) (fun D H2 nD s2 hD => ⟨s2, rfl⟩) (fun j acc H2 _ h => .of (h.1 _ _ hpl)) ?_ ?_
      · rintro D j v acc H3 H4 nD hj ⟨s3, e3⟩ hD ⟨rfl, hv⟩
        rw [List.getElem?_map] at hv
        obtain ⟨n, hn', rfl⟩ := Option.map_eq_some_iff.mp hv
        have hpl3 := s3 _ _ hpl
        have nplD : pl ≠ D := fun z => by rw [z, nD] at hpl; cases hpl
        have hbl := nearBs_len (f := fa) (a := a) (b := b) (held := held) j
        wtm_at "wp"
        refine ⟨rfl, ?_⟩
        wtm_at "wp"
        refine in_fin (D := D) (fin_list (xs := (List.range held.length).map fun i : Nat => V.int (i : Int))) (fun e ac H' => KB D H4 H' ∧ ac = (((((List.range held.length).take j).map fun i : Nat => (List.range held.length).map fun e : Nat => isNearD fa a b (.int (i : Int)) (.int (e : Int)) held).flatten) ++ (((List.range held.length).take e).map fun e : Nat => isNearD fa a b (.int (n : Int)) (.int (e : Int)) held)).map V.bl) ⟨acc, hD, KB.refl, ?_⟩ (fun e ac H' _ h => .of (h.1 _ _ hpl3 nplD)) ?_ ?_
        · rw [e3]
          simp
        · rintro e y ac H5 H6 he ⟨k5, e5⟩ hD5 ⟨rfl, hy⟩
          rw [List.getElem?_map] at hy
          obtain ⟨m, hm, rfl⟩ := Option.map_eq_some_iff.mp hy
          rw [List.length_map, List.length_range] at he
          have s5 : Same H H6 := k5.same s3 nD
          have hac' : ac.length ≤ 14400 + 120 := by
            rw [e5, List.length_map, List.length_append, List.length_map, List.length_take, List.length_range]
            omega
          wtm_at "wp"
          refine ⟨rfl, ?_⟩
          wtm_at "wp"
          refine ⟨t, hd, _, _, fa, a, b, held, .int n, .int m, rfl, s5 _ _ ht, haW, hbW, .int _, .int _, hh.same s5, fun H7 s7 => ?_⟩
          refine w_accJ (s7 _ _ hD5) (by omega) (fun H8 k8 h8 => ⟨k5.trans ((KB.of s7).trans k8), ?_⟩)
          rw [e5, take_succL hm]
          simp
        · rintro ac H5 ⟨k5, e5⟩ hD5
          refine ⟨ac, hD5, k5.same s3 nD, ?_⟩
          have eT : (List.range held.length).take held.length = List.range held.length := List.take_of_length_le (by simp)
          rw [List.length_map, List.length_range, eT] at e5
          rw [e5, take_succL hn']
          simp
      · rintro D acc H3 nD ⟨s3, e3⟩ hD
        rw [List.length_map, List.length_range, List.take_of_length_le (by simp)] at e3
        exact k D H3 (nearBs fa a b held) s3 (by rw [hD, e3]; rfl) (by rw [plcD_near, any_near])
    · refine iteF' (decide_eq_false (fun z => hn (V.str.inj z))) ?_
      wtm_at "wp"
      refine lc_fin (fin_list (xs := (List.range held.length).map fun i : Nat => V.int (i : Int))) (fun j acc H' => Same H H' ∧ acc = (((List.range held.length).take j).map fun i : Nat => standD us (.int (i : Int)) held).map V.bl) (fun D H2 nD s2 hD => ⟨s2, rfl⟩) (fun j acc H2 _ h => .of (h.1 _ _ hpl)) ?_ ?_
      · rintro D j v acc H3 H4 nD hj hac ⟨s3, e3⟩ hD ⟨rfl, hv⟩
        rw [List.getElem?_map] at hv
        obtain ⟨n, hn', rfl⟩ := Option.map_eq_some_iff.mp hv
        have ht3 := s3 _ _ ht
        wtm_at "wp"
        refine ⟨rfl, ?_⟩
        wtm_at "wp"
        refine w_slTd (i := 1) (.of ht3) (by decide) (by simp) (fun p4 H4 n4 s4 h4 => ?_)
        refine w_nil ?_
        refine w_listOfT (.of h4) (fun p5 H5 n5 s5 h5 => ?_)
        wtm_at "wp"
        refine ⟨p5, hd, _, us, held, .int n, rfl, h5, .int _, ((hh.same s3).same s4).same s5, by omega, huW, fun H6 s6 => ?_⟩
        refine w_acc (s6 _ _ (s5 _ _ (s4 _ _ hD))) hac hj (sz (by simp; omega)) (fun H7 k7 h7 => ⟨k7.same (s3.trans (s4.trans (s5.trans s6))) nD, ?_⟩)
        rw [e3, take_succL hn']
        simp
      · rintro D acc H3 nD ⟨s3, e3⟩ hac hD
        rw [List.length_map, List.length_range, List.take_of_length_le (by simp)] at e3
        exact k D H3 (runB us held) s3 (by rw [hD, e3]; rfl) (by rw [hpc, any_run hne])
def spNone (K : PySem.W.Frag) : Sp := fun vs H Q _ => ∃ (t hd : Addr) (k : Str) (ps : List PyData) (xr : List V) (held : List Str), vs = [.ref t, .ref hd] ∧ PlQ H t k ps xr ∧ HW H hd held ∧ ∀ H', Same H H' → Q (.bl (!hasN (plcD (.tuple (.str k :: ps)) held))) H'
theorem ok_hnone {f : Addr} {fd : FuncData} (F : Fun K "has_none" "has_none" s_has_none f fd) (T : Txt K mg Z C_Page C_Broken C_Full C_Gone C_NoFile C_Torn) (f_found_at : Fn P w K mg base "found_at" 4 ["query", "held", "places"] (spFound K)) : FnOk P w K mg base CX0 5 f fd ["query", "held"] (spNone K) := by
  refine F.ok sc_has_none (fun vs H Q E h => ?_) (fun cdv A outer s H vs Q E hr h => ?_)
  · obtain ⟨t, hd, k, ps, xr, held, rfl, _⟩ := h
    rfl
  · obtain ⟨t, hd, kk, ps, xr, held, rfl, hq, hh, k⟩ := h
    have hh1 := hh.at_
    have hL := hh.len
    refine ⟨_, (pss_one (ps_ret (pe_not (pe_callB (cr_any rfl) (by rfl) T.n_any PyProof.Rows.boot_any (pa_cons (pe_fn f_found_at (hr.mono (by omega)) rfl (pa_cons (pv 0) (pa_cons (pv 1) (pa_cons (pe_listRg rfl (by rfl) T.n_list (prg_1 (by rfl) T.n_range (pe_callB cl_len (by rfl) T.n_len PySem.boot_len (pa_cons (pv 1) pa_nil)))) pa_nil)))) pa_nil))))), ?_⟩
    wtm_at "w0"
    wtm_at "wp"
    refine w_lstRg (w_rg1 ?_)
    wtm_at "wp"
    rw [List.length_map, rgV_nat]
    refine ⟨RgOk.of_le (by omega) (by omega) (by omega) (by omega), fun q nq => ?_⟩
    generalize eN : upd H q _ = H1
    have s1 := same_gen nq eN
    have h1 := at_gen eN
    clear eN
    refine w_nil ?_
    refine ⟨t, hd, q, kk, ps, xr, held, rfl, hq.same s1, hh.same s1, h1, fun l H2 bs s2 h2 e2 => ?_⟩
    refine w_nil ?_
    refine w_any (bs := bs) rfl (.of h2) ?_
    rw [e2]
    exact ⟨_, rfl, k _ (s1.trans s2)⟩

end
end K74

namespace K74
section
variable {P : Program} {w : World} {K : PySem.W.Frag} {mg : Str → Option Value} {base : Heap} {Z : Zs} {C_Page C_Broken C_Full C_Gone C_NoFile C_Torn : Addr}
abbrev s_holds_one : Stmt := topS 69
theorem sc_holds_one : FnScope ["query", "ground", "word", "yes", "held"] ["query", "ground", "word", "yes", "held"] (defScope s_holds_one) := ⟨rfl, rfl, rfl, by decide +kernel, rfl, by decide +kernel, by decide +kernel⟩
abbrev s_holds_each : Stmt := topS 70
theorem sc_holds_each : FnScope ["query", "ground", "yes", "held", "part", "inner"] ["query", "ground", "yes", "held"] (defScope s_holds_each) := ⟨rfl, rfl, rfl, by decide +kernel, rfl, by decide +kernel, by decide +kernel⟩
abbrev s_holds_but : Stmt := topS 71
theorem sc_holds_but : FnScope ["query", "ground", "yes", "held"] ["query", "ground", "yes", "held"] (defScope s_holds_but) := ⟨rfl, rfl, rfl, by decide +kernel, rfl, by decide +kernel, by decide +kernel⟩
abbrev s_holds_ground : Stmt := topS 72
theorem sc_holds_ground : FnScope ["query", "ground", "yes", "held"] ["query", "ground", "yes", "held"] (defScope s_holds_ground) := ⟨rfl, rfl, rfl, by decide +kernel, rfl, by decide +kernel, by decide +kernel⟩
/-! ### grounds looked at, within one another -/
def spHd (K : PySem.W.Frag) (N : Nat) : Sp := fun vs H Q _ => ∃ (vq vg : V) (hd : Addr) (n m : Nat) (q g : PyData) (yes : Bool) (held : List Str), vs = [vq, vg, .bl yes, .ref hd] ∧ n ≤ N ∧ Rp H vq q ∧ cnt n q = some m ∧ Rp H vg g ∧ HW H hd held ∧ ∀ H', Same H H' → Q (.bl (hdG n q g yes held)) H'
theorem spHd0 {K : PySem.W.Frag} : ∀ vs H Q E, ¬ spHd K 0 vs H Q E := fun vs H Q E ⟨_, _, _, n, m, q, _, _, _, _, hn, _, hc, _⟩ => by
  have : n = 0 := by omega
  rw [this] at hc
  cases hc
/-- a query of queries in a tuple -/
structure JnQ (H : Hp) (t : Addr) (k : Str) (ps : List PyData) (xr : List V) (n N : Nat) : Prop where
  at_ : H t = some (.tup (.str k :: xr))
  rp : RpAll H xr ps
  cs : ∀ p ∈ ps, ∃ c, cnt n p = some c
  l2 : 2 ≤ ps.length
  l4 : ps.length ≤ 4
  le : n ≤ N
theorem JnQ.same {H H' : Hp} {t : Addr} {k : Str} {ps : List PyData} {xr : List V} {n N : Nat} (h : JnQ H t k ps xr n N) (s : Same H H') : JnQ H' t k ps xr n N := ⟨s _ _ h.at_, h.rp.same s, h.cs, h.l2, h.l4, h.le⟩
def oneB (n : Nat) (ps : List PyData) (x : Str) (g : PyData) (yes : Bool) (held : List Str) : Bool := isGr g x 2 && (match argsD g with
        | [.int i, x] => decide (0 ≤ i ∧ i < ps.length) && hdG n (ps.getD i.toNat .none) x yes held
        | _ => false)
def spOne (K : PySem.W.Frag) (N : Nat) : Sp := fun vs H Q _ => ∃ (t hd : Addr) (vg : V) (k x : Str) (ps : List PyData) (xr : List V) (n : Nat) (g : PyData) (yes : Bool) (held : List Str), vs = [.ref t, vg, .str x, .bl yes, .ref hd] ∧ JnQ H t k ps xr n N ∧ Rp H vg g ∧ HW H hd held ∧ ∀ H', Same H H' → Q (.bl (oneB n ps x g yes held)) H'
theorem ok_hone {N k0 : Nat} {f : Addr} {fd : FuncData} (hk0 : 5 ≤ k0) (F : Fun K "holds_one" "holds_one" s_holds_one f fd) (T : Txt K mg Z C_Page C_Broken C_Full C_Gone C_NoFile C_Torn) (f_is_ground : Fn P w K mg base "is_ground" 1 ["thing", "word", "many"] spGr) (f_is_whole_store : Fn P w K mg base "is_whole_store" 1 ["thing"] spWhole) (f_holds_ground : Fn P w K mg base "holds_ground" k0 ["query", "ground", "yes", "held"] (spHd K N)) : FnOk P w K mg base CX0 (k0 + 1) f fd ["query", "ground", "word", "yes", "held"] (spOne K N) := by
  refine F.ok sc_holds_one (fun vs H Q E h => ?_) (fun cdv A outer s H vs Q E hr h => ?_)
  · obtain ⟨t, hd, vg, k, x, ps, xr, n, g, yes, held, rfl, _⟩ := h
    rfl
  · obtain ⟨t, hd, vg, kk, x, ps, xr, n, g, yes, held, rfl, hq, hR, hh, k⟩ := h
    have k' : ∀ {b : Bool}, oneB n ps x g yes held = b → ∀ H', Same H H' → Q (.bl b) H' := fun e H' s => e ▸ k H' s
    have ht := hq.at_
    have hlen := hq.rp.length
    refine ⟨_, (pss_cons (ps_if (PW.pt (pw_or (pt_not (pt_val (pe_fn f_is_ground (hr.mono (by omega)) rfl (pa_cons (pv 1) (pa_cons (pv 2) (pa_cons pe_int pa_nil)))))) (pw_or (pt_not (pt_val (pe_fn f_is_whole_store (hr.mono (by omega)) rfl (pa_cons (pe_ix ix_tup (pv 1) pe_int (fun _ _ => rfl)) pa_nil)))) (pw_or1 (pt_not (pt_chain op_le op_lt pe_int (pe_ix ix_tup (pv 1) pe_int (fun _ _ => rfl)) (pe_op op_sub (pe_callB cl_len (by rfl) T.n_len PySem.boot_len (pa_cons (pv 0) pa_nil)) pe_int)))))))
 (pss_one (ps_ret pe_bl))
 pss_nil)
 (pss_one (ps_ret (pe_fn f_holds_ground (hr.mono (by omega)) rfl (pa_cons (pe_ix ix_tup (pv 0) (pe_op op_add pe_int (pe_ix ix_tup (pv 1) pe_int (fun _ _ => rfl))) (fun _ _ => rfl)) (pa_cons (pe_ix ix_tup (pv 1) pe_int (fun _ _ => rfl)) (pa_cons (pv 3) (pa_cons (pv 4) pa_nil)))))))), ?_⟩
    wtm_at "w0"
    wtm_at "wp"
    refine ⟨vg, x, 2, g, rfl, hR, ?_⟩
    unfold oneB at k'
    cases e : isGr g x 2 with
    | false =>
      wtm_at "wp"
      exact k' (by rw [e]; rfl) _ (.refl _)
    | true =>
      obtain ⟨r, rfl, hr2⟩ := gr_of e
      match r, hr2, hR with
      | [y, z], _, hR =>
        cases hR with
        | tup hg rg => cases rg with
          | cons r0 rg => cases rg with
            | cons r1 rg => cases rg with
              | cons r2 rg =>
                cases rg
                cases r0
                wtm_at "wp"
                refine ⟨_, rfl, r1.thg, ?_⟩
                have bad : (∀ i, y ≠ .int i) → Q (.bl false) H := fun hb => k' (by
                  rw [e]
                  cases y <;> first | rfl | exact absurd rfl (hb _)) _ (.refl _)
                cases r1 with
                | non => wtm_at "wp"; exact bad (fun i z => by cases z)
                | bl b => wtm_at "wp"; exact bad (fun i z => by cases z)
                | str b => wtm_at "wp"; exact bad (fun i z => by cases z)
                | lst h r => wtm_at "wp"; exact bad (fun i z => by cases z)
                | tup h r => wtm_at "wp"; exact bad (fun i z => by cases z)
                | int i =>
                  wtm_at "wp"
                  have e1 : (isGr (.tuple [.str x, .int i, z]) x 2 && (decide (0 ≤ i ∧ i < ps.length) && hdG n (ps.getD i.toNat .none) z yes held)) = (decide (0 ≤ i ∧ i < ps.length) && hdG n (ps.getD i.toNat .none) z yes held) := by rw [e, Bool.true_and]
                  have k2 : ∀ {b : Bool}, (decide (0 ≤ i ∧ i < ps.length) && hdG n (ps.getD i.toNat .none) z yes held) = b → ∀ H', Same H H' → Q (.bl b) H' := fun e2 => k' (e1.trans e2)
                  refine w_dec (fun h0 => ?_) (fun h0 => ?_)
                  · wtm_at "wp"
                    refine w_lenT (.of ht) ?_
                    wtm_at "wp"
                    have eL : (((V.str kk :: xr).length : Nat) : Int) - 1 = (ps.length : Int) := by rw [List.length_cons, hlen]; omega
                    rw [eL]
                    by_cases hi : i < (ps.length : Int)
                    · refine iteF' (by rw [decide_eq_true hi]; rfl) ?_
                      obtain ⟨j, rfl⟩ := Int.eq_ofNat_of_zero_le h0
                      have hj : j < ps.length := by omega
                      wtm_at "wp"
                      obtain ⟨v, d, g1, g2, g3⟩ := at_rp hq.rp (i := j) (by omega)
                      have ex : atI (V.str kk :: xr) (1 + (j : Int)) = some v := by
                        rw [show (1 + (j : Int)) = ((j + 1 : Nat) : Int) by omega]
                        exact atI_nat (by simpa using g1)
                      refine w_ixT (.of ht) ex ?_
                      wtm_at "wp"
                      obtain ⟨c, hc⟩ := hq.cs d (List.mem_of_getElem? g2)
                      refine ⟨v, _, hd, n, c, d, z, yes, held, rfl, hq.le, g3, hc, r2, hh, fun H' s => k2 ?_ H' s⟩
                      have eg : ps.getD ((j : Int)).toNat .none = d := by rw [show ((j : Int)).toNat = j by omega, List.getD_eq_getElem?_getD, g2]; rfl
                      rw [eg, decide_eq_true ⟨by omega, by omega⟩, Bool.true_and]
                    · refine iteT' (by rw [decide_eq_false hi]; rfl) ?_
                      wtm_at "wp"
                      exact k2 (by rw [decide_eq_false (fun z => hi z.2), Bool.false_and]) _ (.refl _)
                  · wtm_at "wp"
                    exact k2 (by rw [decide_eq_false (fun z => h0 z.1), Bool.false_and]) _ (.refl _)
def allB (n : Nat) (ps : List PyData) (g : PyData) (yes : Bool) (held : List Str) : Bool := isGr g "all" ps.length && ((ps.zip (argsD g)).map fun z => hdG n z.1 z.2 yes held).all id
def spEach (K : PySem.W.Frag) (N : Nat) : Sp := fun vs H Q _ => ∃ (t hd : Addr) (vg : V) (k : Str) (ps : List PyData) (xr : List V) (n : Nat) (g : PyData) (yes : Bool) (held : List Str), vs = [.ref t, vg, .bl yes, .ref hd] ∧ JnQ H t k ps xr n N ∧ Rp H vg g ∧ HW H hd held ∧ ∀ H', Same H H' → Q (.bl (allB n ps g yes held)) H'
theorem ok_heach {N k0 : Nat} {f : Addr} {fd : FuncData} (hk0 : 5 ≤ k0) (F : Fun K "holds_each" "holds_each" s_holds_each f fd) (T : Txt K mg Z C_Page C_Broken C_Full C_Gone C_NoFile C_Torn) (f_is_ground : Fn P w K mg base "is_ground" 1 ["thing", "word", "many"] spGr) (f_holds_ground : Fn P w K mg base "holds_ground" k0 ["query", "ground", "yes", "held"] (spHd K N)) : FnOk P w K mg base CX0 (k0 + 1) f fd ["query", "ground", "yes", "held"] (spEach K N) := by
  refine F.ok sc_holds_each (fun vs H Q E h => ?_) (fun cdv A outer s H vs Q E hr h => ?_)
  · obtain ⟨t, hd, vg, k, ps, xr, n, g, yes, held, rfl, _⟩ := h
    rfl
  · obtain ⟨t, hd, vg, kk, ps, xr, n, g, yes, held, rfl, hq, hR, hh, k⟩ := h
    have ht := hq.at_
    have hlen := hq.rp.length
    have l4 := hq.l4
    refine ⟨_, (pss_cons (ps_if (pt_not (pt_val (pe_fn f_is_ground (hr.mono (by omega)) rfl (pa_cons (pv 1) (pa_cons pe_str (pa_cons (pe_op op_sub (pe_callB cl_len (by rfl) T.n_len PySem.boot_len (pa_cons (pv 0) pa_nil)) pe_int) pa_nil))))))
 (pss_one (ps_ret pe_bl))
 pss_nil)
 (pss_one (ps_ret (pe_callB (cr_all rfl) (by rfl) T.n_all PyProof.Rows.boot_all (pa_cons (pe_lc (own := [("part", 4), ("inner", 5)]) (g := gTup K 2 (gCons (gName 4) (gCons (gName 5) gNil))) (tt := tYes) rfl sc_holds_each.nd (pi_zipS (by rfl) T.n_zip (pa_cons (pe_slice (show SlR _ (rSlT K) from sl_tup) (pv 0) (po_some pe_int) po_none) (pa_cons (pe_slice (show SlR _ (rSlT K) from sl_tup) (pv 1) (po_some pe_int) po_none) pa_nil)) (pk_cons pe_bl pk_nil)) (blkOk_by (own := [("part", 4), ("inner", 5)]) (N := ["query", "ground", "yes", "held", "part", "inner"]) (sc := defScope s_holds_each) (by decide +kernel)) (fun _ _ _ _ _ => (pg_tup rfl (pgs_cons (pg_name (i := 4) sc_holds_each.nd rfl (.inl rfl)) (pgs_cons (pg_name (i := 5) sc_holds_each.nd rfl (.inl rfl)) pgs_nil)))) (fun _ _ _ _ _ => pts_nil) (fun _ _ _ _ _ => (pe_fn f_holds_ground (hr.mono (by omega)) rfl (pa_cons (pv 4) (pa_cons (pv 5) (pa_cons (pv 2) (pa_cons (pv 3) pa_nil))))))) pa_nil))))), ?_⟩
    wtm_at "w0"
    wtm_at "wp"
    refine w_lenT (.of ht) ?_
    wtm_at "wp"
    have eL : (((V.str kk :: xr).length : Nat) : Int) - 1 = (ps.length : Int) := by rw [List.length_cons, hlen]; omega
    rw [eL]
    refine ⟨vg, "all", ps.length, g, rfl, hR, ?_⟩
    unfold allB at k
    cases e : isGr g "all" ps.length with
    | false =>
      rw [e] at k
      wtm_at "wp"
      exact k _ (.refl _)
    | true =>
      obtain ⟨r, rfl, hr2⟩ := gr_of e
      rw [e] at k
      cases hR with
      | @tup a2 gs _ hg rg => cases rg with
        | @cons v0 _ gr _ r0 rg =>
          cases r0
          have hgl := rg.length
          have hargs : argsD (.tuple (.str "all" :: r)) = r := rfl
          rw [Bool.true_and, hargs] at k
          wtm_at "wp"
          refine w_zipS ?_
          wtm_at "wp"
          refine w_slTd (i := 1) (.of ht) (by decide) (by simp) (fun p4 H4 n4 s4 h4 => ?_)
          wtm_at "wp"
          refine w_slTd (i := 1) (.of (s4 _ _ hg)) (by decide) (by simp) (fun p5 H5 n5 s5 h5 => ?_)
          wtm_at "wp"
          have h4' : H5 p4 = some (.tup xr) := s5 _ _ h4
          have h5' : H5 p5 = some (.tup gr) := h5
          have S5 := s4.trans s5
          refine ⟨p4, p5, xr, gr, rfl, rfl, .of h4', .of h5', ?_⟩
          refine lc_fin (fin_zipS (K := K) (a := p4) (b := p5) (xs := xr) (ys := gr) (by omega)) (fun i acc H' => Same H5 H' ∧ acc = (((ps.zip r).take i).map fun z => hdG n z.1 z.2 yes held).map V.bl) (fun D H2 nD s2 hD => ⟨s2, rfl⟩) (fun i acc H2 _ h => ⟨.of (h.1 _ _ h4'), .of (h.1 _ _ h5')⟩) ?_ ?_
          · rintro D i v acc H6 H7 nD hi hac ⟨s6, e6⟩ hD ⟨tt, x, y, rfl, nT, sT, hT, hx, hy⟩
            obtain ⟨d1, hd1, rx⟩ := hq.rp.at hx
            obtain ⟨d2, hd2, ry⟩ := rg.at hy
            have S6 := S5.trans (s6.trans sT)
            obtain ⟨c, hc⟩ := hq.cs d1 (List.mem_of_getElem? hd1)
            wtm_at "wp"
            refine ⟨rfl, ?_⟩
            wtm_at "wp"
            refine ⟨x, y, hd, n, c, d1, d2, yes, held, rfl, hq.le, rx.same S6, hc, ry.same S6, hh.same S6, fun H8 s8 => ?_⟩
            refine w_acc (s8 _ _ (sT _ _ hD)) hac hi (sz (by omega)) (fun H9 k9 h9 => ⟨k9.same ((s6.trans sT).trans s8) nD, ?_⟩)
            have hz : (ps.zip r)[i]? = some (d1, d2) := List.getElem?_zip_eq_some.mpr ⟨hd1, hd2⟩
            rw [e6, take_succL hz]
            simp
          · rintro D acc H6 nD ⟨s6, e6⟩ hac hD
            rw [List.take_of_length_le (by rw [List.length_zip]; omega)] at e6
            wtm_at "wp"
            refine w_all e6 (.of hD) ?_
            exact k _ (S5.trans s6)
def butB (n : Nat) (a b g : PyData) (yes : Bool) (held : List Str) : Bool := if yes = true then isGr g "but" 2 && (match argsD g with
          | [x, y] => hdG n a x true held && hdG n b y false held
          | _ => false)
        else if isGr g "first" 1 = true then (match argsD g with
          | [x] => hdG n a x false held
          | _ => false)
        else isGr g "second" 1 && (match argsD g with
          | [x] => hdG n b x true held
          | _ => false)
def spBut (K : PySem.W.Frag) (N : Nat) : Sp := fun vs H Q _ => ∃ (t hd : Addr) (vg v1 v2 : V) (a b : PyData) (n c1 c2 : Nat) (g : PyData) (yes : Bool) (held : List Str), vs = [.ref t, vg, .bl yes, .ref hd] ∧ H t = some (.tup [.str "but", v1, v2]) ∧ Rp H v1 a ∧ Rp H v2 b ∧ n ≤ N ∧ cnt n a = some c1 ∧ cnt n b = some c2 ∧ Rp H vg g ∧ HW H hd held ∧ ∀ H', Same H H' → Q (.bl (butB n a b g yes held)) H'
theorem ok_hbut {N k0 : Nat} {f : Addr} {fd : FuncData} (hk0 : 5 ≤ k0) (F : Fun K "holds_but" "holds_but" s_holds_but f fd) (T : Txt K mg Z C_Page C_Broken C_Full C_Gone C_NoFile C_Torn) (f_is_ground : Fn P w K mg base "is_ground" 1 ["thing", "word", "many"] spGr) (f_holds_ground : Fn P w K mg base "holds_ground" k0 ["query", "ground", "yes", "held"] (spHd K N)) : FnOk P w K mg base CX0 (k0 + 1) f fd ["query", "ground", "yes", "held"] (spBut K N) := by
  refine F.ok sc_holds_but (fun vs H Q E h => ?_) (fun cdv A outer s H vs Q E hr h => ?_)
  · obtain ⟨t, hd, vg, v1, v2, a, b, n, c1, c2, g, yes, held, rfl, _⟩ := h
    rfl
  · obtain ⟨t, hd, vg, v1, v2, a, b, n, c1, c2, g, yes, held, rfl, ht, hR1, hR2, hn, hc1, hc2, hR, hh, k⟩ := h
    refine ⟨_, (pss_cons (ps_if (pt_val (pv 2))
 (pss_cons (ps_if (PW.pt (pw_or (pt_not (pt_val (pe_fn f_is_ground (hr.mono (by omega)) rfl (pa_cons (pv 1) (pa_cons pe_str (pa_cons pe_int pa_nil)))))) (pw_or1 (pt_not (pt_val (pe_fn f_holds_ground (hr.mono (by omega)) rfl (pa_cons (pe_ix ix_tup (pv 0) pe_int (fun _ _ => rfl)) (pa_cons (pe_ix ix_tup (pv 1) pe_int (fun _ _ => rfl)) (pa_cons pe_bl (pa_cons (pv 3) pa_nil))))))))))
 (pss_one (ps_ret pe_bl))
 pss_nil)
 (pss_one (ps_ret (pe_fn f_holds_ground (hr.mono (by omega)) rfl (pa_cons (pe_ix ix_tup (pv 0) pe_int (fun _ _ => rfl)) (pa_cons (pe_ix ix_tup (pv 1) pe_int (fun _ _ => rfl)) (pa_cons pe_bl (pa_cons (pv 3) pa_nil))))))))
 pss_nil)
 (pss_cons (ps_if (pt_val (pe_fn f_is_ground (hr.mono (by omega)) rfl (pa_cons (pv 1) (pa_cons pe_str (pa_cons pe_int pa_nil)))))
 (pss_one (ps_ret (pe_fn f_holds_ground (hr.mono (by omega)) rfl (pa_cons (pe_ix ix_tup (pv 0) pe_int (fun _ _ => rfl)) (pa_cons (pe_ix ix_tup (pv 1) pe_int (fun _ _ => rfl)) (pa_cons pe_bl (pa_cons (pv 3) pa_nil)))))))
 pss_nil)
 (pss_one (ps_ret (pe_and (pe_fn f_is_ground (hr.mono (by omega)) rfl (pa_cons (pv 1) (pa_cons pe_str (pa_cons pe_int pa_nil)))) (pe_one (pe_fn f_holds_ground (hr.mono (by omega)) rfl (pa_cons (pe_ix ix_tup (pv 0) pe_int (fun _ _ => rfl)) (pa_cons (pe_ix ix_tup (pv 1) pe_int (fun _ _ => rfl)) (pa_cons pe_bl (pa_cons (pv 3) pa_nil))))))))))), ?_⟩
    wtm_at "w0"
    unfold butB at k
    cases yes with
    | true =>
      rw [if_pos rfl] at k
      wtm_at "wp"
      refine ⟨vg, "but", 2, g, rfl, hR, ?_⟩
      cases e : isGr g "but" 2 with
      | false =>
        rw [e] at k
        wtm_at "wp"
        exact k _ (.refl _)
      | true =>
        obtain ⟨r, rfl, hr2⟩ := gr_of e
        rw [e] at k
        match r, hr2, hR with
        | [x, y], _, hR =>
          have hargs : argsD (.tuple [.str "but", x, y]) = [x, y] := rfl
          rw [Bool.true_and, hargs] at k
          cases hR with
          | tup hg rg => cases rg with
            | cons r0 rg => cases rg with
              | cons r1 rg => cases rg with
                | cons r2 rg =>
                  cases rg
                  wtm_at "wp"
                  refine ⟨v1, _, hd, n, c1, a, x, true, held, rfl, hn, hR1, hc1, r1, hh, fun H1 s1 => ?_⟩
                  have ht1 := s1 _ _ ht
                  have hg1 := s1 _ _ hg
                  cases e1 : hdG n a x true held with
                  | false =>
                    wtm_at "wp"
                    exact (by simpa only [e1, Bool.false_and] using k : ∀ H', Same H H' → Q (.bl false) H') _ s1
                  | true =>
                    wtm_at "wp"
                    refine ⟨v2, _, hd, n, c2, b, y, false, held, rfl, hn, hR2.same s1, hc2, r2.same s1, hh.same s1, fun H2 s2 => ?_⟩
                    exact (by simpa only [e1, Bool.true_and] using k : ∀ H', Same H H' → Q (.bl (hdG n b y false held)) H') _ (s1.trans s2)
    | false =>
      rw [if_neg Bool.false_ne_true] at k
      wtm_at "wp"
      refine ⟨vg, "first", 1, g, rfl, hR, ?_⟩
      cases e : isGr g "first" 1 with
      | true =>
        obtain ⟨r, rfl, hr2⟩ := gr_of e
        rw [if_pos e] at k
        match r, hr2, hR with
        | [x], _, hR =>
          have hargs : argsD (.tuple [.str "first", x]) = [x] := rfl
          rw [hargs] at k
          cases hR with
          | tup hg rg => cases rg with
            | cons r0 rg => cases rg with
              | cons r1 rg =>
                cases rg
                wtm_at "wp"
                exact ⟨v1, _, hd, n, c1, a, x, false, held, rfl, hn, hR1, hc1, r1, hh, k⟩
      | false =>
        rw [if_neg (by rw [e]; exact Bool.false_ne_true)] at k
        wtm_at "wp"
        refine ⟨vg, "second", 1, g, rfl, hR, ?_⟩
        cases e2 : isGr g "second" 1 with
        | false =>
          rw [e2] at k
          wtm_at "wp"
          exact k _ (.refl _)
        | true =>
          obtain ⟨r, rfl, hr2⟩ := gr_of e2
          rw [e2] at k
          match r, hr2, hR with
          | [x], _, hR =>
            have hargs : argsD (.tuple [.str "second", x]) = [x] := rfl
            rw [hargs, Bool.true_and] at k
            cases hR with
            | tup hg rg => cases rg with
              | cons r0 rg => cases rg with
                | cons r1 rg =>
                  cases rg
                  wtm_at "wp"
                  exact ⟨v2, _, hd, n, c2, b, x, true, held, rfl, hn, hR2, hc2, r1, hh, k⟩
theorem ok_hgS {N k0 : Nat} {f DL : Addr} {fd : FuncData} (hk0 : 5 ≤ k0) (F : Fun K "holds_ground" "holds_ground" s_holds_ground f fd) (T : Txt K mg Z C_Page C_Broken C_Full C_Gone C_NoFile C_Torn) (kc_PLAIN_looker : mg "PLAIN_looker" = some (.ref DL)) (kt : ∀ H, SqT K H DL [.str "word", .str "phrase", .str "near"]) (f_is_ground : Fn P w K mg base "is_ground" 1 ["thing", "word", "many"] spGr) (f_holds_at : Fn P w K mg base "holds_at" 4 ["query", "ground", "held"] (spAt K)) (f_has_none : Fn P w K mg base "has_none" 5 ["query", "held"] (spNone K)) (f_holds_but : Fn P w K mg base "holds_but" (k0 + 1) ["query", "ground", "yes", "held"] (spBut K N)) (f_holds_each : Fn P w K mg base "holds_each" (k0 + 1) ["query", "ground", "yes", "held"] (spEach K N)) (f_holds_one : Fn P w K mg base "holds_one" (k0 + 1) ["query", "ground", "word", "yes", "held"] (spOne K N)) : FnOk P w K mg base CX0 (k0 + 2) f fd ["query", "ground", "yes", "held"] (spHd K (N + 1)) := by
  refine F.ok sc_holds_ground (fun vs H Q E h => ?_) (fun cdv A outer s H vs Q E hr h => ?_)
  · obtain ⟨vq, vg, hd, n, m, q, g, yes, held, rfl, _⟩ := h
    rfl
  · obtain ⟨vq, vg, hd, n, m, q, g, yes, held, rfl, hn, hRq, hc, hR, hh, k⟩ := h
    have hn0 : n ≠ 0 := fun z => by rw [z] at hc; cases hc
    obtain ⟨n, rfl⟩ : ∃ j, n = j + 1 := ⟨n - 1, by omega⟩
    have hqo := cnt_inv hc
    obtain ⟨kk, ps, rfl⟩ := qof_head hqo
    cases hRq with
    | @tup t xs _ ht hr' =>
      cases hr' with
      | @cons x0 _ xr _ rx rr =>
        cases rx
        refine ⟨_, (pss_cons (ps_if (PW.pt (pw_and (pt_cmpR op_in_seq (pe_ix ix_tup (pv 0) pe_int (fun _ _ => rfl)) (pe_gcls kc_PLAIN_looker rfl) (by rfl)) (pw_and1 (pt_val (pv 2)))))
 (pss_one (ps_ret (pe_fn f_holds_at (hr.mono (by omega)) rfl (pa_cons (pv 0) (pa_cons (pv 1) (pa_cons (pv 3) pa_nil))))))
 pss_nil)
 (pss_cons (ps_if (pt_cmpR op_in_seq (pe_ix ix_tup (pv 0) pe_int (fun _ _ => rfl)) (pe_gcls kc_PLAIN_looker rfl) (by rfl))
 (pss_one (ps_ret (pe_and (pe_fn f_is_ground (hr.mono (by omega)) rfl (pa_cons (pv 1) (pa_cons pe_str (pa_cons pe_int pa_nil)))) (pe_one (pe_fn f_has_none (hr.mono (by omega)) rfl (pa_cons (pv 0) (pa_cons (pv 3) pa_nil)))))))
 pss_nil)
 (pss_cons (ps_if (pt_cmpR op_eq (pe_ix ix_tup (pv 0) pe_int (fun _ _ => rfl)) pe_str (nomark _))
 (pss_one (ps_ret (pe_fn f_holds_but (hr.mono (by omega)) rfl (pa_cons (pv 0) (pa_cons (pv 1) (pa_cons (pv 2) (pa_cons (pv 3) pa_nil)))))))
 pss_nil)
 (pss_cons (ps_if (pt_cmpR op_eq (pe_cmpR op_eq (pe_ix ix_tup (pv 0) pe_int (fun _ _ => rfl)) pe_str (nomark _)) (pv 2) (nomark _))
 (pss_one (ps_ret (pe_fn f_holds_each (hr.mono (by omega)) rfl (pa_cons (pv 0) (pa_cons (pv 1) (pa_cons (pv 2) (pa_cons (pv 3) pa_nil)))))))
 pss_nil)
 (pss_one (ps_ret (pe_fn f_holds_one (hr.mono (by omega)) rfl (pa_cons (pv 0) (pa_cons (pv 1) (pa_cons (pe_ix ix_list (pe_lst (pa_cons pe_str (pa_cons pe_str pa_nil))) (pe_callTy cl_int (by rfl) T.n_int PyProof.Rows.boot_int (pa_cons (pv 2) pa_nil)) (fun _ _ => rfl)) (pa_cons (pv 2) (pa_cons (pv 3) pa_nil)))))))))))), ?_⟩
        wtm_at "w0"
        wtm_at "wp"
        refine w_inV (.inr (kt _)) rfl rfl ?_
        rw [in_three]
        rcases kindPl hqo with hk | ⟨n1, n2, n3⟩
        · have hp := jn_kind hk
          obtain ⟨hps, hb, l2, l4⟩ := qof_join hqo hk
          rw [decide_eq_false hp]
          wtm_at "wp"
          refine w_inV (.inr (kt _)) rfl rfl ?_
          rw [in_three, decide_eq_false hp]
          wtm_at "wp"
          refine w_dec (fun hkb => ?_) (fun hkb => ?_)
          · have e : kk = "but" := V.str.inj hkb
            subst e
            wtm_at "wp"
            match ps, hb rfl, xr, rr, ht with
            | [a, b], _, [v1, v2], .cons r1 (.cons r2 .nil), ht =>
              obtain ⟨c1, hc1⟩ := hps a (by simp)
              obtain ⟨c2, hc2⟩ := hps b (by simp)
              refine ⟨t, hd, vg, v1, v2, a, b, n, c1, c2, g, yes, held, rfl, ht, r1, r2, by omega, hc1, hc2, hR, hh, fun H' s => ?_⟩
              have := k H' s
              cases yes with
              | true => rw [hdG_butY] at this; exact this
              | false => rw [hdG_butN] at this; exact this
          · have hb' : ¬ kk = "but" := fun z => hkb (by rw [z])
            have hk' : kk = "and" ∨ kk = "or" := by
              rcases hk with a | a | a
              · exact .inl a
              · exact .inr a
              · exact absurd a hb'
            wtm_at "wp"
            have ed : decide (V.str kk = V.str "and") = decide (kk = "and") := by
              rw [decide_eq_decide]
              exact ⟨V.str.inj, fun z => by rw [z]⟩
            rw [ed]
            refine w_dec (fun hy => ?_) (fun hy => ?_)
            · have hy' : decide (kk = "and") = yes := V.bl.inj hy
              wtm_at "wp"
              refine ⟨t, hd, vg, kk, ps, xr, n, g, yes, held, rfl, ⟨ht, rr, hps, l2, l4, by omega⟩, hR, hh, fun H' s => ?_⟩
              have := k H' s
              rw [hdG_all hk' hy'] at this
              exact this
            · have hy' : ¬ decide (kk = "and") = yes := fun z => hy (by rw [z])
              cases yes with
              | true =>
                wtm_at "wp"
                rename_i t4 n4 H4 s4 h4
                refine ⟨t, hd, vg, kk, "some", ps, xr, n, g, true, held, rfl, ⟨s4 _ _ ht, rr.same s4, hps, l2, l4, by omega⟩, hR.same s4, hh.same s4, fun H' s => ?_⟩
                have := k H' (s4.trans s)
                rw [hdG_one hk' hy'] at this
                exact this
              | false =>
                wtm_at "wp"
                rename_i t4 n4 H4 s4 h4
                refine ⟨t, hd, vg, kk, "lacks", ps, xr, n, g, false, held, rfl, ⟨s4 _ _ ht, rr.same s4, hps, l2, l4, by omega⟩, hR.same s4, hh.same s4, fun H' s => ?_⟩
                have := k H' (s4.trans s)
                rw [hdG_one hk' hy'] at this
                exact this
        · have hp := pl_kind hqo n1 n2 n3
          have hq : PlQ H t kk ps xr := ⟨ht, rr, ⟨n, m, hqo⟩, n1, n2, n3⟩
          rw [decide_eq_true hp]
          rw [hdG_pl n1 n2 n3] at k
          wtm_at "wp"
          cases yes with
          | true =>
            rw [if_pos rfl] at k
            wtm_at "wp"
            exact ⟨t, hd, vg, kk, ps, xr, g, held, rfl, hq, hR, hh, k⟩
          | false =>
            rw [if_neg Bool.false_ne_true] at k
            wtm_at "wp"
            refine w_inV (.inr (kt _)) rfl rfl ?_
            rw [in_three, decide_eq_true hp]
            wtm_at "wp"
            refine ⟨vg, "none", 0, g, rfl, hR, ?_⟩
            cases e : isGr g "none" 0 with
            | false =>
              rw [e] at k
              wtm_at "wp"
              exact k _ (.refl _)
            | true =>
              rw [e, Bool.true_and] at k
              wtm_at "wp"
              exact ⟨t, hd, kk, ps, xr, held, rfl, hq, hh, k⟩

end
end K74

namespace K74
section
variable {P : Program} {w : World} {K : PySem.W.Frag} {mg : Str → Option Value} {base : Heap} {Z : Zs} {C_Page C_Broken C_Full C_Gone C_NoFile C_Torn : Addr}
abbrev s_yes_plain : Stmt := topS 49
theorem sc_yes_plain : FnScope ["query", "page", "found"] ["query", "page"] (defScope s_yes_plain) := ⟨rfl, rfl, rfl, by decide +kernel, rfl, by decide +kernel, by decide +kernel⟩
abbrev s_first_of : Stmt := topS 50
theorem sc_first_of : FnScope ["grounds", "word", "which", "ground"] ["grounds", "word"] (defScope s_first_of) := ⟨rfl, rfl, rfl, by decide +kernel, rfl, by decide +kernel, by decide +kernel⟩
abbrev s_all_of : Stmt := topS 51
theorem sc_all_of : FnScope ["grounds"] ["grounds"] (defScope s_all_of) := ⟨rfl, rfl, rfl, by decide +kernel, rfl, by decide +kernel, by decide +kernel⟩
/-! ### grounds told -/
def spYesP (K : PySem.W.Frag) (C : Addr) : Sp := fun vs H Q _ => ∃ (t r : Addr) (k : Str) (ps : List PyData) (xr : List V) (i : Int) (x : Str), vs = [.ref t, .ref r] ∧ PlQ H t k ps xr ∧ PgO C H r i x ∧ ∀ v' H', Same H H' → Rp H' v' (optD (atG k (plcD (.tuple (.str k :: ps)) (wsOf x)))) → Q v' H'
theorem ok_yesp {f : Addr} {fd : FuncData} (F : Fun K "yes_plain" "yes_plain" s_yes_plain f fd) (T : Txt K mg Z C_Page C_Broken C_Full C_Gone C_NoFile C_Torn) (f_places_of : Fn P w K mg base "places_of" 26 ["query", "page"] (spPlcOf K C_Page)) : FnOk P w K mg base CX0 27 f fd ["query", "page"] (spYesP K C_Page) := by
  refine F.ok sc_yes_plain (fun vs H Q E h => ?_) (fun cdv A outer s H vs Q E hr h => ?_)
  · obtain ⟨t, r, k, ps, xr, i, x, rfl, _⟩ := h
    rfl
  · obtain ⟨t, r, kk, ps, xr, i, x, rfl, hq, hp, k⟩ := h
    obtain ⟨n, m, hqo⟩ := hq.q
    obtain ⟨hc1, hm⟩ := pl_cnt hqo hq.n1 hq.n2 hq.n3
    obtain ⟨ds, eds, gds⟩ := plcD_list' (wsOf x) hqo hq.n1 hq.n2 hq.n3
    have ht := hq.at_
    refine ⟨_, (pss_cons (ps_set (i := 2) sc_yes_plain.nd rfl (.inl rfl) (pe_fn f_places_of (hr.mono (by omega)) rfl (pa_cons (pv 0) (pa_cons (pv 1) pa_nil))))
 (pss_cons (ps_if (pt_cmpR (op_eqD hr.units) (pv 2) (pe_lst pa_nil) (nomark _))
 (pss_one (ps_ret pe_non))
 pss_nil)
 (pss_cons (ps_if (pt_cmpR op_eq (pe_ix ix_tup (pv 0) pe_int (fun _ _ => rfl)) pe_str (nomark _))
 (pss_one (ps_ret (pe_tup (pa_cons pe_str (pa_cons (pe_ix ix_tup (pe_ix ix_list (pv 2) pe_int (fun _ _ => rfl)) pe_int (fun _ _ => rfl)) (pa_cons (pe_ix ix_tup (pe_ix ix_list (pv 2) pe_int (fun _ _ => rfl)) pe_int (fun _ _ => rfl)) pa_nil))))))
 pss_nil)
 (pss_one (ps_ret (pe_tup (pa_cons pe_str (pa_cons (pe_ix ix_list (pv 2) pe_int (fun _ _ => rfl)) pa_nil)))))))), ?_⟩
    wtm_at "w0"
    wtm_at "wp"
    refine ⟨_, m, _, r, i, x, rfl, .tup ht (.cons (.str _) hq.rp), hc1, hm, hp, fun v' H1 s1 h1 => ?_⟩
    rw [eds] at h1 k
    cases h1 with
    | @lst l xs _ hl rr =>
      wtm_at "wp"
      rename_i p2 H2 n2 s2 h2
      have rr2 := rr.same s2
      have hl2 := s2 _ _ hl
      have ht2 := s2 _ _ (s1 _ _ ht)
      refine w_eqNilG (.lst (.of hl2) rr2.dp) (.lst (.of h2) .nil) gds (by decide) ?_
      cases ds with
      | nil =>
        wtm_at "wp"
        exact k _ _ (s1.trans s2) .non
      | cons d0 dr =>
        cases rr2 with
        | @cons v0 _ vr _ r0 rr' =>
          wtm_at "wp"
          rcases hq.cases with ⟨fa, a, b, rfl, rfl, rfl, haW, hbW⟩ | ⟨hn, us, rfl, rfl, hne, hul, huW, -⟩
          · have hd0 : d0 ∈ d0 :: dr := List.mem_cons_self
            rw [plcD_near] at eds
            rw [← PyData.list.inj eds] at hd0
            obtain ⟨z, _, rfl⟩ := List.mem_map.mp hd0
            have e : atG "near" (.list (pD z :: dr)) = some (.tuple [.str "at", .int z.1, .int z.2]) := by
              unfold atG
              exact (if_pos rfl).trans rfl
            rw [e] at k
            cases r0 with
            | tup hz rz => cases rz with
              | cons ra rz => cases rz with
                | cons rb rz =>
                  cases rz
                  cases ra
                  cases rb
                  refine iteT' (decide_eq_true rfl) ?_
                  wtm_at "wp"
                  rename_i p3 H3 n3 s3 h3
                  exact k _ _ (s1.trans (s2.trans s3)) (.tup h3 (.cons (.str _) (.cons (.int _) (.cons (.int _) .nil))))
          · have e : atG kk (.list (d0 :: dr)) = some (.tuple [.str "at", d0]) := by
              unfold atG
              exact if_neg hn
            rw [e] at k
            refine iteF' (decide_eq_false (fun z => hn (V.str.inj z))) ?_
            wtm_at "wp"
            rename_i p3 H3 n3 s3 h3
            exact k _ _ (s1.trans (s2.trans s3)) (.tup h3 (.cons (.str _) (.cons (r0.same s3) .nil)))
def spFirst : Sp := fun vs H Q _ => ∃ (l : Addr) (w : Str) (xs : List V) (gs : List (Option PyData)), vs = [.ref l, .str w] ∧ H l = some (.lst xs) ∧ RpAll H xs (gs.map optD) ∧ (∀ o ∈ gs, TupO o) ∧ gs.length ≤ 100 ∧ ∀ v' H', Same H H' → Rp H' v' (optD (fstG w 0 gs)) → Q v' H'
theorem ok_first {f : Addr} {fd : FuncData} (F : Fun K "first_of" "first_of" s_first_of f fd) (T : Txt K mg Z C_Page C_Broken C_Full C_Gone C_NoFile C_Torn) : FnOk P w K mg base CX0 1 f fd ["grounds", "word"] spFirst := by
  refine F.ok sc_first_of (fun vs H Q E h => ?_) (fun cdv A outer s H vs Q E hr h => ?_)
  · obtain ⟨l, w, xs, gs, rfl, _⟩ := h
    rfl
  · obtain ⟨l, w, xs, gs, rfl, hl, rr, hT, hlen, k⟩ := h
    have hxl : xs.length = gs.length := by rw [rr.length, List.length_map]
    refine ⟨_, (pss_cons (ps_for PassesOwn.never rfl (pi_enum (by rfl) T.n_enumerate (pa_cons (pv 0) pa_nil)) (pg_tup rfl (pgs_cons (pg_name (i := 2) sc_first_of.nd rfl (.inl rfl)) (pgs_cons (pg_name (i := 3) sc_first_of.nd rfl (.inl rfl)) pgs_nil)))
 (pss_one (ps_if (pt_cmpR op_isnot0 (pv 3) pe_non (nomark _))
 (pss_one (ps_ret (pe_tup (pa_cons (pv 1) (pa_cons (pv 2) (pa_cons (pv 3) pa_nil))))))
 pss_nil)))
 (pss_one (ps_ret pe_non))), ?_⟩
    wtm_at "w0"
    wtm_at "wp"
    refine for_fin (fin_enum (xs := xs)) (fun i σ H' => ∃ (v2 v3 : Option V), σ = [some (.ref l), some (.str w), v2, v3] ∧ Same H H' ∧ fstG w 0 gs = fstG w i (gs.drop i)) ⟨_, _, rfl, .refl _, rfl⟩ (fun i σ H' _ h => by obtain ⟨_, _, _, h, _⟩ := h; exact .of (h _ _ hl)) ?_ ?_
    · rintro i z σ H2 H3 hi ⟨v2, v3, rfl, s2, e2⟩ ⟨t, x, rfl, nt, st, ht, hx⟩
      have S3 := s2.trans st
      obtain ⟨d, hd, rx⟩ := (rr.same S3).at hx
      rw [List.getElem?_map] at hd
      obtain ⟨o, ho, rfl⟩ := Option.map_eq_some_iff.mp hd
      rw [fst_step ho] at e2
      cases o with
      | none =>
        cases rx
        wtm_at "wp"
        exact ⟨_, _, rfl, S3, e2⟩
      | some g =>
        obtain ⟨ds, rfl⟩ := (hT _ (List.mem_of_getElem? ho) g rfl).1
        cases rx with
        | tup ha ra =>
          wtm_at "wp"
          rename_i p4 H4 n4 s4 h4
          rw [e2] at k
          exact k _ _ (S3.trans s4) (.tup h4 (.cons (.str _) (.cons (.int _) (.cons ((Rp.tup ha ra).same s4) .nil))))
    · rintro σ H2 ⟨v2, v3, rfl, s2, e2⟩
      rw [List.drop_of_length_le (by omega)] at e2
      wtm_at "wp"
      rw [e2] at k
      exact k _ _ s2 .non
def spAll (K : PySem.W.Frag) : Sp := fun vs H Q _ => ∃ (l : Addr) (xs : List V) (gs : List (Option PyData)), vs = [.ref l] ∧ H l = some (.lst xs) ∧ RpAll H xs (gs.map optD) ∧ (∀ o ∈ gs, TupO o) ∧ gs.length ≤ 100 ∧ ∀ v' H', Same H H' → Rp H' v' (optD (allG gs)) → Q v' H'
theorem ok_allof {f : Addr} {fd : FuncData} (F : Fun K "all_of" "all_of" s_all_of f fd) (T : Txt K mg Z C_Page C_Broken C_Full C_Gone C_NoFile C_Torn) : FnOk P w K mg base CX0 1 f fd ["grounds"] (spAll K) := by
  refine F.ok sc_all_of (fun vs H Q E h => ?_) (fun cdv A outer s H vs Q E hr h => ?_)
  · obtain ⟨l, xs, gs, rfl, _⟩ := h
    rfl
  · obtain ⟨l, xs, gs, rfl, hl, rr, hT, hlen, k⟩ := h
    have hxl : xs.length = gs.length := by rw [rr.length, List.length_map]
    refine ⟨_, (pss_one (ps_ret (pe_ifExp (pt_cmpR (op_inD (units65 hr)) pe_non (pv 0) (by rfl)) pe_non (pe_op op_catT (pe_tup (pa_cons pe_str pa_nil)) (pe_callTy cl_tuple (by rfl) T.n_tuple PyProof.Rows.boot_tuple (pa_cons (pv 0) pa_nil)))))), ?_⟩
    wtm_at "w0"
    wtm_at "wp"
    refine w_noneIn (.lst (.of hl) rr.dp) hT ?_
    unfold allG at k
    cases e : gs.all (·.isSome) with
    | false =>
      rw [if_neg (by rw [e]; exact Bool.false_ne_true)] at k
      wtm_at "wp"
      exact k _ _ (.refl _) .non
    | true =>
      rw [if_pos e] at k
      rw [all_map e] at rr
      wtm_at "wp"
      rename_i p3 H3 n3 s3 h3
      refine w_tupOf (.of (s3 _ _ hl)) (fun t9 H9 n9 s9 h9 => ?_)
      refine w_catT (s9 _ _ h3) h9 (by simp) (by simp; omega) (fun o H10 s10 h10 => ?_)
      have S10 := s3.trans (s9.trans s10)
      exact k _ _ S10 (.tup h10 (.cons (.str _) (rr.same S10)))

end
end K74

namespace K74
section
variable {P : Program} {w : World} {K : PySem.W.Frag} {mg : Str → Option Value} {base : Heap} {Z : Zs} {C_Page C_Broken C_Full C_Gone C_NoFile C_Torn : Addr}
abbrev s_yes_ground : Stmt := topS 52
theorem sc_yes_ground : FnScope ["query", "page", "kind", "parts", "one", "other", "part"] ["query", "page"] (defScope s_yes_ground) := ⟨rfl, rfl, rfl, by decide +kernel, rfl, by decide +kernel, by decide +kernel⟩
abbrev s_no_ground : Stmt := topS 53
theorem sc_no_ground : FnScope ["query", "page", "kind", "parts", "one", "other", "part"] ["query", "page"] (defScope s_no_ground) := ⟨rfl, rfl, rfl, by decide +kernel, rfl, by decide +kernel, by decide +kernel⟩
/-! ### grounds told, within one another -/
theorem noLs_opts {gs : List (Option PyData)} : True := trivial
def spGnd (K : PySem.W.Frag) (C : Addr) (yes : Bool) (N : Nat) : Sp := fun vs H Q _ => ∃ (v : V) (r : Addr) (n m : Nat) (d : PyData) (i : Int) (x : Str), vs = [v, .ref r] ∧ n ≤ N ∧ Rp H v d ∧ cnt n d = some m ∧ PgO C H r i x ∧ ∀ v' H', Same H H' → Rp H' v' (optD (grG yes n d (wsOf x))) → Q v' H'
theorem spGnd0 {K : PySem.W.Frag} {C : Addr} {yes : Bool} : ∀ vs H Q E, ¬ spGnd K C yes 0 vs H Q E := fun vs H Q E ⟨_, _, n, m, _, _, _, _, hn, _, hc, _⟩ => by
  have : n = 0 := by omega
  rw [this] at hc
  cases hc
theorem ok_ygS {N k0 : Nat} {f DL : Addr} {fd : FuncData} (hk0 : 27 ≤ k0) (hN : N ≤ 10) (F : Fun K "yes_ground" "yes_ground" s_yes_ground f fd) (T : Txt K mg Z C_Page C_Broken C_Full C_Gone C_NoFile C_Torn) (kc_PLAIN_grounds : mg "PLAIN_grounds" = some (.ref DL)) (kt : ∀ H, SqT K H DL [.str "word", .str "phrase", .str "near"]) (f_all_of : Fn P w K mg base "all_of" 1 ["grounds"] (spAll K)) (f_first_of : Fn P w K mg base "first_of" 1 ["grounds", "word"] spFirst) (f_yes_ground : Fn P w K mg base "yes_ground" k0 ["query", "page"] (spGnd K C_Page true N)) (f_no_ground : Fn P w K mg base "no_ground" k0 ["query", "page"] (spGnd K C_Page false N)) (f_yes_plain : Fn P w K mg base "yes_plain" 27 ["query", "page"] (spYesP K C_Page)) : FnOk P w K mg base CX0 (k0 + 1) f fd ["query", "page"] (spGnd K C_Page true (N + 1)) := by
  refine F.ok sc_yes_ground (fun vs H Q E h => ?_) (fun cdv A outer s H vs Q E hr h => ?_)
  · obtain ⟨v, r, n, m, d, i, x, rfl, _⟩ := h
    rfl
  · obtain ⟨v, r, n, m, d, i, x, rfl, hn, hR, hc, hp, k⟩ := h
    have hn0 : n ≠ 0 := fun z => by rw [z] at hc; cases hc
    obtain ⟨n, rfl⟩ : ∃ j, n = j + 1 := ⟨n - 1, by omega⟩
    have hqo := cnt_inv hc
    obtain ⟨kk, ps, rfl⟩ := qof_head hqo
    have hR0 := hR
    cases hR with
    | @tup a xs _ ha hr' =>
      cases hr' with
      | @cons x0 _ xr _ rx rr =>
        cases rx
        have hlen := rr.length
        refine ⟨_, (pss_cons (ps_asg (pv 0) (pg_star (k := 1) (after := 0) rfl (pgs_cons (pg_name (i := 2) sc_yes_ground.nd rfl (.inl rfl)) (pgs_star (pg_name (i := 3) sc_yes_ground.nd rfl (.inl rfl)) pgs_nil))))
 (pss_cons (ps_if (pt_cmpR op_in_seq (pv 2) (pe_gcls kc_PLAIN_grounds rfl) (by rfl))
 (pss_one (ps_ret (pe_fn f_yes_plain (hr.mono (by omega)) rfl (pa_cons (pv 0) (pa_cons (pv 1) pa_nil)))))
 pss_nil)
 (pss_cons (ps_if (pt_cmpR op_eq (pv 2) pe_str (nomark _))
 (pss_one (ps_ret (pe_fn f_all_of (hr.mono (by omega)) rfl (pa_cons (pe_lc (own := [("part", 6)]) (g := gName 6) (tt := tYes) rfl sc_yes_ground.nd (show PI _ _ _ (iList K _) from (pi_list (pv 3))) (blkOk_by (own := [("part", 6)]) (N := ["query", "page", "kind", "parts", "one", "other", "part"]) (sc := defScope s_yes_ground) (by decide +kernel)) (fun _ _ _ _ _ => pg_name (i := 6) sc_yes_ground.nd rfl (Or.inl rfl)) (fun _ _ _ _ _ => pts_nil) (fun _ _ _ _ _ => (pe_fn f_yes_ground (hr.mono (by omega)) rfl (pa_cons (pv 6) (pa_cons (pv 1) pa_nil))))) pa_nil))))
 pss_nil)
 (pss_cons (ps_if (pt_cmpR op_eq (pv 2) pe_str (nomark _))
 (pss_one (ps_ret (pe_fn f_first_of (hr.mono (by omega)) rfl (pa_cons (pe_lc (own := [("part", 6)]) (g := gName 6) (tt := tYes) rfl sc_yes_ground.nd (show PI _ _ _ (iList K _) from (pi_list (pv 3))) (blkOk_by (own := [("part", 6)]) (N := ["query", "page", "kind", "parts", "one", "other", "part"]) (sc := defScope s_yes_ground) (by decide +kernel)) (fun _ _ _ _ _ => pg_name (i := 6) sc_yes_ground.nd rfl (Or.inl rfl)) (fun _ _ _ _ _ => pts_nil) (fun _ _ _ _ _ => (pe_fn f_yes_ground (hr.mono (by omega)) rfl (pa_cons (pv 6) (pa_cons (pv 1) pa_nil))))) (pa_cons pe_str pa_nil)))))
 pss_nil)
 (pss_cons (ps_par (i := 4) (j := 5) (by rfl) sc_yes_ground.nd rfl rfl (by decide) rfl rfl (pa_cons (pe_fn f_yes_ground (hr.mono (by omega)) rfl (pa_cons (pe_ix ix_list (pv 3) pe_int (fun _ _ => rfl)) (pa_cons (pv 1) pa_nil))) (pa_cons (pe_fn f_no_ground (hr.mono (by omega)) rfl (pa_cons (pe_ix ix_list (pv 3) pe_int (fun _ _ => rfl)) (pa_cons (pv 1) pa_nil))) pa_nil)) (by rfl))
 (pss_one (ps_ret (pe_ifExp (PW.pt (pw_or (pt_cmpR op_is0 (pv 4) pe_non (nomark _)) (pw_or1 (pt_cmpR op_is0 (pv 5) pe_non (nomark _))))) pe_non (pe_tup (pa_cons pe_str (pa_cons (pv 4) (pa_cons (pv 5) pa_nil)))))))))))), ?_⟩
        wtm_at "w0"
        wtm_at "wp"
        refine ⟨a, _, rfl, .inl (.of ha), by simp, fun p2 n2 => ?_⟩
        generalize eN : upd H p2 _ = H2
        have s2 := same_gen n2 eN
        have hp2 := at_gen eN
        clear eN
        simp only [List.length_cons, List.take_succ_cons, List.take_zero, List.drop_succ_cons, List.drop_zero, List.cons_append, List.nil_append, Nat.add_sub_cancel, Nat.sub_zero] at hp2 ⊢
        rw [List.drop_of_length_le (Nat.le_refl _)]
        rw [List.take_of_length_le (Nat.le_refl _)] at hp2
        have rr2 := rr.same s2
        have pg2 := hp.same s2
        have ha2 := s2 _ _ ha
        wtm_at "wp"
        refine w_inV (.inr (kt _)) rfl rfl ?_
        rw [in_three]
        rcases kindPl hqo with hk | ⟨n1, n2', n3⟩
        · have hpk := jn_kind hk
          obtain ⟨hps, hb, l2, l4⟩ := qof_join hqo hk
          rw [decide_eq_false hpk]
          wtm_at "wp"
          refine w_dec (fun hka => ?_) (fun hka => ?_)
          · have e : kk = "and" := V.str.inj hka
            subst e
            wtm_at "wp"
            refine lc_fin (fin_list (xs := xr)) (fun j acc H' => Same H2 H' ∧ RpAll H' acc ((ps.take j).map fun p => optD (grG true n p (wsOf x)))) (fun D H2 nD s2 hD => ⟨s2, .nil⟩) (fun j acc H2 _ h => .of (h.1 _ _ hp2)) ?_ ?_
            · rintro D j v acc H3 H4 nD hj hac ⟨s3, r3⟩ hD ⟨rfl, hv⟩
              obtain ⟨dd, g1, g2⟩ := rr2.at hv
              obtain ⟨c, hc'⟩ := hps dd (List.mem_of_getElem? g1)
              wtm_at "wp"
              refine ⟨rfl, ?_⟩
              wtm_at "wp"
              refine ⟨v, r, n, c, dd, i, x, rfl, by omega, g2.same s3, hc', pg2.same s3, fun v' H5 s5 r5 => ?_⟩
              refine w_acc (s5 _ _ hD) hac hj (sz (by omega)) (fun H6 k6 h6 => ⟨k6.same (s3.trans s5) nD, ?_⟩)
              rw [take_succL g1, List.map_append]
              have tk : TupK H5 H6 := TupK.kb k6 (s5 _ _ hD)
              exact (((r3.same s5).tupk tk (noLs_grs fun p hp => hps p (List.mem_of_mem_take hp))).append (.cons (r5.tupk tk (noL_gr hc')) .nil))
            · rintro D acc H3 nD ⟨s3, r3⟩ hac hD
              rw [hlen, List.take_length] at r3
              have hgs : (ps.map fun p => optD (grG true n p (wsOf x))) = (ps.map fun p => grG true n p (wsOf x)).map optD := by rw [List.map_map]; rfl
              rw [hgs] at r3
              wtm_at "wp"
              refine ⟨D, _, _, rfl, hD, r3, fun o ho => ?_, by rw [List.length_map]; omega, fun v' H4 s4 r4 => ?_⟩
              · obtain ⟨p, hp, rfl⟩ := List.mem_map.mp ho
                obtain ⟨c, hc'⟩ := hps p hp
                exact gr_tupO hc' (by omega)
              · exact k _ _ (s2.trans (s3.trans s4)) (by rw [grG_andY]; exact r4)
          have hna : ¬ kk = "and" := fun z => hka (by rw [z])
          wtm_at "wp"
          refine w_dec (fun hko => ?_) (fun hko => ?_)
          · have e : kk = "or" := V.str.inj hko
            subst e
            wtm_at "wp"
            refine lc_fin (fin_list (xs := xr)) (fun j acc H' => Same H2 H' ∧ RpAll H' acc ((ps.take j).map fun p => optD (grG true n p (wsOf x)))) (fun D H2 nD s2 hD => ⟨s2, .nil⟩) (fun j acc H2 _ h => .of (h.1 _ _ hp2)) ?_ ?_
            · rintro D j v acc H3 H4 nD hj hac ⟨s3, r3⟩ hD ⟨rfl, hv⟩
              obtain ⟨dd, g1, g2⟩ := rr2.at hv
              obtain ⟨c, hc'⟩ := hps dd (List.mem_of_getElem? g1)
              wtm_at "wp"
              refine ⟨rfl, ?_⟩
              wtm_at "wp"
              refine ⟨v, r, n, c, dd, i, x, rfl, by omega, g2.same s3, hc', pg2.same s3, fun v' H5 s5 r5 => ?_⟩
              refine w_acc (s5 _ _ hD) hac hj (sz (by omega)) (fun H6 k6 h6 => ⟨k6.same (s3.trans s5) nD, ?_⟩)
              rw [take_succL g1, List.map_append]
              have tk : TupK H5 H6 := TupK.kb k6 (s5 _ _ hD)
              exact (((r3.same s5).tupk tk (noLs_grs fun p hp => hps p (List.mem_of_mem_take hp))).append (.cons (r5.tupk tk (noL_gr hc')) .nil))
            · rintro D acc H3 nD ⟨s3, r3⟩ hac hD
              rw [hlen, List.take_length] at r3
              have hgs : (ps.map fun p => optD (grG true n p (wsOf x))) = (ps.map fun p => grG true n p (wsOf x)).map optD := by rw [List.map_map]; rfl
              rw [hgs] at r3
              wtm_at "wp"
              refine ⟨D, "some", _, _, rfl, hD, r3, fun o ho => ?_, by rw [List.length_map]; omega, fun v' H4 s4 r4 => ?_⟩
              · obtain ⟨p, hp, rfl⟩ := List.mem_map.mp ho
                obtain ⟨c, hc'⟩ := hps p hp
                exact gr_tupO hc' (by omega)
              · exact k _ _ (s2.trans (s3.trans s4)) (by rw [grG_orY]; exact r4)
          have hno : ¬ kk = "or" := fun z => hko (by rw [z])
          have e : kk = "but" := by
            rcases hk with z | z | z
            · exact absurd z hna
            · exact absurd z hno
            · exact z
          subst e
          match ps, hb rfl, xr, rr2, hp2, hlen with
          | [a', b'], _, [v1, v2], .cons r1 (.cons r2 .nil), hp2, _ =>
            obtain ⟨c1, hc1⟩ := hps a' (by simp)
            obtain ⟨c2, hc2⟩ := hps b' (by simp)
            wtm_at "wp"
            refine ⟨v1, r, n, c1, a', i, x, rfl, by omega, r1, hc1, pg2, fun w1 H3 s3 g1 => ?_⟩
            have hp3 := s3 _ _ hp2
            wtm_at "wp"
            refine ⟨v2, r, n, c2, b', i, x, rfl, by omega, r2.same s3, hc2, pg2.same s3, fun w2 H4 s4 g2 => ?_⟩
            have S4 := s2.trans (s3.trans s4)
            rw [grG_butY] at k
            cases e1 : grG true n a' (wsOf x) with
            | none =>
              rw [e1] at g1 k
              cases g1
              wtm_at "wp"
              exact k _ _ S4 .non
            | some x1 =>
              obtain ⟨ds1, rfl⟩ := (gr_good hc1 e1).1
              rw [e1] at g1 k
              cases g1 with
              | tup h1 q1 =>
                cases e2 : grG false n b' (wsOf x) with
                | none =>
                  rw [e2] at g2 k
                  cases g2
                  wtm_at "wp"
                  exact k _ _ S4 .non
                | some x2 =>
                  obtain ⟨ds2, rfl⟩ := (gr_good hc2 e2).1
                  rw [e2] at g2 k
                  cases g2 with
                  | tup h2 q2 =>
                    wtm_at "wp"
                    rename_i p5 H5 n5 s5 h5
                    exact k _ _ (S4.trans s5) (.tup h5 (.cons (.str _) (.cons (((Rp.tup h1 q1).same s4).same s5) (.cons ((Rp.tup h2 q2).same s5) .nil))))
        · have hpk := pl_kind hqo n1 n2' n3
          have hq : PlQ H2 a kk ps xr := ⟨ha2, rr2, ⟨n, m, hqo⟩, n1, n2', n3⟩
          rw [decide_eq_true hpk]
          rw [grG_pl n1 n2' n3] at k
          wtm_at "wp"
          rw [if_pos rfl] at k
          exact ⟨a, r, kk, ps, xr, i, x, rfl, hq, pg2, fun v' H3 s3 r3 => k v' H3 (s2.trans s3) r3⟩
theorem ok_ngS {N k0 : Nat} {f DL : Addr} {fd : FuncData} (hk0 : 27 ≤ k0) (hN : N ≤ 10) (F : Fun K "no_ground" "no_ground" s_no_ground f fd) (T : Txt K mg Z C_Page C_Broken C_Full C_Gone C_NoFile C_Torn) (kc_PLAIN_grounds : mg "PLAIN_grounds" = some (.ref DL)) (kt : ∀ H, SqT K H DL [.str "word", .str "phrase", .str "near"]) (f_all_of : Fn P w K mg base "all_of" 1 ["grounds"] (spAll K)) (f_first_of : Fn P w K mg base "first_of" 1 ["grounds", "word"] spFirst) (f_yes_ground : Fn P w K mg base "yes_ground" k0 ["query", "page"] (spGnd K C_Page true N)) (f_no_ground : Fn P w K mg base "no_ground" k0 ["query", "page"] (spGnd K C_Page false N)) (f_places_of : Fn P w K mg base "places_of" 26 ["query", "page"] (spPlcOf K C_Page)) : FnOk P w K mg base CX0 (k0 + 1) f fd ["query", "page"] (spGnd K C_Page false (N + 1)) := by
  refine F.ok sc_no_ground (fun vs H Q E h => ?_) (fun cdv A outer s H vs Q E hr h => ?_)
  · obtain ⟨v, r, n, m, d, i, x, rfl, _⟩ := h
    rfl
  · obtain ⟨v, r, n, m, d, i, x, rfl, hn, hR, hc, hp, k⟩ := h
    have hn0 : n ≠ 0 := fun z => by rw [z] at hc; cases hc
    obtain ⟨n, rfl⟩ : ∃ j, n = j + 1 := ⟨n - 1, by omega⟩
    have hqo := cnt_inv hc
    obtain ⟨kk, ps, rfl⟩ := qof_head hqo
    have hR0 := hR
    cases hR with
    | @tup a xs _ ha hr' =>
      cases hr' with
      | @cons x0 _ xr _ rx rr =>
        cases rx
        have hlen := rr.length
        refine ⟨_, (pss_cons (ps_asg (pv 0) (pg_star (k := 1) (after := 0) rfl (pgs_cons (pg_name (i := 2) sc_no_ground.nd rfl (.inl rfl)) (pgs_star (pg_name (i := 3) sc_no_ground.nd rfl (.inl rfl)) pgs_nil))))
 (pss_cons (ps_if (pt_cmpR op_in_seq (pv 2) (pe_gcls kc_PLAIN_grounds rfl) (by rfl))
 (pss_one (ps_ret (pe_ifExp (pt_cmpR (op_eqD hr.units) (pe_fn f_places_of (hr.mono (by omega)) rfl (pa_cons (pv 0) (pa_cons (pv 1) pa_nil))) (pe_lst pa_nil) (nomark _)) (pe_tup (pa_cons pe_str pa_nil)) pe_non)))
 pss_nil)
 (pss_cons (ps_if (pt_cmpR op_eq (pv 2) pe_str (nomark _))
 (pss_one (ps_ret (pe_fn f_first_of (hr.mono (by omega)) rfl (pa_cons (pe_lc (own := [("part", 6)]) (g := gName 6) (tt := tYes) rfl sc_no_ground.nd (show PI _ _ _ (iList K _) from (pi_list (pv 3))) (blkOk_by (own := [("part", 6)]) (N := ["query", "page", "kind", "parts", "one", "other", "part"]) (sc := defScope s_no_ground) (by decide +kernel)) (fun _ _ _ _ _ => pg_name (i := 6) sc_no_ground.nd rfl (Or.inl rfl)) (fun _ _ _ _ _ => pts_nil) (fun _ _ _ _ _ => (pe_fn f_no_ground (hr.mono (by omega)) rfl (pa_cons (pv 6) (pa_cons (pv 1) pa_nil))))) (pa_cons pe_str pa_nil)))))
 pss_nil)
 (pss_cons (ps_if (pt_cmpR op_eq (pv 2) pe_str (nomark _))
 (pss_one (ps_ret (pe_fn f_all_of (hr.mono (by omega)) rfl (pa_cons (pe_lc (own := [("part", 6)]) (g := gName 6) (tt := tYes) rfl sc_no_ground.nd (show PI _ _ _ (iList K _) from (pi_list (pv 3))) (blkOk_by (own := [("part", 6)]) (N := ["query", "page", "kind", "parts", "one", "other", "part"]) (sc := defScope s_no_ground) (by decide +kernel)) (fun _ _ _ _ _ => pg_name (i := 6) sc_no_ground.nd rfl (Or.inl rfl)) (fun _ _ _ _ _ => pts_nil) (fun _ _ _ _ _ => (pe_fn f_no_ground (hr.mono (by omega)) rfl (pa_cons (pv 6) (pa_cons (pv 1) pa_nil))))) pa_nil))))
 pss_nil)
 (pss_cons (ps_set (i := 4) sc_no_ground.nd rfl (.inl rfl) (pe_fn f_no_ground (hr.mono (by omega)) rfl (pa_cons (pe_ix ix_list (pv 3) pe_int (fun _ _ => rfl)) (pa_cons (pv 1) pa_nil))))
 (pss_cons (ps_if (pt_cmpR op_isnot0 (pv 4) pe_non (nomark _))
 (pss_one (ps_ret (pe_tup (pa_cons pe_str (pa_cons (pv 4) pa_nil)))))
 pss_nil)
 (pss_cons (ps_set (i := 5) sc_no_ground.nd rfl (.inl rfl) (pe_fn f_yes_ground (hr.mono (by omega)) rfl (pa_cons (pe_ix ix_list (pv 3) pe_int (fun _ _ => rfl)) (pa_cons (pv 1) pa_nil))))
 (pss_one (ps_ret (pe_ifExp (pt_cmpR op_is0 (pv 5) pe_non (nomark _)) pe_non (pe_tup (pa_cons pe_str (pa_cons (pv 5) pa_nil))))))))))))), ?_⟩
        wtm_at "w0"
        wtm_at "wp"
        refine ⟨a, _, rfl, .inl (.of ha), by simp, fun p2 n2 => ?_⟩
        generalize eN : upd H p2 _ = H2
        have s2 := same_gen n2 eN
        have hp2 := at_gen eN
        clear eN
        simp only [List.length_cons, List.take_succ_cons, List.take_zero, List.drop_succ_cons, List.drop_zero, List.cons_append, List.nil_append, Nat.add_sub_cancel, Nat.sub_zero] at hp2 ⊢
        rw [List.drop_of_length_le (Nat.le_refl _)]
        rw [List.take_of_length_le (Nat.le_refl _)] at hp2
        have rr2 := rr.same s2
        have pg2 := hp.same s2
        have ha2 := s2 _ _ ha
        wtm_at "wp"
        refine w_inV (.inr (kt _)) rfl rfl ?_
        rw [in_three]
        rcases kindPl hqo with hk | ⟨n1, n2', n3⟩
        · have hpk := jn_kind hk
          obtain ⟨hps, hb, l2, l4⟩ := qof_join hqo hk
          rw [decide_eq_false hpk]
          wtm_at "wp"
          refine w_dec (fun hka => ?_) (fun hka => ?_)
          · have e : kk = "and" := V.str.inj hka
            subst e
            wtm_at "wp"
            refine lc_fin (fin_list (xs := xr)) (fun j acc H' => Same H2 H' ∧ RpAll H' acc ((ps.take j).map fun p => optD (grG false n p (wsOf x)))) (fun D H2 nD s2 hD => ⟨s2, .nil⟩) (fun j acc H2 _ h => .of (h.1 _ _ hp2)) ?_ ?_
            · rintro D j v acc H3 H4 nD hj hac ⟨s3, r3⟩ hD ⟨rfl, hv⟩
              obtain ⟨dd, g1, g2⟩ := rr2.at hv
              obtain ⟨c, hc'⟩ := hps dd (List.mem_of_getElem? g1)
              wtm_at "wp"
              refine ⟨rfl, ?_⟩
              wtm_at "wp"
              refine ⟨v, r, n, c, dd, i, x, rfl, by omega, g2.same s3, hc', pg2.same s3, fun v' H5 s5 r5 => ?_⟩
              refine w_acc (s5 _ _ hD) hac hj (sz (by omega)) (fun H6 k6 h6 => ⟨k6.same (s3.trans s5) nD, ?_⟩)
              rw [take_succL g1, List.map_append]
              have tk : TupK H5 H6 := TupK.kb k6 (s5 _ _ hD)
              exact (((r3.same s5).tupk tk (noLs_grs fun p hp => hps p (List.mem_of_mem_take hp))).append (.cons (r5.tupk tk (noL_gr hc')) .nil))
            · rintro D acc H3 nD ⟨s3, r3⟩ hac hD
              rw [hlen, List.take_length] at r3
              have hgs : (ps.map fun p => optD (grG false n p (wsOf x))) = (ps.map fun p => grG false n p (wsOf x)).map optD := by rw [List.map_map]; rfl
              rw [hgs] at r3
              wtm_at "wp"
              refine ⟨D, "lacks", _, _, rfl, hD, r3, fun o ho => ?_, by rw [List.length_map]; omega, fun v' H4 s4 r4 => ?_⟩
              · obtain ⟨p, hp, rfl⟩ := List.mem_map.mp ho
                obtain ⟨c, hc'⟩ := hps p hp
                exact gr_tupO hc' (by omega)
              · exact k _ _ (s2.trans (s3.trans s4)) (by rw [grG_andN]; exact r4)
          have hna : ¬ kk = "and" := fun z => hka (by rw [z])
          wtm_at "wp"
          refine w_dec (fun hko => ?_) (fun hko => ?_)
          · have e : kk = "or" := V.str.inj hko
            subst e
            wtm_at "wp"
            refine lc_fin (fin_list (xs := xr)) (fun j acc H' => Same H2 H' ∧ RpAll H' acc ((ps.take j).map fun p => optD (grG false n p (wsOf x)))) (fun D H2 nD s2 hD => ⟨s2, .nil⟩) (fun j acc H2 _ h => .of (h.1 _ _ hp2)) ?_ ?_
            · rintro D j v acc H3 H4 nD hj hac ⟨s3, r3⟩ hD ⟨rfl, hv⟩
              obtain ⟨dd, g1, g2⟩ := rr2.at hv
              obtain ⟨c, hc'⟩ := hps dd (List.mem_of_getElem? g1)
              wtm_at "wp"
              refine ⟨rfl, ?_⟩
              wtm_at "wp"
              refine ⟨v, r, n, c, dd, i, x, rfl, by omega, g2.same s3, hc', pg2.same s3, fun v' H5 s5 r5 => ?_⟩
              refine w_acc (s5 _ _ hD) hac hj (sz (by omega)) (fun H6 k6 h6 => ⟨k6.same (s3.trans s5) nD, ?_⟩)
              rw [take_succL g1, List.map_append]
              have tk : TupK H5 H6 := TupK.kb k6 (s5 _ _ hD)
              exact (((r3.same s5).tupk tk (noLs_grs fun p hp => hps p (List.mem_of_mem_take hp))).append (.cons (r5.tupk tk (noL_gr hc')) .nil))
            · rintro D acc H3 nD ⟨s3, r3⟩ hac hD
              rw [hlen, List.take_length] at r3
              have hgs : (ps.map fun p => optD (grG false n p (wsOf x))) = (ps.map fun p => grG false n p (wsOf x)).map optD := by rw [List.map_map]; rfl
              rw [hgs] at r3
              wtm_at "wp"
              refine ⟨D, _, _, rfl, hD, r3, fun o ho => ?_, by rw [List.length_map]; omega, fun v' H4 s4 r4 => ?_⟩
              · obtain ⟨p, hp, rfl⟩ := List.mem_map.mp ho
                obtain ⟨c, hc'⟩ := hps p hp
                exact gr_tupO hc' (by omega)
              · exact k _ _ (s2.trans (s3.trans s4)) (by rw [grG_orN]; exact r4)
          have hno : ¬ kk = "or" := fun z => hko (by rw [z])
          have e : kk = "but" := by
            rcases hk with z | z | z
            · exact absurd z hna
            · exact absurd z hno
            · exact z
          subst e
          match ps, hb rfl, xr, rr2, hp2, hlen with
          | [a', b'], _, [v1, v2], .cons r1 (.cons r2 .nil), hp2, _ =>
            obtain ⟨c1, hc1⟩ := hps a' (by simp)
            obtain ⟨c2, hc2⟩ := hps b' (by simp)
            wtm_at "wp"
            refine ⟨v1, r, n, c1, a', i, x, rfl, by omega, r1, hc1, pg2, fun w1 H3 s3 g1 => ?_⟩
            have hp3 := s3 _ _ hp2
            rw [grG_butN] at k
            cases e1 : grG false n a' (wsOf x) with
            | some x1 =>
              obtain ⟨ds1, rfl⟩ := (gr_good hc1 e1).1
              rw [e1] at g1 k
              cases g1 with
              | tup h1 q1 =>
                wtm_at "wp"
                rename_i p5 H5 n5 s5 h5
                exact k _ _ (s2.trans (s3.trans s5)) (.tup h5 (.cons (.str _) (.cons ((Rp.tup h1 q1).same s5) .nil)))
            | none =>
              rw [e1] at g1 k
              cases g1
              wtm_at "wp"
              refine ⟨v2, r, n, c2, b', i, x, rfl, by omega, r2.same s3, hc2, pg2.same s3, fun w2 H4 s4 g2 => ?_⟩
              have S4 := s2.trans (s3.trans s4)
              cases e2 : grG true n b' (wsOf x) with
              | none =>
                rw [e2] at g2 k
                cases g2
                wtm_at "wp"
                exact k _ _ S4 .non
              | some x2 =>
                obtain ⟨ds2, rfl⟩ := (gr_good hc2 e2).1
                rw [e2] at g2 k
                cases g2 with
                | tup h2 q2 =>
                  wtm_at "wp"
                  rename_i p5 H5 n5 s5 h5
                  exact k _ _ (S4.trans s5) (.tup h5 (.cons (.str _) (.cons ((Rp.tup h2 q2).same s5) .nil)))
        · have hpk := pl_kind hqo n1 n2' n3
          have hq : PlQ H2 a kk ps xr := ⟨ha2, rr2, ⟨n, m, hqo⟩, n1, n2', n3⟩
          rw [decide_eq_true hpk]
          rw [grG_pl n1 n2' n3] at k
          wtm_at "wp"
          rw [if_neg Bool.false_ne_true] at k
          obtain ⟨hc1, hm⟩ := pl_cnt hqo n1 n2' n3
          obtain ⟨ds, eds, gds⟩ := plcD_list' (wsOf x) hqo n1 n2' n3
          refine ⟨_, m, _, r, i, x, rfl, hR0.same s2, hc1, hm, pg2, fun v' H3 s3 h3 => ?_⟩
          rw [eds] at h3 k
          cases h3 with
          | @lst l ys _ hl rr3 =>
            wtm_at "wp"
            rename_i p4 H4 n4 s4 h4
            refine w_eqNilG (.lst (.of (s4 _ _ hl)) (rr3.same s4).dp) (.lst (.of h4) .nil) gds (by decide) ?_
            have S4 := s2.trans (s3.trans s4)
            cases ds with
            | nil =>
              wtm_at "wp"
              rename_i p5 H5 n5 s5 h5
              exact k _ _ (S4.trans s5) (.tup h5 (.cons (.str _) .nil))
            | cons d0 dr =>
              wtm_at "wp"
              exact k _ _ S4 .non

end
end K74

namespace K74
section
variable {P : Program} {w : World} {K : PySem.W.Frag} {mg : Str → Option Value} {base : Heap} {Z : Zs} {C_Page C_Broken C_Full C_Gone C_NoFile C_Torn : Addr}
abbrev s_paper_of : Stmt := topS 54
theorem sc_paper_of : FnScope ["query", "page", "ground"] ["query", "page"] (defScope s_paper_of) := ⟨rfl, rfl, rfl, by decide +kernel, rfl, by decide +kernel, by decide +kernel⟩
abbrev s_holds : Stmt := topS 73
theorem sc_holds : FnScope ["paper", "page", "word", "query", "ground"] ["paper", "page"] (defScope s_holds) := ⟨rfl, rfl, rfl, by decide +kernel, rfl, by decide +kernel, by decide +kernel⟩
/-! ### papers -/
def spPaper (K : PySem.W.Frag) (C : Addr) : Sp := fun vs H Q _ => ∃ (v : V) (r : Addr) (m : Nat) (d : PyData) (i : Int) (x : Str), vs = [v, .ref r] ∧ Rp H v d ∧ cnt 5 d = some m ∧ m ≤ 12 ∧ PgO C H r i x ∧
  ∀ t vg g H', Same H H' → H' t = some (.tup [.str (if hasQ 5 d (wsOf x) = true then "yes" else "no"), v, vg]) → Rp H' vg g → grG (hasQ 5 d (wsOf x)) 5 d (wsOf x) = some g → Q (.ref t) H'
theorem ok_paper {f : Addr} {fd : FuncData} (F : Fun K "paper_of" "paper_of" s_paper_of f fd) (T : Txt K mg Z C_Page C_Broken C_Full C_Gone C_NoFile C_Torn) (f_look_query : Fn P w K mg base "look_query" 25 ["thing"] (spLookQ K)) (f_yes_ground : Fn P w K mg base "yes_ground" 32 ["query", "page"] (spGnd K C_Page true 5)) (f_no_ground : Fn P w K mg base "no_ground" 32 ["query", "page"] (spGnd K C_Page false 5)) : FnOk P w K mg base CX0 33 f fd ["query", "page"] (spPaper K C_Page) := by
  refine F.ok sc_paper_of (fun vs H Q E h => ?_) (fun cdv A outer s H vs Q E hr h => ?_)
  · obtain ⟨v, r, m, d, i, x, rfl, _⟩ := h
    rfl
  · obtain ⟨v, r, m, d, i, x, rfl, hR, hc, hm, hp, k⟩ := h
    refine ⟨_, (pss_cons (ps_expr (pe_fn f_look_query (hr.mono (by omega)) rfl (pa_cons (pv 0) pa_nil)))
 (pss_cons (ps_set (i := 2) sc_paper_of.nd rfl (.inl rfl) (pe_fn f_yes_ground (hr.mono (by omega)) rfl (pa_cons (pv 0) (pa_cons (pv 1) pa_nil))))
 (pss_cons (ps_if (pt_cmpR op_isnot0 (pv 2) pe_non (nomark _))
 (pss_one (ps_ret (pe_tup (pa_cons pe_str (pa_cons (pv 0) (pa_cons (pv 2) pa_nil))))))
 pss_nil)
 (pss_one (ps_ret (pe_tup (pa_cons pe_str (pa_cons (pv 0) (pa_cons (pe_fn f_no_ground (hr.mono (by omega)) rfl (pa_cons (pv 0) (pa_cons (pv 1) pa_nil))) pa_nil))))))))), ?_⟩
    wtm_at "w0"
    wtm_at "wp"
    refine ⟨v, 5, d, rfl, hR, cnt_fit hc, by decide, by unfold isQ; rw [hc]; exact decide_eq_true hm, fun H1 s1 => ?_⟩
    wtm_at "wp"
    refine ⟨v, r, 5, m, d, i, x, rfl, by decide, hR.same s1, hc, hp.same s1, fun v' H2 s2 g2 => ?_⟩
    obtain ⟨t1, t2⟩ := gr_told (yes := true) (held := wsOf x) hc
    obtain ⟨f1, f2⟩ := gr_told (yes := false) (held := wsOf x) hc
    cases hb : hasQ 5 d (wsOf x) with
    | true =>
      obtain ⟨g, e1, _⟩ := t1 hb
      rw [e1] at g2
      rw [hb] at k
      obtain ⟨ds, rfl⟩ := (gr_good hc e1).1
      cases g2 with
      | tup ha ra =>
        wtm_at "wp"
        rename_i p3 H3 n3 s3 h3
        exact k p3 _ _ _ (s1.trans (s2.trans s3)) h3 ((Rp.tup ha ra).same s3) e1
    | false =>
      rw [t2 (by rw [hb]; decide)] at g2
      rw [hb] at k
      cases g2
      wtm_at "wp"
      refine ⟨v, r, 5, m, d, i, x, rfl, by decide, hR.same (s1.trans s2), hc, hp.same (s1.trans s2), fun v' H3 s3 g3 => ?_⟩
      obtain ⟨g, e1, _⟩ := f1 hb
      rw [e1] at g3
      wtm_at "wp"
      rename_i p4 H4 n4 s4 h4
      exact k p4 _ _ _ (s1.trans (s2.trans (s3.trans s4))) h4 (g3.same s4) e1
def spHolds (K : PySem.W.Frag) (C : Addr) : Sp := fun vs H Q _ => ∃ (t r : Addr) (w : Str) (vq vg : V) (m : Nat) (q g : PyData) (i : Int) (x : Str), vs = [.ref t, .ref r] ∧ H t = some (.tup [.str w, vq, vg]) ∧ (w = "yes" ∨ w = "no") ∧ Rp H vq q ∧ cnt 5 q = some m ∧ m ≤ 12 ∧ Rp H vg g ∧ PgO C H r i x ∧ ∀ H', Same H H' → Q (.bl (hdG 5 q g (decide (w = "yes")) (wsOf x))) H'
theorem ok_holds {f : Addr} {fd : FuncData} (F : Fun K "holds" "holds" s_holds f fd) (T : Txt K mg Z C_Page C_Broken C_Full C_Gone C_NoFile C_Torn) (f_is_ground : Fn P w K mg base "is_ground" 1 ["thing", "word", "many"] spGr) (f_is_query : Fn P w K mg base "is_query" 24 ["thing"] (spIsQ K)) (f_holds_ground : Fn P w K mg base "holds_ground" 16 ["query", "ground", "yes", "held"] (spHd K 5)) (me_Page_words : Me P w K mg base C_Page "words" 1 ["self"] (spPWords C_Page)) : FnOk P w K mg base CX0 26 f fd ["paper", "page"] (spHolds K C_Page) := by
  refine F.ok sc_holds (fun vs H Q E h => ?_) (fun cdv A outer s H vs Q E hr h => ?_)
  · obtain ⟨t, r, w, vq, vg, m, q, g, i, x, rfl, _⟩ := h
    rfl
  · obtain ⟨t, r, w', vq, vg, m, q, g, i, x, rfl, ht, hw, hRq, hc, hm, hR, hp, k⟩ := h
    have hRt : Rp H (.ref t) (.tuple [.str w', q, g]) := .tup ht (.cons (.str _) (.cons hRq (.cons hR .nil)))
    obtain ⟨d0, a0, s0', o0, _, _⟩ := hp.pg.ex
    refine ⟨_, (pss_cons (ps_if (PW.pt (pw_and (pt_not (pt_val (pe_fn f_is_ground (hr.mono (by omega)) rfl (pa_cons (pv 0) (pa_cons pe_str (pa_cons pe_int pa_nil)))))) (pw_and1 (pt_not (pt_val (pe_fn f_is_ground (hr.mono (by omega)) rfl (pa_cons (pv 0) (pa_cons pe_str (pa_cons pe_int pa_nil)))))))))
 (pss_one (ps_ret pe_bl))
 pss_nil)
 (pss_cons (ps_asg (pv 0) (pg_tup rfl (pgs_cons (pg_name (i := 2) sc_holds.nd rfl (.inl rfl)) (pgs_cons (pg_name (i := 3) sc_holds.nd rfl (.inl rfl)) (pgs_cons (pg_name (i := 4) sc_holds.nd rfl (.inl rfl)) pgs_nil)))))
 (pss_one (ps_ret (pe_and (pe_fn f_is_query (hr.mono (by omega)) rfl (pa_cons (pv 3) pa_nil)) (pe_one (pe_fn f_holds_ground (hr.mono (by omega)) rfl (pa_cons (pv 3) (pa_cons (pv 4) (pa_cons (pe_cmpR op_eq (pv 2) pe_str (nomark _)) (pa_cons (pe_me0 (pv 1) T.cl_Page me_Page_words (hr.mono (by omega))) pa_nil))))))))))), ?_⟩
    wtm_at "w0"
    wtm_at "wp"
    refine ⟨_, "yes", 2, _, rfl, hRt, ?_⟩
    have ey : decide (V.str w' = V.str "yes") = decide (w' = "yes") := by
      rw [decide_eq_decide]
      exact ⟨V.str.inj, fun z => by rw [z]⟩
    have hisq : isQ q = true := by unfold isQ; rw [hc]; exact decide_eq_true hm
    rcases hw with rfl | rfl
    · rw [show isGr (.tuple [.str "yes", q, g]) "yes" 2 = true from gr_is]
      wtm_at "wp"
      refine ⟨vq, 5, q, rfl, hRq, cnt_fit hc, by decide, fun H1 s1 => ?_⟩
      rw [hisq]
      have o1 := s1 _ _ o0
      wtm_at "wp"
      refine ⟨r, i, x, rfl, hp.pg.same s1, fun hd H2 n2 s2 h2 => ?_⟩
      wtm_at "wp"
      refine ⟨vq, vg, hd, 5, m, q, g, _, wsOf x, rfl, Nat.le_refl _, (hRq.same s1).same s2, hc, (hR.same s1).same s2, ⟨h2, okWs_pg hp.ok, okWs_all hp.ok⟩, fun H3 s3 => ?_⟩
      rw [ey]
      exact k _ (s1.trans (s2.trans s3))
    · rw [gr_not (show ¬ Str.ofString "no" = Str.ofString "yes" by decide +kernel)]
      wtm_at "wp"
      refine ⟨_, "no", 2, _, rfl, hRt, ?_⟩
      rw [show isGr (.tuple [.str "no", q, g]) "no" 2 = true from gr_is]
      wtm_at "wp"
      refine ⟨vq, 5, q, rfl, hRq, cnt_fit hc, by decide, fun H1 s1 => ?_⟩
      rw [hisq]
      have o1 := s1 _ _ o0
      wtm_at "wp"
      refine ⟨r, i, x, rfl, hp.pg.same s1, fun hd H2 n2 s2 h2 => ?_⟩
      wtm_at "wp"
      refine ⟨vq, vg, hd, 5, m, q, g, _, wsOf x, rfl, Nat.le_refl _, (hRq.same s1).same s2, hc, (hR.same s1).same s2, ⟨h2, okWs_pg hp.ok, okWs_all hp.ok⟩, fun H3 s3 => ?_⟩
      rw [ey]
      exact k _ (s1.trans (s2.trans s3))

end
end K74

namespace K74
section
variable {P : Program} {w : World} {K : PySem.W.Frag} {mg : Str → Option Value} {base : Heap} {Z : Zs} {C_Page C_Broken C_Full C_Gone C_NoFile C_Torn : Addr}
abbrev s_law_purse : Stmt := topS 75
theorem sc_law_purse : FnScope ["_law_script", "_law_at", "_law_cell", "_law_far"] ["_law_script", "_law_at"] (defScope s_law_purse) := ⟨rfl, rfl, rfl, by decide +kernel, rfl, by decide +kernel, by decide +kernel⟩
abbrev s_law_take : Stmt := topS 76
theorem sc_law_take : FnScope ["_law_purse_here", "_law_many", "_law_digit", "_law_turn", "_law_one", "_law_other"] ["_law_purse_here", "_law_many"] (defScope s_law_take) := ⟨rfl, rfl, rfl, by decide +kernel, rfl, by decide +kernel, by decide +kernel⟩
/-! ### draws -/
/-- a purse at p: three numbers -/
def Purse (H : Hp) (p : Addr) (n : Nat) : Prop := ∃ a b c : Int, H p = some (.lst [.int a, .int b, .int c]) ∧ 0 ≤ a ∧ 0 ≤ b ∧ b < 10 ^ 30 ∧ 0 ≤ c ∧ c ≤ n
theorem Purse.mono {H H' : Hp} {p : Addr} {n n' : Nat} (h : Purse H p n) (e : Same H H') (hn : n ≤ n') : Purse H' p n' := by
  obtain ⟨a, b, c, h, h1, h2, h3, h4, h5⟩ := h
  exact ⟨a, b, c, e _ _ h, h1, h2, h3, h4, by omega⟩
def spTake : Sp := fun vs H Q _ => ∃ (p : Addr) (m : Int) (n : Nat), vs = [.ref p, .int m] ∧ Purse H p n ∧ n ≤ 10 ^ 9 ∧ 0 < m ∧ m ≤ 10 ^ 12 ∧
  ∀ (d : Int) H', 0 ≤ d → d < m → KB p H H' → Purse H' p (n + 1) → Q (.int d) H'
theorem ok_take {f : Addr} {fd : FuncData} (F : Fun K "_law_take" "_law_take" s_law_take f fd) : FnOk P w K mg base CX0 1 f fd ["_law_purse_here", "_law_many"] spTake := by
  refine F.ok sc_law_take (fun vs H Q E h => ?_) (fun cdv A outer s H vs Q E hr h => ?_)
  · obtain ⟨p, m, n, rfl, _⟩ := h
    rfl
  · obtain ⟨p, m, n, rfl, ⟨a, b, c, hp, ha, hb, hb2, hc, hc2⟩, hn, hm, hm2, k⟩ := h
    have hb2' : b < 1000000000000000000000000000000 := hb2
    have hn' : n ≤ 1000000000 := hn
    have hm2' : m ≤ 1000000000000 := hm2
    have hcc : (c + 1) * (c + 1) ≤ 1000000001 * 1000000001 := Int.mul_le_mul (by omega) (by omega) (by omega) (by omega)
    have hcc0 : 0 ≤ (c + 1) * (c + 1) := Int.mul_nonneg (by omega) (by omega)
    refine ⟨_, (pss_cons (ps_if (pt_cmpR op_gt (pe_ix ix_list (pv 0) pe_int (fun _ _ => rfl)) pe_int (nomark _))
 (pss_cons (ps_set (i := 2) sc_law_take.nd rfl (.inl rfl) (pe_op op_mod (pe_ix ix_list (pv 0) pe_int (fun _ _ => rfl)) (pv 1)))
 (pss_cons (ps_asg (pe_op op_fdivU (pe_ix ix_list (pv 0) pe_int (fun _ _ => rfl)) (pv 1)) (pg_sub (pv 0) pe_int set_list))
 (pss_one (ps_ret (pv 2)))))
 pss_nil)
 (pss_cons (ps_asg (pe_op op_add (pe_ix ix_list (pv 0) pe_int (fun _ _ => rfl)) pe_int) (pg_sub (pv 0) pe_int set_list))
 (pss_cons (ps_set (i := 3) sc_law_take.nd rfl (.inl rfl) (pe_ix ix_list (pv 0) pe_int (fun _ _ => rfl)))
 (pss_cons (ps_set (i := 4) sc_law_take.nd rfl (.inl rfl) (pe_op op_mod (pe_op op_powU (pe_op op_add (pe_op op_add (pe_ix ix_list (pv 0) pe_int (fun _ _ => rfl)) (pe_op op_mulU (pe_op op_mulU pe_int (pv 3)) (pv 3))) pe_int) pe_int) pe_int))
 (pss_cons (ps_set (i := 5) sc_law_take.nd rfl (.inl rfl) (pe_op op_mod (pe_op op_powU (pe_op op_add (pe_op op_mulU (pv 4) (pe_op op_add (pe_op op_mulU pe_int (pv 3)) pe_int)) (pv 3)) pe_int) pe_int))
 (pss_one (ps_ret (pe_op op_mod (pe_op op_fdivU (pe_op op_add (pe_op op_mulU (pv 4) pe_int) (pv 5)) pe_int) (pv 1))))))))), ?_⟩
    wtm_at "w0"
    wtm_at "wp"
    refine w_dec (fun h0 => ?_) (fun h0 => ?_)
    · wtm_at "wp"
      rename_i H1 k1 e1
      refine k _ _ (Int.emod_nonneg _ (by omega)) (Int.emod_lt_of_pos _ hm) k1 ⟨_, _, _, e1, ?_, hb, hb2, hc, by omega⟩
      rw [Int.fdiv_eq_ediv_of_nonneg _ (Int.le_of_lt hm)]
      exact Int.ediv_nonneg ha (Int.le_of_lt hm)
    · wtm_at "wp"
      · refine powU (a := 200) ?_ (by decide) (by decide) (by decide)
        rw [Int.mul_assoc]
        omega
      wtm_at "wp"
      · refine powU (a := 200) ?_ (by decide) (by decide) (by decide)
        have hy0 := Int.emod_nonneg ((b + 48271 * (c + 1) * (c + 1) + 1) ^ Int.toNat 5) (show (2147483647 : Int) ≠ 0 by decide)
        have hy1 := Int.emod_lt_of_pos ((b + 48271 * (c + 1) * (c + 1) + 1) ^ Int.toNat 5) (show (0 : Int) < 2147483647 by decide)
        generalize (b + 48271 * (c + 1) * (c + 1) + 1) ^ Int.toNat 5 % 2147483647 = y at *
        have m1 : y * (2 * (c + 1) + 30011) ≤ 2147483647 * (2 * 1000000001 + 30011) := Int.mul_le_mul (by omega) (by omega) (by omega) (by omega)
        have m0 : 0 ≤ y * (2 * (c + 1) + 30011) := Int.mul_nonneg hy0 (by omega)
        omega
      wtm_at "wp"
      rename_i H1 k1 e1
      exact k _ _ (Int.emod_nonneg _ (by omega)) (Int.emod_lt_of_pos _ hm) k1 ⟨_, _, _, e1, ha, hb, hb2, by omega, by omega⟩
def spPurse (K : PySem.W.Frag) : Sp := fun vs H Q _ => ∃ (a : Addr) (ns : List Int) (j : Nat), vs = [.ref a, .int j] ∧ SqL K H a (ns.map V.int) ∧ j ≤ 63 ∧
  ∀ p H', H p = none → Same H H' → Purse H' p 0 → Q (.ref p) H'
theorem purse_num {c : Int} {j : Nat} (hj : j ≤ 63) : 0 ≤ (c % 2147483647 + 7919 * j + 17) % 2147483647 ∧ (c % 2147483647 + 7919 * j + 17) % 2147483647 < 10 ^ 30 := by
  have h1 := Int.emod_nonneg (c % 2147483647 + 7919 * j + 17) (show (2147483647 : Int) ≠ 0 by decide)
  have h2 := Int.emod_lt_of_pos (c % 2147483647 + 7919 * j + 17) (show (0 : Int) < 2147483647 by decide)
  constructor <;> omega
theorem ok_purse {f : Addr} {fd : FuncData} (F : Fun K "_law_purse" "_law_purse" s_law_purse f fd) (T : Txt K mg Z C_Page C_Broken C_Full C_Gone C_NoFile C_Torn) : FnOk P w K mg base CX0 1 f fd ["_law_script", "_law_at"] (spPurse K) := by
  refine F.ok sc_law_purse (fun vs H Q E h => ?_) (fun cdv A outer s H vs Q E hr h => ?_)
  · obtain ⟨a, ns, j, rfl, _⟩ := h
    rfl
  · obtain ⟨a, ns, j, rfl, hS, hj, k⟩ := h
    refine ⟨_, (pss_cons (ps_set (i := 2) sc_law_purse.nd rfl (.inl rfl) pe_int)
 (pss_cons (ps_if (pt_cmpR op_lt (pv 1) (pe_callB cl_len (by rfl) T.n_len PySem.boot_len (pa_cons (pv 0) pa_nil)) (nomark _))
 (pss_one (ps_set (i := 2) sc_law_purse.nd rfl (.inl rfl) (pe_ix ix_list (pv 0) (pv 1) (fun _ _ => rfl))))
 pss_nil)
 (pss_cons (ps_set (i := 3) sc_law_purse.nd rfl (.inl rfl) (pe_callB cl_abs (by rfl) T.n_abs PyProof.Rows.boot_abs (pa_cons (pv 2) pa_nil)))
 (pss_one (ps_ret (pe_lst (pa_cons (pe_op op_mulU (pv 3) (pe_callTy cl_int (by rfl) T.n_int PyProof.Rows.boot_int (pa_cons (pe_cmpR op_ge (pv 3) (pe_op op_powU pe_int pe_int) (nomark _)) pa_nil))) (pa_cons (pe_op op_mod (pe_op op_add (pe_op op_add (pe_op op_mod (pv 2) pe_int) (pe_op op_mulU pe_int (pv 1))) pe_int) pe_int) (pa_cons pe_int pa_nil))))))))), ?_⟩
    wtm_at "w0"
    wtm_at "wp"
    refine w_dec (fun h0 => ?_) (fun h0 => ?_)
    · have hl : j < ns.length := by
        rw [List.length_map] at h0
        omega
      have hx : atI (ns.map V.int) (j : Int) = some (.int ns[j]) := atI_nat (by rw [List.getElem?_map, List.getElem?_eq_getElem hl]; rfl)
      wtm_at "wp"
      rename_i p np H1 s1 hp
      exact k _ _ np s1 ⟨_, _, _, hp, Int.mul_nonneg (by omega) (by split <;> omega), (purse_num hj).1, (purse_num hj).2, by omega, by omega⟩
    · wtm_at "wp"
      rename_i p np H1 s1 hp
      exact k _ _ np s1 ⟨_, _, _, hp, Int.mul_nonneg (by omega) (by split <;> omega), (purse_num hj).1, (purse_num hj).2, by omega, by omega⟩

end
end K74

namespace K74
section
variable {P : Program} {w : World} {K : PySem.W.Frag} {mg : Str → Option Value} {base : Heap} {Z : Zs} {C_Page C_Broken C_Full C_Gone C_NoFile C_Torn : Addr}
abbrev s_law_query : Stmt := topS 78
theorem sc_law_query : FnScope ["_law_purse_here", "_law_deep", "_law_most", "_law_some", "_law_sort", "_law_words", "_law_many", "_law_parts", "_law_k", "_law_part"] ["_law_purse_here", "_law_deep", "_law_most"] (defScope s_law_query) := ⟨rfl, rfl, rfl, by decide +kernel, rfl, by decide +kernel, by decide +kernel⟩
abbrev s_law_text : Stmt := topS 82
theorem sc_law_text : FnScope ["_law_purse_here", "_law_most", "_law_some", "_law_k"] ["_law_purse_here", "_law_most"] (defScope s_law_text) := ⟨rfl, rfl, rfl, by decide +kernel, rfl, by decide +kernel, by decide +kernel⟩
/-! ### queries and texts, drawn -/
theorem Purse.at {H : Hp} {p : Addr} {n : Nat} (h : Purse H p n) : ∃ xs, H p = some (.lst xs) := by
  obtain ⟨a, b, c, h, _⟩ := h
  exact ⟨_, h⟩
theorem Purse.kb {p D : Addr} {H4 H5 : Hp} {n : Nat} (h : Purse H4 p n) (b : KB D H4 H5) (ne : p ≠ D) : Purse H5 p n := by
  obtain ⟨x, y, z, h, r⟩ := h
  exact ⟨x, y, z, b _ _ h ne, r⟩
theorem Purse.tupk {H H' : Hp} {p : Addr} {n : Nat} (h : Purse H p n) (k : KB p H H') : TupK H H' := TupK.kb k h.at.choose_spec
theorem atI_lst5 {α : Type} {xs : List α} {x : α} (h : xs[xs.length - 1]? = some x) : atI xs (-1) = some x := by
  have hl : 0 < xs.length := by
    cases xs with
    | nil => cases h
    | cons => simp
  unfold atI ixN
  rw [if_neg (by decide), if_pos (by omega)]
  show xs[((xs.length : Int) + -1).toNat]? = some x
  rw [show ((xs.length : Int) + -1).toNat = xs.length - 1 by omega]
  exact h
theorem cnt_list5 {n M : Nat} {ds : List PyData} (h : ∀ d ∈ ds, ∃ c, cnt n d = some c ∧ c ≤ M) : ∃ ms : List Nat, ds.map (cnt n) = ms.map some ∧ ms.length = ds.length ∧ ms.sum ≤ ds.length * M := by
  induction ds with
  | nil => exact ⟨[], rfl, rfl, by simp⟩
  | cons d r ih =>
    obtain ⟨c, hc, hM⟩ := h d List.mem_cons_self
    obtain ⟨ms, e, el, es⟩ := ih fun x hx => h x (List.mem_cons_of_mem _ hx)
    refine ⟨c :: ms, by simp [hc, e], by simp [el], ?_⟩
    rw [List.sum_cons, List.length_cons, Nat.succ_mul]
    omega
def six : List Str := ["a", "b", "c", "ab", "ba", "abc"]
theorem six_ok : ∀ w ∈ six, isW w = true := by decide +kernel
theorem six_at {d : Int} (h0 : 0 ≤ d) (h6 : d < 6) : ∃ w, atI [V.str "a", V.str "b", V.str "c", V.str "ab", V.str "ba", V.str "abc"] d = some (.str w) ∧ isW w = true := by
  obtain ⟨j, rfl⟩ := Int.eq_ofNat_of_zero_le h0
  have hj : j < six.length := by show j < 6; omega
  refine ⟨six[j], ?_, six_ok _ (List.getElem_mem hj)⟩
  have : (six.map V.str)[j]? = some (.str six[j]) := by rw [List.getElem?_map, List.getElem?_eq_getElem hj]; rfl
  exact atI_nat this
def spQp (K : PySem.W.Frag) (N : Nat) : Sp := fun vs H Q _ => ∃ (p : Addr) (n deep most : Nat), vs = [.ref p, .int deep, .int most] ∧ 1 ≤ deep ∧ deep ≤ N ∧ 1 ≤ most ∧ most ≤ 12 ∧ Purse H p n ∧ n + 10 * 5 ^ N ≤ 10 ^ 7 ∧
  ∀ o d m H', Rp H' (.ref o) d → cnt deep d = some m → m ≤ most → KB p H H' → Purse H' p (n + 10 * 5 ^ N) → Q (.ref o) H'
theorem spQp0 {K : PySem.W.Frag} : ∀ vs H Q E, ¬ spQp K 0 vs H Q E := fun vs H Q E ⟨_, _, deep, _, _, h1, h2, _⟩ => by omega
theorem ok_query5 {N k0 : Nat} {f : Addr} {fd : FuncData} (hk0 : 8 ≤ k0) (F : Fun K "_law_query" "_law_query" s_law_query f fd) (T : Txt K mg Z C_Page C_Broken C_Full C_Gone C_NoFile C_Torn) (f__law_take : Fn P w K mg base "_law_take" 1 ["_law_purse_here", "_law_many"] spTake) (hN : N ≤ 5) (f__law_query : Fn P w K mg base "_law_query" k0 ["_law_purse_here", "_law_deep", "_law_most"] (spQp K N)) : FnOk P w K mg base CX0 (k0 + 1) f fd ["_law_purse_here", "_law_deep", "_law_most"] (spQp K (N + 1)) := by
  refine F.ok sc_law_query (fun vs H Q E h => ?_) (fun cdv A outer s H vs Q E hr h => ?_)
  · obtain ⟨p, n, deep, most, rfl, _⟩ := h
    rfl
  · obtain ⟨p, n, deep, most, rfl, hd1, hdN, hm1, hm12, hp, hn, k⟩ := h
    have hpow : 10 * 5 ^ (N + 1) = 50 * 5 ^ N := by rw [Nat.pow_succ]; omega
    have hpos : 1 ≤ 5 ^ N := Nat.one_le_pow _ _ (by decide)
    rw [hpow] at hn k
    generalize h5 : 5 ^ N = five at *
    have hn7 : n + 50 * five ≤ 10000000 := hn
    refine ⟨_, (pss_cons (ps_set (i := 3) sc_law_query.nd rfl (.inr rfl) (pe_lst (pa_cons pe_str (pa_cons pe_str (pa_cons pe_str (pa_cons pe_str (pa_cons pe_str (pa_cons pe_str pa_nil))))))))
 (pss_cons (ps_set (i := 4) sc_law_query.nd rfl (.inl rfl) (pe_fn f__law_take (hr.mono (by omega)) rfl (pa_cons (pv 0) (pa_cons (pe_ix ix_list (pe_lst (pa_cons pe_int (pa_cons pe_int pa_nil))) (pe_callTy cl_int (by rfl) T.n_int PyProof.Rows.boot_int (pa_cons (pe_and (pe_cmpR op_gt (pv 1) pe_int (nomark _)) (pe_one (pe_cmpR op_gt (pv 2) pe_int (nomark _)))) pa_nil)) (fun _ _ => rfl)) pa_nil))))
 (pss_cons (ps_setLc (i := 5) (own := [("_law_k", 8)]) (g := gName 8) (tt := tYes) rfl sc_law_query.nd rfl rfl (sw_true rfl rfl rfl (by decide +kernel)) (pi_range1 (by rfl) T.n_range (pa_cons (pe_callB (cl_min rfl) (by rfl) T.n_min PyProof.Rows.boot_min (pa_cons (pv 2) (pa_cons (pe_op op_add pe_int (pe_fn f__law_take (hr.mono (by omega)) rfl (pa_cons (pv 0) (pa_cons pe_int pa_nil)))) pa_nil))) pa_nil)) (blkOk_by (own := [("_law_k", 8)]) (N := ["_law_purse_here", "_law_deep", "_law_most", "_law_some", "_law_sort", "_law_words", "_law_many", "_law_parts", "_law_k", "_law_part"]) (sc := defScope s_law_query) (by decide +kernel)) (fun _ _ _ _ _ => pg_name (i := 8) sc_law_query.nd rfl (Or.inl rfl)) (fun _ _ _ _ _ => pts_nil) (fun _ _ _ _ _ => (pe_ix (show IxR _ (rIxL K) from ix_list) (pv 3) (pe_fn f__law_take (hr.mono (by omega)) rfl (pa_cons (pv 0) (pa_cons pe_int pa_nil))) (fun _ _ => rfl))))
 (pss_cons (ps_if (pt_cmpR op_eq (pv 4) pe_int (nomark _))
 (pss_one (ps_ret (pe_tup (pa_cons pe_str (pa_cons (pe_ix ix_list (pv 5) pe_int (fun _ _ => rfl)) pa_nil)))))
 pss_nil)
 (pss_cons (ps_if (PW.pt (pw_and (pt_cmpR op_eq (pv 4) pe_int (nomark _)) (pw_and1 (pt_cmpR op_gt (pe_callB cl_len (by rfl) T.n_len PySem.boot_len (pa_cons (pv 5) pa_nil)) pe_int (nomark _)))))
 (pss_one (ps_ret (pe_op op_catT (pe_tup (pa_cons pe_str pa_nil)) (pe_callTy cl_tuple (by rfl) T.n_tuple PyProof.Rows.boot_tuple (pa_cons (pv 5) pa_nil)))))
 pss_nil)
 (pss_cons (ps_if (pt_cmpR op_lt (pv 4) pe_int (nomark _))
 (pss_one (ps_ret (pe_ix ix_list (pe_lst (pa_cons (pe_tup (pa_cons pe_str (pa_cons (pe_op op_add pe_int (pe_fn f__law_take (hr.mono (by omega)) rfl (pa_cons (pv 0) (pa_cons pe_int pa_nil)))) (pa_cons (pe_ix ix_list (pv 5) pe_int (fun _ _ => rfl)) (pa_cons (pe_ix ix_list (pv 5) (pe_un un_neg pe_int) (fun _ _ => rfl)) pa_nil))))) (pa_cons (pe_tup (pa_cons pe_str (pa_cons (pe_ix ix_list (pv 5) pe_int (fun _ _ => rfl)) pa_nil))) pa_nil))) (pe_callTy cl_int (by rfl) T.n_int PyProof.Rows.boot_int (pa_cons (pe_cmpR op_lt (pv 2) pe_int (nomark _)) pa_nil)) (fun _ _ => rfl))))
 pss_nil)
 (pss_cons (ps_set (i := 6) sc_law_query.nd rfl (.inr rfl) (pe_ix ix_list (pe_lst (pa_cons pe_int (pa_cons pe_int (pa_cons pe_int (pa_cons pe_int pa_nil))))) (pe_fn f__law_take (hr.mono (by omega)) rfl (pa_cons (pv 0) (pa_cons pe_int pa_nil))) (fun _ _ => rfl)))
 (pss_cons (ps_if (pt_cmpR op_gt (pv 4) pe_int (nomark _))
 (pss_one (ps_set (i := 6) sc_law_query.nd rfl (.inr rfl) pe_int))
 pss_nil)
 (pss_cons (ps_setLc (i := 7) (own := [("_law_part", 9)]) (g := gName 9) (tt := tYes) rfl sc_law_query.nd rfl rfl (sw_true rfl rfl rfl (by decide +kernel)) (pi_range1 (by rfl) T.n_range (pa_cons (pv 6) pa_nil)) (blkOk_by (own := [("_law_part", 9)]) (N := ["_law_purse_here", "_law_deep", "_law_most", "_law_some", "_law_sort", "_law_words", "_law_many", "_law_parts", "_law_k", "_law_part"]) (sc := defScope s_law_query) (by decide +kernel)) (fun _ _ _ _ _ => pg_name (i := 9) sc_law_query.nd rfl (Or.inl rfl)) (fun _ _ _ _ _ => pts_nil) (fun _ _ _ _ _ => (pe_fn f__law_query (hr.mono (by omega)) rfl (pa_cons (pv 0) (pa_cons (pe_op op_sub (pv 1) pe_int) (pa_cons (pe_callB (cl_max rfl) (by rfl) T.n_max PyProof.Rows.boot_max (pa_cons pe_int (pa_cons (pe_op op_fdivU (pv 2) (pv 6)) pa_nil))) pa_nil))))))
 (pss_one (ps_ret (pe_op op_catT (pe_tup (pa_cons (pe_ix ix_list (pe_lst (pa_cons pe_str (pa_cons pe_str (pa_cons pe_str (pa_cons pe_str pa_nil))))) (pe_op op_sub (pv 4) pe_int) (fun _ _ => rfl)) pa_nil)) (pe_callTy cl_tuple (by rfl) T.n_tuple PyProof.Rows.boot_tuple (pa_cons (pv 7) pa_nil)))))))))))))), ?_⟩
    wtm_at "w0"
    wtm_at "wp"
    rename_i q nq H1 s1 hq t2 nt2 H2 s2 ht2
    have p2 := (hp.mono s1 (Nat.le_refl _)).mono s2 (Nat.le_refl _)
    have hq2 := s2 _ _ hq
    have npq : q ≠ p := (ne_of_none hp.at.choose_spec nq).symm
    have K2 : KB p H H2 := (KB.of s1).trans (KB.of s2)
    refine dite (1 < deep ∧ 3 < most) (fun hb => ?ca) (fun hb => ?cb)
    case' ca =>
      refine iteT' (decide_eq_true (by omega)) ?_
      wtm_at "wp"
      refine w_ixL (.of ht2) (show atI [V.int 4, V.int 8] _ = some (.int 8) by rw [decide_eq_true (by omega)]; rfl) ?_
      wtm_at "wp"
      refine ⟨p, 8, n, rfl, p2, by omega, by decide, by decide, fun so H3 so0 so1' k3 p3 => ?_⟩
      have so1 : so < 4 ∨ (so < 8 ∧ 1 < deep ∧ 3 < most) := .inr ⟨so1', hb⟩
      clear so1'
    case' cb =>
      by_cases hb1 : (1 : Int) < deep
      case' pos =>
        refine iteT' (decide_eq_true hb1) ?_
        wtm_at "wp"
        refine w_ixL (.of ht2) (show atI [V.int 4, V.int 8] _ = some (.int 4) by rw [decide_eq_false (by omega)]; rfl) ?_
      case' neg =>
        refine iteF' (decide_eq_false hb1) ?_
        wtm_at "wp"
      all_goals
        try wtm_at "wp"
        refine ⟨p, 4, n, rfl, p2, by omega, by decide, by decide, fun so H3 so0 so1' k3 p3 => ?_⟩
        have so1 : so < 4 ∨ (so < 8 ∧ 1 < deep ∧ 3 < most) := .inl so1'
        clear so1' hb1
    all_goals
      clear hb
      have hq3 := k3 _ _ hq2 npq
      have K3 := K2.trans k3
      wtm_at "wp"
      refine ⟨p, 3, _, rfl, p3, by omega, by decide, by decide, fun d4 H4 d40 d41 k4 p4 => ?_⟩
      have hq4 := k4 _ _ hq3 npq
      have K4 := K3.trans k4
      obtain ⟨c, hc, hcl⟩ : ∃ c : Nat, min (most : Int) (2 + d4) = (c : Int) ∧ 1 ≤ c ∧ c ≤ 4 ∧ c ≤ most ∧ (2 ≤ most → 2 ≤ c) := ⟨(min (most : Int) (2 + d4)).toNat, by omega, by omega, by omega, by omega, by omega⟩
      wtm_at "wp"
      rw [hc]
      refine ⟨_, rfl, by omega, by omega, ?_⟩
      refine lc_fin (n := ((c : Nat) : Int).toNat) fin_rng (fun i acc H' => KB p H4 H' ∧ Purse H' p (n + 2 + i) ∧ ∃ us : List Str, acc = us.map V.str ∧ us.length = i ∧ ∀ u ∈ us, isW u = true) (fun D H5 nD s5 hD => ⟨KB.of s5, p4.mono s5 (Nat.le_refl _), [], rfl, rfl, by simp⟩) (fun _ _ _ _ _ => trivial) ?_ ?_
      · rintro D i v acc H5 H6 nD hi hac ⟨k5, p5, us, rfl, hl5, hy5⟩ hD ⟨rfl, rfl⟩
        have nDp : D ≠ p := (ne_of_none p4.at.choose_spec nD).symm
        have hq5 := k5 _ _ hq4 npq
        wtm_at "wp"
        refine ⟨rfl, ?_⟩
        wtm_at "wp"
        refine ⟨p, 6, _, rfl, p5, by omega, by decide, by decide, fun d6 H7 d60 d61 k7 p7 => ?_⟩
        obtain ⟨wd, hwd, hwW⟩ := six_at d60 d61
        refine w_ixL (.of (k7 _ _ hq5 npq)) hwd ?_
        refine w_acc (k7 _ _ hD nDp) hac hi (sz (by omega)) (fun H8 k8 h8 => ⟨kb2 (k5.trans k7) k8 nD, p7.kb k8 nDp.symm, us ++ [wd], by simp, by simp [hl5], fun y hy => ?_⟩)
        rcases List.mem_append.mp hy with h | h
        · exact hy5 y h
        · rw [List.mem_singleton.mp h]
          exact hwW
      · rintro D acc H5 nD ⟨k5, p5, us, rfl, hul, huW⟩ hac hD
        have nDp : D ≠ p := (ne_of_none p4.at.choose_spec nD).symm
        have K5 := K4.trans k5
        have hul' : us.length = c := by omega
        obtain ⟨w0, ur, rfl⟩ : ∃ w0 ur, us = w0 :: ur := by
          cases us with
          | nil => simp at hul'; omega
          | cons a b => exact ⟨a, b, rfl⟩
        have hW0 := huW w0 (by simp)
        have hD0 : H5 D = some (.lst (V.str w0 :: ur.map V.str)) := hD
        wtm_at "wp"
        refine w_dec (fun hs0 => ?_) (fun hs0 => ?_)
        · wtm_at "wp"
          rename_i t6 nt6 H6 s6 ht6
          obtain ⟨e, rfl⟩ : ∃ e, deep = e + 1 := ⟨deep - 1, by omega⟩
          exact k t6 _ 1 H6 (.tup ht6 (.cons (.str _) (.cons (.str _) .nil))) (cnt_word hW0) (by omega) (K5.trans (KB.of s6)) (p5.mono s6 (by omega))
        wtm_at "wq"
        by_cases hb1 : so = 1 ∧ 2 ≤ c
        · refine w_ifB true H5 (fun QB qb => ?_) ?_
          · wtm_at "wp"
            refine iteT' (decide_eq_true (by rw [hb1.1])) ?_
            wtm_at "wp"
            rw [decide_eq_true (by simp at hul' ⊢; omega)]
            exact qb
          refine iteT ?_
          wtm_at "wp"
          rename_i t6 nt6 H6 s6 ht6
          refine w_tupOf (.of (s6 _ _ hD0)) (fun t7 H7 n7 s7 h7 => ?_)
          refine w_catT (s7 _ _ ht6) h7 (by simp) (by simp at hul' ⊢; omega) (fun o H8 s8 h8 => ?_)
          have S8 := s6.trans (s7.trans s8)
          obtain ⟨e, rfl⟩ : ∃ e, deep = e + 1 := ⟨deep - 1, by omega⟩
          have hcp := cnt_phrase (n := e) (ws := w0 :: ur) (by omega) (by omega) huW
          exact k o _ _ H8 (.tup h8 (.cons (.str _) (rpAll_str (w0 :: ur)))) hcp (by omega) (K5.trans (KB.of S8)) (p5.mono S8 (by omega))
        refine w_ifB false H5 (fun QB qb => ?_) ?_
        · wtm_at "wp"
          by_cases g1 : so = 1
          · refine iteT' (decide_eq_true (by rw [g1])) ?_
            wtm_at "wp"
            rw [decide_eq_false (by simp at hul' ⊢; omega)]
            exact qb
          · exact iteF' (decide_eq_false (fun z => g1 (V.int.inj z))) qb
        refine iteF ?_
        wtm_at "wp"
        refine w_dec (fun hs4 => ?_) (fun hs4 => ?_)
        · wtm_at "wp"
          refine ⟨p, 5, _, rfl, p5, by omega, by decide, by decide, fun d6 H6 d60 d61 k6 p6 => ?_⟩
          have hD6 := k6 _ _ hD0 nDp
          obtain ⟨wl, hwl, hwlW⟩ : ∃ wl, atI (V.str w0 :: ur.map V.str) (-1) = some (.str wl) ∧ isW wl = true := by
            have hlt : (w0 :: ur).length - 1 < (w0 :: ur).length := by simp
            refine ⟨(w0 :: ur)[(w0 :: ur).length - 1], ?_, huW _ (List.getElem_mem hlt)⟩
            refine atI_lst5 ?_
            have : ((w0 :: ur).map V.str)[(w0 :: ur).length - 1]? = some (.str (w0 :: ur)[(w0 :: ur).length - 1]) := by
              rw [List.getElem?_map, List.getElem?_eq_getElem hlt]
              rfl
            simpa using this
          wtm_at "wp"
          rename_i t7 n7 H7 s7 h7 t8 n8 H8 s8 h8 t9 n9 H9 s9 h9
          obtain ⟨e, rfl⟩ : ∃ e, deep = e + 1 := ⟨deep - 1, by omega⟩
          have K9 : KB p H H9 := K5.trans (k6.trans ((KB.of s7).trans ((KB.of s8).trans (KB.of s9))))
          have p9 : Purse H9 p (n + 50 * five) := ((p6.mono s7 (Nat.le_refl _)).mono s8 (Nat.le_refl _)).mono s9 (by omega)
          by_cases hm2 : (most : Int) < 2
          · refine w_ixL (v := .ref t8) (.of h9) (by rw [decide_eq_true hm2]; rfl) ?_
            exact k t8 _ 1 H9 (.tup (s9 _ _ h8) (.cons (.str _) (.cons (.str _) .nil))) (cnt_word hW0) (by omega) K9 p9
          · refine w_ixL (v := .ref t7) (.of h9) (by rw [decide_eq_false hm2]; rfl) ?_
            exact k t7 _ 2 H9 (.tup (s9 _ _ (s8 _ _ h7)) (.cons (.str _) (.cons (.int _) (.cons (.str _) (.cons (.str _) .nil))))) (cnt_near (by omega) (by omega) hW0 hwlW) (by omega) K9 p9
        · obtain ⟨hs8, hdeep, hmost⟩ : so < 8 ∧ 1 < deep ∧ 3 < most := by
            rcases so1 with z | z
            · exact absurd z hs4
            · exact z
          wtm_at "wp"
          rename_i t6 nt6 H6 s6 ht6
          refine ⟨p, 4, _, rfl, p5.mono s6 (Nat.le_refl _), by omega, by decide, by decide, fun d7 H7 d70 d71 k7 p7 => ?_⟩
          have nt6p : t6 ≠ p := (ne_of_none p5.at.choose_spec nt6).symm
          obtain ⟨mm, hmm, hmm2⟩ : ∃ mm : Nat, atI [V.int 2, V.int 2, V.int 3, V.int 4] d7 = some (.int mm) ∧ 2 ≤ mm ∧ mm ≤ 4 := by
            have : d7 = 0 ∨ d7 = 1 ∨ d7 = 2 ∨ d7 = 3 := by omega
            rcases this with rfl | rfl | rfl | rfl
            · exact ⟨2, rfl, by decide⟩
            · exact ⟨2, rfl, by decide⟩
            · exact ⟨3, rfl, by decide⟩
            · exact ⟨4, rfl, by decide⟩
          refine w_ixL (.of (k7 _ _ ht6 nt6p)) hmm ?_
          wtm_at "wq"
          have p7' := p7
          have K7 : KB p H H7 := K5.trans ((KB.of s6).trans k7)
          refine w_ifB (decide (6 < so)) H7 (fun QB qb => ?_) ?_
          · wtm_at "wp"
            exact qb
          refine w_decR (fun σ H' => H' = H7 ∧ ∃ m2 : Nat, (2 ≤ m2 ∧ m2 ≤ 4 ∧ (6 < so → m2 = 2)) ∧ σ = [some (.ref p), some (.int deep), some (.int most), some (.ref q), some (.int so), some (.ref D), some (.int m2), none, none, none]) (fun hno => ⟨rfl, mm, ⟨hmm2.1, hmm2.2, fun z => absurd z hno⟩, rfl⟩) (fun go hc6 => ?_) ?_
          · wtm_at "w1"
            exact go _ _ ⟨rfl, 2, ⟨by decide, by decide, fun _ => rfl⟩, rfl⟩
          rintro σ H7' ⟨rfl, m2, ⟨hm21, hm22, hm26⟩, rfl⟩
          have hdiv1 : 1 ≤ most / m2 := Nat.div_pos (by omega) (by omega)
          have hdiv2 : m2 * (most / m2) ≤ most := Nat.mul_div_le _ _
          have hdiv3 : most / m2 ≤ most := Nat.div_le_self _ _
          have eDiv : max (1 : Int) ((most : Int).fdiv (m2 : Int)) = ((most / m2 : Nat) : Int) := by
            rw [Int.fdiv_eq_ediv_of_nonneg _ (by omega), ← Int.natCast_ediv]
            omega
          generalize hMM : most / m2 = M at *
          wtm_at "wp"
          refine ⟨_, rfl, by omega, by omega, ?_⟩
          refine lc_fin (n := ((m2 : Nat) : Int).toNat) fin_rng (fun i acc H' => KB p H7' H' ∧ Purse H' p (n + 8 + i * (10 * five)) ∧ ∃ ds : List PyData, RpAll H' acc ds ∧ ds.length = i ∧ ∀ d ∈ ds, ∃ c', cnt (deep - 1) d = some c' ∧ c' ≤ M) (fun D H8 nD s8 hD => ⟨KB.of s8, p7'.mono s8 (by omega), [], .nil, rfl, fun d hd => by cases hd⟩) (fun _ _ _ _ _ => trivial) ?_ ?_
          · rintro D2 i v acc H8 H9 nD2 hi hac ⟨k8, p8, ds, rr8, hdl, hcs⟩ hD2 ⟨rfl, rfl⟩
            have nD2p : D2 ≠ p := (ne_of_none p7'.at.choose_spec nD2).symm
            have hi5 : i * (10 * five) ≤ 3 * (10 * five) := Nat.mul_le_mul_right _ (by omega)
            wtm_at "wp"
            refine ⟨rfl, ?_⟩
            wtm_at "wp"
            rw [eDiv]
            have eD : ((deep : Int) - 1) = ((deep - 1 : Nat) : Int) := by omega
            rw [eD]
            refine ⟨p, _, deep - 1, M, rfl, by omega, by omega, hdiv1, by omega, p8, by rw [h5]; show _ ≤ 10000000; omega, fun o d m H10 rO hc10 hm10 k10 p10 => ?_⟩
            rw [h5] at p10
            have tk := p8.tupk k10
            have hD10 := k10 _ _ hD2 nD2p
            refine w_acc hD10 hac hi (sz (by omega)) (fun H11 k11 h11 => ?_)
            have tk11 : TupK H10 H11 := TupK.kb k11 hD10
            have nl8 : noLs ds = true := noLs_all fun d hd => by
              obtain ⟨c', h1, _⟩ := hcs d hd
              exact cnt_noL h1
            refine ⟨kb2 (k8.trans k10) k11 nD2, (p10.kb k11 nD2p.symm).mono (.refl _) (by rw [Nat.add_mul]; omega), ds ++ [d], ((rr8.tupk tk nl8).tupk tk11 nl8).append (.cons (rO.tupk tk11 (cnt_noL hc10)) .nil), by simp [hdl], fun d' hd' => ?_⟩
            rcases List.mem_append.mp hd' with h | h
            · exact hcs d' h
            · rw [List.mem_singleton.mp h]
              exact ⟨m, hc10, hm10⟩
          · rintro D2 acc H8 nD2 ⟨k8, p8, ds, rr8, hdl, hcs⟩ hac hD2
            have hdl' : ds.length = m2 := by omega
            have hi5 : ((m2 : Nat) : Int).toNat * (10 * five) ≤ 4 * (10 * five) := Nat.mul_le_mul_right _ (by omega)
            obtain ⟨ms, hms, hml, hsum⟩ := cnt_list5 hcs
            obtain ⟨kk, hkk, hkind, hbut⟩ : ∃ kk : Str, atI [V.str "and", V.str "or", V.str "and", V.str "but"] (so - 4) = some (.str kk) ∧ (kk = "and" ∨ kk = "or" ∨ kk = "but") ∧ (kk = "but" → 6 < so) := by
              have : so = 4 ∨ so = 5 ∨ so = 6 ∨ so = 7 := by omega
              rcases this with rfl | rfl | rfl | rfl
              · exact ⟨"and", rfl, .inl rfl, fun z => absurd z (by decide +kernel)⟩
              · exact ⟨"or", rfl, .inr (.inl rfl), fun z => absurd z (by decide +kernel)⟩
              · exact ⟨"and", rfl, .inl rfl, fun z => absurd z (by decide +kernel)⟩
              · exact ⟨"but", rfl, .inr (.inr rfl), fun _ => by decide⟩
            wtm_at "wp"
            rename_i t9 n9 H9 s9 h9 t10 n10 H10 s10 h10
            refine w_tupOf (.of (s10 _ _ (s9 _ _ hD2))) (fun t11 H11 n11 s11 h11 => ?_)
            refine w_catT (s11 _ _ h10) h11 (by simp) (by have := rr8.length; simp; omega) (fun o H12 s12 h12 => ?_)
            have S12 := s9.trans (s10.trans (s11.trans s12))
            obtain ⟨e, rfl⟩ : ∃ e, deep = e + 1 := ⟨deep - 1, by omega⟩
            have hj : joinC (ds.map (cnt e)) = some ms.sum := by
              have hms' : ds.map (cnt e) = ms.map some := hms
              unfold joinC
              rw [List.length_map, if_pos ⟨by omega, by omega, by rw [hms']; simp⟩, hms']
              simp
            have hcnt : cnt (e + 1) (.tuple (.str kk :: ds)) = some ms.sum := by
              rcases hkind with rfl | rfl | rfl
              · rw [cnt_and]; exact hj
              · rw [cnt_or]; exact hj
              · rw [cnt_but]
                unfold butC
                rw [List.length_map, if_pos (by have := hm26 (hbut rfl); omega)]
                exact hj
            rw [hdl'] at hsum
            exact k o _ ms.sum H12 (.tup h12 (.cons (.str kk) (rr8.same S12))) hcnt (by omega) (K7.trans (k8.trans (KB.of S12))) (p8.mono S12 (by omega))

end
end K74

namespace K74
abbrev s_law_right_places : Stmt := topS 79
theorem sc_law_right_places : FnScope ["_law_query_here", "_law_words", "_law_many", "_law_parts", "_law_far", "_law_one", "_law_other", "_law_found", "_law_at", "_law_to"] ["_law_query_here", "_law_words"] (defScope s_law_right_places) := ⟨rfl, rfl, rfl, by decide +kernel, rfl, by decide +kernel, by decide +kernel⟩
abbrev s_law_first : Stmt := topS 80
theorem sc_law_first : FnScope ["_law_grounds", "_law_word", "_law_which"] ["_law_grounds", "_law_word"] (defScope s_law_first) := ⟨rfl, rfl, rfl, by decide +kernel, rfl, by decide +kernel, by decide +kernel⟩
section
variable {P : Program} {w : World} {K : PySem.W.Frag} {mg : Str → Option Value} {base : Heap} {Z : Zs} {C_Page C_Broken C_Full C_Gone C_NoFile C_Torn : Addr}
def spText : Sp := fun vs H Q _ => ∃ (p : Addr) (n most : Nat), vs = [.ref p, .int most] ∧ Purse H p n ∧ n ≤ 10 ^ 7 ∧ most ≤ 100 ∧
  ∀ (us : List Str) H', us.length ≤ most → (∀ u ∈ us, isW u = true) → KB p H H' → Purse H' p (n + 101) → Q (.str (Txt.join " " us)) H'
theorem ok_text5 {f : Addr} {fd : FuncData} (F : Fun K "_law_text" "_law_text" s_law_text f fd) (T : Txt K mg Z C_Page C_Broken C_Full C_Gone C_NoFile C_Torn) (f__law_take : Fn P w K mg base "_law_take" 1 ["_law_purse_here", "_law_many"] spTake) : FnOk P w K mg base CX0 2 f fd ["_law_purse_here", "_law_most"] spText := by
  refine F.ok sc_law_text (fun vs H Q E h => ?_) (fun cdv A outer s H vs Q E hr h => ?_)
  · obtain ⟨p, n, most, rfl, _⟩ := h
    rfl
  · obtain ⟨p, n, most, rfl, hp, hn, hm, k⟩ := h
    have hn7 : n ≤ 10000000 := hn
    refine ⟨_, (pss_cons (ps_set (i := 2) sc_law_text.nd rfl (.inr rfl) (pe_lst (pa_cons pe_str (pa_cons pe_str (pa_cons pe_str (pa_cons pe_str (pa_cons pe_str (pa_cons pe_str pa_nil))))))))
 (pss_one (ps_ret (pe_join pe_str (pe_lc (own := [("_law_k", 3)]) (g := gName 3) (tt := tYes) rfl sc_law_text.nd (pi_range1 (by rfl) T.n_range (pa_cons (pe_fn f__law_take (hr.mono (by omega)) rfl (pa_cons (pv 0) (pa_cons (pe_op op_add (pv 1) pe_int) pa_nil))) pa_nil)) (blkOk_by (own := [("_law_k", 3)]) (N := ["_law_purse_here", "_law_most", "_law_some", "_law_k"]) (sc := defScope s_law_text) (by decide +kernel)) (fun _ _ _ _ _ => pg_name (i := 3) sc_law_text.nd rfl (Or.inl rfl)) (fun _ _ _ _ _ => pts_nil) (fun _ _ _ _ _ => (pe_ix (show IxR _ (rIxL K) from ix_list) (pv 2) (pe_fn f__law_take (hr.mono (by omega)) rfl (pa_cons (pv 0) (pa_cons pe_int pa_nil))) (fun _ _ => rfl)))))))), ?_⟩
    wtm_at "w0"
    wtm_at "wp"
    rename_i q nq H1 s1 hq
    have npq : q ≠ p := (ne_of_none hp.at.choose_spec nq).symm
    refine ⟨p, _, _, rfl, hp.mono s1 (Nat.le_refl _), by omega, by omega, by omega, fun d2 H2 d20 d21 k2 p2 => ?_⟩
    have hq2 := k2 _ _ hq npq
    have K2 := (KB.of s1).trans k2
    obtain ⟨c, rfl⟩ := Int.eq_ofNat_of_zero_le d20
    wtm_at "wp"
    refine ⟨_, rfl, by omega, by omega, ?_⟩
    refine lc_fin (n := ((c : Nat) : Int).toNat) fin_rng (fun i acc H' => KB p H2 H' ∧ Purse H' p (n + 1 + i) ∧ ∃ us : List Str, acc = us.map V.str ∧ us.length = i ∧ ∀ u ∈ us, isW u = true) (fun D H5 nD s5 hD => ⟨KB.of s5, p2.mono s5 (Nat.le_refl _), [], rfl, rfl, by simp⟩) (fun _ _ _ _ _ => trivial) ?_ ?_
    · rintro D i v acc H5 H6 nD hi hac ⟨k5, p5, us, rfl, hl5, hy5⟩ hD ⟨rfl, rfl⟩
      have nDp : D ≠ p := (ne_of_none p2.at.choose_spec nD).symm
      have hq5 := k5 _ _ hq2 npq
      wtm_at "wp"
      refine ⟨rfl, ?_⟩
      wtm_at "wp"
      refine ⟨p, 6, _, rfl, p5, by omega, by decide, by decide, fun d6 H7 d60 d61 k7 p7 => ?_⟩
      obtain ⟨wd, hwd, hwW⟩ := six_at d60 d61
      refine w_ixL (.of (k7 _ _ hq5 npq)) hwd ?_
      refine w_acc (k7 _ _ hD nDp) hac hi (sz (by omega)) (fun H8 k8 h8 => ⟨kb2 (k5.trans k7) k8 nD, p7.kb k8 nDp.symm, us ++ [wd], by simp, by simp [hl5], fun y hy => ?_⟩)
      rcases List.mem_append.mp hy with h | h
      · exact hy5 y h
      · rw [List.mem_singleton.mp h]
        exact hwW
    · rintro D acc H5 nD ⟨k5, p5, us, rfl, hul, huW⟩ hac hD
      have hjl := join_len huW
      have h1s : (" " : Str).length = 1 := rfl
      have oku : okWs us = true := by unfold okWs; rw [decide_eq_true (by omega), List.all_eq_true.mpr huW]; rfl
      have sumu := (ok_bounds oku).2.2
      wtm_at "wp"
      refine ⟨" ", D, us, rfl, rfl, .inl (.of hD), by rw [h1s]; omega, ?_⟩
      exact k us H5 (by omega) huW (K2.trans k5) (p5.mono (.refl _) (by omega))

theorem fold_word : ∀ (l : List Nat) (a : List (List Nat)) (b : List Nat), (∀ c ∈ l, Unicode.isSpace c = false) → l.foldl TL.wstep (a, b) = (a, b ++ l)
  | [], a, b, _ => by simp
  | c :: r, a, b, h => by
    rw [List.foldl_cons]
    have e : TL.wstep (a, b) c = (a, b ++ [c]) := by
      unfold TL.wstep
      rw [if_neg (by rw [h c List.mem_cons_self]; decide)]
    rw [e, fold_word r a (b ++ [c]) fun x hx => h x (List.mem_cons_of_mem _ hx), List.append_assoc]
    rfl
theorem fold_join : ∀ (r : List Str) (u : Str) (a : List (List Nat)), (∀ w ∈ u :: r, isW w = true) → TL.wfin ((TL.tl (Str.join " " (u :: r))).foldl TL.wstep (a, [])) = a ++ (u :: r).map TL.tl
  | [], u, a, h => by
    have hu := h u List.mem_cons_self
    have hsp : ∀ c ∈ TL.tl u, Unicode.isSpace c = false := fun c hc => by
      unfold isW at hu
      simp only [Bool.and_eq_true, decide_eq_true_eq, List.all_eq_true] at hu
      have h3 := hu.2 c hc
      have : ∀ c ∈ abc.cps.toList, Unicode.isSpace c = false := by decide +kernel
      exact this c h3
    have hne : TL.tl u ≠ [] := fun z => by
      unfold isW at hu
      simp only [Bool.and_eq_true, decide_eq_true_eq] at hu
      have h1 := hu.1.1
      rw [TL.len_tl, z] at h1
      simp at h1
    show TL.wfin ((TL.tl u).foldl TL.wstep (a, [])) = _
    rw [fold_word _ _ _ hsp, List.nil_append]
    unfold TL.wfin
    rw [if_neg hne]
    rfl
  | v :: r, u, a, h => by
    have hu := h u List.mem_cons_self
    have hsp : ∀ c ∈ TL.tl u, Unicode.isSpace c = false := fun c hc => by
      unfold isW at hu
      simp only [Bool.and_eq_true, decide_eq_true_eq, List.all_eq_true] at hu
      have h3 := hu.2 c hc
      have : ∀ c ∈ abc.cps.toList, Unicode.isSpace c = false := by decide +kernel
      exact this c h3
    have hne : TL.tl u ≠ [] := fun z => by
      unfold isW at hu
      simp only [Bool.and_eq_true, decide_eq_true_eq] at hu
      have h1 := hu.1.1
      rw [TL.len_tl, z] at h1
      simp at h1
    rw [PyProof.Rows.join_cons_cons, TL.tl_append, TL.tl_append, List.foldl_append, List.foldl_append, fold_word _ _ _ hsp, List.nil_append]
    have e : (TL.tl (" " : Str)).foldl TL.wstep (a, TL.tl u) = (a ++ [TL.tl u], []) := by
      show TL.wstep (a, TL.tl u) 32 = _
      unfold TL.wstep
      rw [if_pos (by decide +kernel), if_neg hne]
    rw [e, fold_join r v _ fun w hw => h w (List.mem_cons_of_mem _ hw), List.append_assoc]
    rfl
theorem words_join {us : List Str} (h : ∀ w ∈ us, isW w = true) : Txt.words (Txt.join " " us) = us := by
  refine TL.map_tl_inj ?_
  rw [TL.words_tl, txt_join]
  cases us with
  | nil => rfl
  | cons u r => rw [fold_join r u [] h]; rfl
/-! ### the law's own right places -/
/-- rows of places: a place alone, or a pair -/
def rowsD (k : Str) (d : PyData) : List PyData := match d with
  | .list ds => if k = "near" then ds else ds.map fun x => .tuple [x]
  | _ => []
/-- the pairs found from the places below e -/
def nearR (f : Int) (a b : Str) (held : List Str) (e : Nat) : List (Nat × Nat) := ((List.range e).map fun i => if held[i]? = some a then ((List.range held.length).filter fun x => decide (held[x]? = some b) && isNear f i x).map (fun x => (i, x)) else []).flatten
theorem nearR_yes {f : Int} {a b : Str} {held : List Str} {e : Nat} (h : held[e]? = some a) : nearR f a b held (e + 1) = nearR f a b held e ++ ((List.range held.length).filter fun x => decide (held[x]? = some b) && isNear f e x).map (fun x => (e, x)) := by
  unfold nearR
  rw [List.range_succ, List.map_append, List.flatten_append]
  simp [h]
theorem nearR_no {f : Int} {a b : Str} {held : List Str} {e : Nat} (h : ¬ held[e]? = some a) : nearR f a b held (e + 1) = nearR f a b held e := by
  unfold nearR
  rw [List.range_succ, List.map_append, List.flatten_append]
  simp [h]
theorem nearR_all {f : Int} {a b : Str} {held : List Str} : nearP f a b held = nearR f a b held held.length := by
  unfold nearP nearR plc
  rw [flat_filter]
  congr 1
  refine List.map_congr_left fun i _ => ?_
  by_cases h : held[i]? = some a
  · rw [if_pos (decide_eq_true h), if_pos h, List.filter_filter]
    congr 1
    refine List.filter_congr fun x _ => ?_
    exact Bool.and_comm _ _
  · rw [if_neg (by rw [decide_eq_false h]; decide), if_neg h]
def spRP : Sp := fun vs H Q _ => ∃ (t q : Addr) (k : Str) (ps : List PyData) (xr : List V) (held : List Str), vs = [.ref t, .ref q] ∧ PlQ H t k ps xr ∧ HW H q held ∧ held.length ≤ 120 ∧ ∀ l H', Same H H' → Rp H' (.ref l) (.list (rowsD k (plcD (.tuple (.str k :: ps)) held))) → Q (.ref l) H'
theorem ok_rplc {f : Addr} {fd : FuncData} (F : Fun K "_law_right_places" "_law_right_places" s_law_right_places f fd) (T : Txt K mg Z C_Page C_Broken C_Full C_Gone C_NoFile C_Torn) : FnOk P w K mg base CX0 1 f fd ["_law_query_here", "_law_words"] spRP := by
  refine F.ok sc_law_right_places (fun vs H Q E h => ?_) (fun cdv A outer s H vs Q E hr h => ?_)
  · obtain ⟨t, q, k, ps, xr, held, rfl, _⟩ := h
    rfl
  · obtain ⟨t, q, kk, ps, xr, held, rfl, hq, hw, hl, k⟩ := h
    have ht := hq.at_
    have hqq := hw.at_
    refine ⟨_, (pss_cons (ps_set (i := 2) sc_law_right_places.nd rfl (.inl rfl) (pe_callB cl_len (by rfl) T.n_len PySem.boot_len (pa_cons (pv 1) pa_nil)))
 (pss_cons (ps_if (pt_cmpR op_ne (pe_ix ix_tup (pv 0) pe_int (fun _ _ => rfl)) pe_str (nomark _))
 (pss_cons (ps_set (i := 3) sc_law_right_places.nd rfl (.inr rfl) (pe_callTy cl_list (by rfl) T.n_list PyProof.Rows.boot_list (pa_cons (pe_slice sl_tup (pv 0) (po_some pe_int) po_none) pa_nil)))
 (pss_one (ps_ret (pe_lc (own := [("_law_at", 8)]) (g := gName 8) rfl sc_law_right_places.nd (pi_range1 (by rfl) T.n_range (pa_cons (pv 2) pa_nil)) (blkOk_by (own := [("_law_at", 8)]) (N := ["_law_query_here", "_law_words", "_law_many", "_law_parts", "_law_far", "_law_one", "_law_other", "_law_found", "_law_at", "_law_to"]) (sc := defScope s_law_right_places) (by decide +kernel)) (fun _ _ _ _ _ => pg_name (i := 8) sc_law_right_places.nd rfl (Or.inl rfl)) (fun _ _ _ _ _ => (pts_one (pt_cmpR (show OpR _ _ (rEqD K) from (op_eqD hr.units)) (pe_slice (show SlR _ (rSlL K) from sl_list) (pv 1) (po_some (pv 8)) (po_some (pe_op op_add (pv 8) (pe_callB (show CallR _ _ (Bw.rLen K) from cl_len) (by rfl) T.n_len PySem.boot_len (pa_cons (pv 3) pa_nil))))) (pv 3) (nomark _)))) (fun _ _ _ _ _ => (pe_tup (pa_cons (pv 8) pa_nil)))))))
 pss_nil)
 (pss_cons (ps_asg (pe_slice sl_tup (pv 0) (po_some pe_int) po_none) (pg_tup rfl (pgs_cons (pg_name (i := 4) sc_law_right_places.nd rfl (.inr rfl)) (pgs_cons (pg_name (i := 5) sc_law_right_places.nd rfl (.inl rfl)) (pgs_cons (pg_name (i := 6) sc_law_right_places.nd rfl (.inr rfl)) pgs_nil)))))
 (pss_cons (ps_set (i := 7) sc_law_right_places.nd rfl (.inl rfl) (pe_lst pa_nil))
 (pss_cons (ps_for PassesOwn.never rfl (pi_range1 (by rfl) T.n_range (pa_cons (pv 2) pa_nil)) (pg_name (i := 8) sc_law_right_places.nd rfl (.inr rfl))
 (pss_one (ps_if (pt_cmpR op_eq (pe_ix ix_list (pv 1) (pv 8) (fun _ _ => rfl)) (pv 5) (nomark _))
 (pss_one (ps_set (i := 7) sc_law_right_places.nd rfl (.inl rfl) (pe_op op_cat (pv 7) (pe_lc (own := [("_law_to", 9)]) (g := gName 9) rfl sc_law_right_places.nd (pi_range1 (by rfl) T.n_range (pa_cons (pv 2) pa_nil)) (blkOk_by (own := [("_law_to", 9)]) (N := ["_law_query_here", "_law_words", "_law_many", "_law_parts", "_law_far", "_law_one", "_law_other", "_law_found", "_law_at", "_law_to"]) (sc := defScope s_law_right_places) (by decide +kernel)) (fun _ _ _ _ _ => pg_name (i := 9) sc_law_right_places.nd rfl (Or.inl rfl)) (fun _ _ _ _ _ => (pts_one (PW.pt (pw_and (pt_cmpR op_eq (pe_ix (show IxR _ (rIxL K) from ix_list) (pv 1) (pv 9) (fun _ _ => rfl)) (pv 6) (nomark _)) (pw_and1 (pt_chain op_le op_le pe_int (pe_callB cl_abs (by rfl) T.n_abs PyProof.Rows.boot_abs (pa_cons (pe_op op_sub (pv 8) (pv 9)) pa_nil)) (pv 4))))))) (fun _ _ _ _ _ => (pe_tup (pa_cons (pv 8) (pa_cons (pv 9) pa_nil))))))))
 pss_nil)))
 (pss_one (ps_ret (pv 7)))))))), ?_⟩
    wtm_at "w0"
    wtm_at "wp"
    rcases hq.cases with ⟨fa, a, b, rfl, rfl, rfl, haW, hbW⟩ | ⟨hn, us, rfl, rfl, hne, hul, huW, hpl⟩
    · refine iteF' (by simp) ?_
      wtm_at "wp"
      refine w_slTd (i := 1) (.of ht) (by decide) (by simp) (fun p1 H1 n1 s1 h1 => ?_)
      have h1' : H1 p1 = some (.tup [.int fa, .str a, .str b]) := h1
      wtm_at "wp"
      rename_i p2 n2 H2 s2 h2
      have S2 := s1.trans s2
      have hq2 := S2 _ _ hqq
      rw [List.length_map]
      have ep : rowsD "near" (plcD (.tuple [.str "near", .int fa, .str a, .str b]) held) = (nearR fa a b held held.length).map pD := by
        rw [plcD_near, nearR_all]
        unfold rowsD
        exact if_pos rfl
      rw [ep] at k
      refine ⟨_, rfl, by omega, by omega, for_fin (n := ((held.length : Nat) : Int).toNat) fin_rng (fun j σ H' => ∃ (l : Addr) (acc : List V) (v8 v9 : Option V), σ = [some (.ref t), some (.ref q), some (.int (held.length : Nat)), none, some (.int fa), some (.str a), some (.str b), some (.ref l), v8, v9] ∧ Same H2 H' ∧ H' l = some (.lst acc) ∧ RpAll H' acc ((nearR fa a b held j).map pD) ∧ acc.length ≤ j * 120) ⟨p2, [], _, _, rfl, .refl _, h2, .nil, by simp⟩ (fun _ _ _ _ _ => trivial) ?_ ?_⟩
      · rintro j z σ H3' H3 hj ⟨l, acc, v8, v9, rfl, s3, hl3, r3, ln3⟩ ⟨rfl, rfl⟩
        have hj' : j < held.length := by omega
        have hq3 := s3 _ _ hq2
        wtm_at "wp"
        rw [Int.zero_add]
        have hx : atI (held.map V.str) (j : Int) = some (.str held[j]) := atI_nat (by rw [List.getElem?_map, List.getElem?_eq_getElem hj']; rfl)
        refine w_ixL (.of hq3) hx ?_
        wtm_at "wp"
        refine w_dec (fun g => ?_) (fun g => ?_)
        · have g' : held[j]? = some a := by rw [List.getElem?_eq_getElem hj', V.str.inj g]
          wtm_at "wp"
          refine ⟨_, rfl, by omega, by omega, ?_⟩
          refine lc_fin (n := ((held.length : Nat) : Int).toNat) fin_rng (fun e acc' H' => Same H3 H' ∧ RpAll H' acc' ((((List.range e).filter fun x => decide (held[x]? = some b) && isNear fa j x).map fun x => (j, x)).map pD)) (fun D H4 nD s4 hD => ⟨s4, .nil⟩) (fun _ _ _ _ _ => trivial) ?_ ?_
          · rintro D e v acc' H4 H5 nD he hac ⟨s4, r4⟩ hD ⟨rfl, rfl⟩
            have he' : e < held.length := by omega
            have hq4 := s4 _ _ hq3
            rw [Int.zero_add]
            wtm_at "wp"
            refine ⟨rfl, ?_⟩
            wtm_at "wp"
            have hx2 : atI (held.map V.str) (e : Int) = some (.str held[e]) := atI_nat (by rw [List.getElem?_map, List.getElem?_eq_getElem he']; rfl)
            refine w_ixL (.of hq4) hx2 ?_
            wtm_at "wp"
            have enr : isNear fa j e = decide (1 ≤ ((j : Int) - e).natAbs ∧ ((((j : Int) - e).natAbs : Nat) : Int) ≤ fa) := rfl
            have skip : (decide (held[e]? = some b) && isNear fa j e) = false → NxI D e (fun e acc' H' => Same H3 H' ∧ RpAll H' acc' ((((List.range e).filter fun x => decide (held[x]? = some b) && isNear fa j x).map fun x => (j, x)).map pD)) H5 := fun z => by
              refine w_skip hD hac ⟨s4, ?_⟩
              rw [List.range_succ, List.filter_append, filt0 (p := fun x => decide (held[x]? = some b) && isNear fa j x) z, List.append_nil]
              exact r4
            refine w_dec (fun g0 => ?_) (fun g0 => ?_)
            · have ge : held[e]? = some b := by rw [List.getElem?_eq_getElem he', V.str.inj g0]
              wtm_at "wp"
              refine w_dec (fun g1 => ?_) (fun g1 => ?_)
              · wtm_at "wp"
                refine w_dec (fun g2 => ?_) (fun g2 => ?_)
                · wtm_at "wp"
                  rename_i t7 n7 H7 s7 h7
                  refine w_acc (s7 _ _ hD) hac he (sz (by omega)) (fun H8 k8 h8 => ⟨k8.same (s4.trans s7) nD, ?_⟩)
                  have tk : TupK H7 H8 := TupK.kb k8 (s7 _ _ hD)
                  have et : (decide (held[e]? = some b) && isNear fa j e) = true := by rw [decide_eq_true ge, enr]; exact decide_eq_true ⟨by omega, g2⟩
                  rw [List.range_succ, List.filter_append, filt1 (p := fun x => decide (held[x]? = some b) && isNear fa j x) et, List.map_append, List.map_append]
                  refine RpAll.append ((r4.same s7).tupk tk (noLs_all fun d hd => ?_)) (.cons (.tup (tk _ _ h7) (.cons (.int _) (.cons (.int _) .nil))) .nil)
                  obtain ⟨q, _, rfl⟩ := List.mem_map.mp hd
                  rfl
                · wtm_at "wp"
                  exact skip (by rw [decide_eq_true ge, enr, Bool.true_and]; exact decide_eq_false fun z => g2 z.2)
              · wtm_at "wp"
                exact skip (by rw [decide_eq_true ge, enr, Bool.true_and]; exact decide_eq_false fun z => g1 (by have := z.1; omega))
            · have ge : ¬ held[e]? = some b := fun z => g0 (by rw [List.getElem?_eq_getElem he'] at z; rw [Option.some.inj z])
              wtm_at "wp"
              exact skip (by rw [decide_eq_false ge, Bool.false_and])
          · rintro D acc' H4 nD ⟨s4, r4⟩ hac hD
            have hl4 := s4 _ _ hl3
            have nlD : l ≠ D := ne_of_none hl3 nD
            have l4 : acc'.length ≤ 120 := by omega
            have l5 : acc.length ≤ 14400 := Nat.le_trans ln3 (by have := Nat.mul_le_mul_right 120 (Nat.le_of_lt hj'); omega)
            wtm_at "wp"
            rename_i pc Hc nc sc hc
            refine ⟨pc, acc ++ acc', _, _, rfl, s3.trans (s4.trans sc), hc, ?_, by rw [List.length_append]; omega⟩
            rw [nearR_yes g', List.map_append]
            exact ((r3.same s4).same sc).append (r4.same sc)
        · wtm_at "wp"
          refine ⟨l, acc, _, _, rfl, s3, hl3, ?_, by omega⟩
          have g' : ¬ held[j]? = some a := fun z => g (by rw [List.getElem?_eq_getElem hj'] at z; rw [Option.some.inj z])
          rw [nearR_no g']
          exact r3
      · rintro σ H3 ⟨l, acc, v8, v9, rfl, s3, hl3, r3, ln3⟩
        wtm_at "wp"
        exact k l H3 (S2.trans s3) (.lst hl3 r3)
    · refine iteT' (by rw [decide_eq_false (fun z => hn (V.str.inj z))]; rfl) ?_
      wtm_at "wp"
      refine w_slTd (i := 1) (.of ht) (by decide) (by simp) (fun p1 H1 n1 s1 h1 => ?_)
      have h1' : H1 p1 = some (.tup (us.map V.str)) := h1
      wtm_at "wp"
      refine w_listOfT (.of h1') (fun p2 H2 n2 s2 h2 => ?_)
      have S2 := s1.trans s2
      have hq2 := S2 _ _ hqq
      wtm_at "wp"
      rw [List.length_map]
      refine ⟨_, rfl, by omega, by omega, ?_⟩
      have ep : rowsD kk (plcD (.tuple (.str kk :: us.map PyData.str)) held) = (lrun held us).map fun i : Nat => .tuple [.int i] := by
        rw [hpl, lrun_eq hne]
        unfold rowsD
        refine (if_neg hn).trans ?_
        rw [List.map_map]
        rfl
      rw [ep] at k
      refine lc_fin (n := held.length) fin_rng (fun j acc H' => Same H2 H' ∧ RpAll H' acc (((List.range j).filter fun i => decide ((held.drop i).take us.length = us)).map fun i : Nat => .tuple [.int i])) (fun D H2 nD s2 hD => ⟨s2, .nil⟩) (fun _ _ _ _ _ => trivial) ?_ ?_
      · rintro D j v acc H3 H4 nD hj hac ⟨s3, r3⟩ hD ⟨rfl, rfl⟩
        have hq3 := s3 _ _ hq2
        have h23 := s3 _ _ h2
        rw [Int.zero_add]
        wtm_at "wp"
        refine ⟨rfl, ?_⟩
        wtm_at "wp"
        rename_i l4 H4' n4 s4 h4
        rw [List.length_map, cut_strs (Nat.le_of_lt hj)] at h4
        have hsub : ∀ w ∈ (held.drop j).take us.length, isW w = true := fun w hw' => hw.all w (List.mem_of_mem_drop (List.mem_of_mem_take hw'))
        refine w_eqD (.lst (.of h4) (dpAll_str _)) (.lst (.of (s4 _ _ h23)) (dpAll_str us)) (shaped_str (fun b hb => isW_strOk (hsub b hb))) (shaped_str (fun b hb => isW_strOk (huW b hb))) (eqv_strs _ _) ?_
        have S5 := s3.trans s4
        have hD5 := s4 _ _ hD
        wtm_at "wp"
        refine w_dec (fun g => ?_) (fun g => ?_)
        · wtm_at "wp"
          rename_i t5 n5 H5 s5 h5
          refine w_acc (s5 _ _ hD5) hac hj (sz (by omega)) (fun H6 k6 h6 => ⟨k6.same (S5.trans s5) nD, ?_⟩)
          have tk : TupK H5 H6 := TupK.kb k6 (s5 _ _ hD5)
          rw [List.range_succ, List.filter_append, List.map_append, filt1 (p := fun i => decide ((held.drop i).take us.length = us)) (decide_eq_true g)]
          refine RpAll.append (((r3.same s4).same s5).tupk tk (noLs_all fun d hd => ?_)) (.cons (.tup (tk _ _ h5) (.cons (.int _) .nil)) .nil)
          obtain ⟨i, _, rfl⟩ := List.mem_map.mp hd
          rfl
        · refine w_skip hD5 hac ⟨S5, ?_⟩
          rw [List.range_succ, List.filter_append, List.map_append, filt0 (p := fun i => decide ((held.drop i).take us.length = us)) (decide_eq_false g), List.map_nil, List.append_nil]
          exact r3.same s4
      · rintro D acc H3 nD ⟨s3, r3⟩ hac hD
        wtm_at "wp"
        exact k D H3 (S2.trans s3) (.lst hD r3)
theorem ok_lfirst {f : Addr} {fd : FuncData} (F : Fun K "_law_first" "_law_first" s_law_first f fd) (T : Txt K mg Z C_Page C_Broken C_Full C_Gone C_NoFile C_Torn) : FnOk P w K mg base CX0 1 f fd ["_law_grounds", "_law_word"] spFirst := by
  refine F.ok sc_law_first (fun vs H Q E h => ?_) (fun cdv A outer s H vs Q E hr h => ?_)
  · obtain ⟨l, w, xs, gs, rfl, _⟩ := h
    rfl
  · obtain ⟨l, w, xs, gs, rfl, hl, rr, hT, hlen, k⟩ := h
    have hxl : xs.length = gs.length := by rw [rr.length, List.length_map]
    refine ⟨_, (pss_cons (ps_for PassesOwn.never rfl (pi_range1 (by rfl) T.n_range (pa_cons (pe_callB cl_len (by rfl) T.n_len PySem.boot_len (pa_cons (pv 0) pa_nil)) pa_nil)) (pg_name (i := 2) sc_law_first.nd rfl (.inl rfl))
 (pss_one (ps_if (pt_cmpR op_isnot0 (pe_ix ix_list (pv 0) (pv 2) (fun _ _ => rfl)) pe_non (nomark _))
 (pss_one (ps_ret (pe_tup (pa_cons (pv 1) (pa_cons (pv 2) (pa_cons (pe_ix ix_list (pv 0) (pv 2) (fun _ _ => rfl)) pa_nil))))))
 pss_nil)))
 (pss_one (ps_ret pe_non))), ?_⟩
    wtm_at "w0"
    wtm_at "wp"
    refine ⟨_, rfl, by omega, by omega, for_fin (n := ((xs.length : Nat) : Int).toNat) fin_rng (fun i σ H' => ∃ v2 : Option V, σ = [some (.ref l), some (.str w), v2] ∧ H' = H ∧ fstG w 0 gs = fstG w i (gs.drop i)) ⟨_, rfl, rfl, rfl⟩ (fun _ _ _ _ _ => trivial) ?_ ?_⟩
    · rintro i z σ H2 H3 hi ⟨v2, rfl, rfl, e2⟩ ⟨rfl, rfl⟩
      have hi' : i < xs.length := by omega
      have hx : xs[i]? = some xs[i] := List.getElem?_eq_getElem hi'
      obtain ⟨d, hd, rx⟩ := rr.at hx
      rw [List.getElem?_map] at hd
      obtain ⟨o, ho, rfl⟩ := Option.map_eq_some_iff.mp hd
      rw [fst_step ho] at e2
      generalize xs[i] = x at *
      wtm_at "wp"
      rw [Int.zero_add]
      refine w_ixL (.of hl) (atI_nat hx) ?_
      cases o with
      | none =>
        cases rx
        wtm_at "wp"
        exact ⟨_, rfl, rfl, e2⟩
      | some g =>
        obtain ⟨ds, rfl⟩ := (hT _ (List.mem_of_getElem? ho) g rfl).1
        cases rx with
        | tup ha ra =>
          wtm_at "wp"
          refine w_ixL (.of hl) (atI_nat hx) ?_
          wtm_at "wp"
          rename_i p4 H4 n4 s4 h4
          rw [e2] at k
          exact k _ _ s4 (.tup h4 (.cons (.str _) (.cons (.int _) (.cons ((Rp.tup ha ra).same s4) .nil))))
    · rintro σ H2 ⟨v2, rfl, rfl, e2⟩
      rw [List.drop_of_length_le (by omega)] at e2
      wtm_at "wp"
      rw [e2] at k
      exact k _ _ (.refl _) .non

end
end K74

namespace K74
abbrev s_law_ground : Stmt := topS 81
theorem sc_law_ground : FnScope ["_law_query_here", "_law_words", "_law_yes", "_law_found", "_law_both", "_law_one", "_law_other", "_law_grounds", "_law_part"] ["_law_query_here", "_law_words", "_law_yes"] (defScope s_law_ground) := ⟨rfl, rfl, rfl, by decide +kernel, rfl, by decide +kernel, by decide +kernel⟩
section
variable {P : Program} {w : World} {K : PySem.W.Frag} {mg : Str → Option Value} {base : Heap} {Z : Zs} {C_Page C_Broken C_Full C_Gone C_NoFile C_Torn : Addr}
theorem rows_of {H : Hp} {t : Addr} {k : Str} {ps : List PyData} {xr : List V} (h : PlQ H t k ps xr) {held : List Str} (hl : held.length ≤ 120) : ∃ rows : List (List PyData), rowsD k (plcD (.tuple (.str k :: ps)) held) = rows.map PyData.tuple ∧ atG k (plcD (.tuple (.str k :: ps)) held) = (rows.head?.map fun r => .tuple (.str "at" :: r)) ∧ hasN (plcD (.tuple (.str k :: ps)) held) = !rows.isEmpty ∧ (∀ r ∈ rows, r.length ≤ 2 ∧ ∀ d ∈ r, ∃ i, d = .int i) ∧ rows.length ≤ 14400 := by
  rcases h.cases with ⟨fa, a, b, rfl, rfl, rfl, haW, hbW⟩ | ⟨hn, us, rfl, rfl, hne, hul, huW, hpl⟩
  · refine ⟨(nearP fa a b held).map fun z => [.int z.1, .int z.2], ?_, ?_, ?_, fun r hr => ?_, ?_⟩
    · rw [plcD_near]
      unfold rowsD
      refine (if_pos rfl).trans ?_
      rw [List.map_map]
      rfl
    · rw [plcD_near]
      cases nearP fa a b held with
      | nil => rfl
      | cons z r =>
        unfold atG
        exact (if_pos rfl).trans rfl
    · rw [plcD_near]
      cases nearP fa a b held with
      | nil => rfl
      | cons z r => rfl
    · obtain ⟨z, _, rfl⟩ := List.mem_map.mp hr
      refine ⟨by simp, fun d hd => ?_⟩
      simp only [List.mem_cons, List.not_mem_nil, or_false] at hd
      rcases hd with rfl | rfl
      · exact ⟨_, rfl⟩
      · exact ⟨_, rfl⟩
    · rw [List.length_map]
      exact Nat.le_trans (nearP_len _ _ _ _) (Nat.le_trans (Nat.mul_le_mul hl hl) (by decide))
  · refine ⟨(runP held us).map fun i : Nat => [PyData.int (i : Int)], ?_, ?_, ?_, fun r hr => ?_, ?_⟩
    · rw [hpl]
      unfold rowsD
      refine (if_neg hn).trans ?_
      rw [List.map_map, List.map_map]
      rfl
    · rw [hpl]
      cases runP held us with
      | nil => rfl
      | cons z r =>
        unfold atG
        exact if_neg hn
    · rw [hpl]
      cases runP held us with
      | nil => rfl
      | cons z r => rfl
    · obtain ⟨z, _, rfl⟩ := List.mem_map.mp hr
      refine ⟨by simp, fun d hd => ?_⟩
      rw [List.mem_singleton.mp hd]
      exact ⟨_, rfl⟩
    · rw [List.length_map]
      exact Nat.le_trans (runP_len _ _) (Nat.le_trans hl (by decide))
theorem good_rows {rows : List (List PyData)} (h : ∀ r ∈ rows, r.length ≤ 2 ∧ ∀ d ∈ r, ∃ i, d = .int i) : GoodD (.list (rows.map PyData.tuple)) 3 := good_list fun d hd => by
  obtain ⟨r, hr, rfl⟩ := List.mem_map.mp hd
  refine good_tuple fun e he => ?_
  obtain ⟨i, rfl⟩ := (h r hr).2 e he
  exact good_int
def spLG (K : PySem.W.Frag) (N : Nat) : Sp := fun vs H Q _ => ∃ (v : V) (q : Addr) (yes : Bool) (n m : Nat) (d : PyData) (held : List Str), vs = [v, .ref q, .bl yes] ∧ n ≤ N ∧ Rp H v d ∧ cnt n d = some m ∧ HW H q held ∧ ∀ v' H', Same H H' → Rp H' v' (optD (grG yes n d held)) → Q v' H'
theorem spLG0 : ∀ vs H Q E, ¬ spLG K 0 vs H Q E := fun vs H Q E ⟨_, _, _, n, m, _, _, _, hn, _, hc, _⟩ => by
  have : n = 0 := by omega
  rw [this] at hc
  cases hc
theorem ok_lgS {N k0 : Nat} {f : Addr} {fd : FuncData} (hN : N ≤ 10) (F : Fun K "_law_ground" "_law_ground" s_law_ground f fd) (T : Txt K mg Z C_Page C_Broken C_Full C_Gone C_NoFile C_Torn) (f__law_right_places : Fn P w K mg base "_law_right_places" 1 ["_law_query_here", "_law_words"] spRP) (f__law_first : Fn P w K mg base "_law_first" 1 ["_law_grounds", "_law_word"] spFirst) (f__law_ground : Fn P w K mg base "_law_ground" (k0 + 1) ["_law_query_here", "_law_words", "_law_yes"] (spLG K N)) : FnOk P w K mg base CX0 (k0 + 2) f fd ["_law_query_here", "_law_words", "_law_yes"] (spLG K (N + 1)) := by
  refine F.ok sc_law_ground (fun vs H Q E h => ?_) (fun cdv A outer s H vs Q E hr h => ?_)
  · obtain ⟨v, q, yes, n, m, d, held, rfl, _⟩ := h
    rfl
  · obtain ⟨v, q, yes, n, m, d, held, rfl, hn, hR, hc, hw, k⟩ := h
    have hn0 : n ≠ 0 := fun z => by rw [z] at hc; cases hc
    obtain ⟨n, rfl⟩ : ∃ j, n = j + 1 := ⟨n - 1, by omega⟩
    have hqo := cnt_inv hc
    obtain ⟨kk, ps, rfl⟩ := qof_head hqo
    have hR0 := hR
    cases hR with
    | @tup a xs _ ha hr' =>
      cases hr' with
      | @cons x0 _ xr _ rx rr =>
        cases rx
        have hlen := rr.length
        refine ⟨_, (pss_cons (ps_if (pt_cmpR op_in_seq (pe_ix ix_tup (pv 0) pe_int (fun _ _ => rfl)) (pe_tup (pa_cons pe_str (pa_cons pe_str (pa_cons pe_str pa_nil)))) (by rfl))
 (pss_cons (ps_set (i := 3) sc_law_ground.nd rfl (.inl rfl) (pe_fn f__law_right_places (hr.mono (by omega)) rfl (pa_cons (pv 0) (pa_cons (pv 1) pa_nil))))
 (pss_cons (ps_if (pt_val (pv 2))
 (pss_one (ps_ret (pe_ix ix_list (pe_lst (pa_cons pe_non (pa_cons (pe_op op_catT (pe_tup (pa_cons pe_str pa_nil)) (pe_ix ix_list (pe_op op_cat (pv 3) (pe_lst (pa_cons (pe_tup pa_nil) pa_nil))) pe_int (fun _ _ => rfl))) pa_nil))) (pe_callTy cl_int (by rfl) T.n_int PyProof.Rows.boot_int (pa_cons (pe_cmpR (op_neD hr.units) (pv 3) (pe_lst pa_nil) (nomark _)) pa_nil)) (fun _ _ => rfl))))
 pss_nil)
 (pss_one (ps_ret (pe_ix ix_list (pe_lst (pa_cons pe_non (pa_cons (pe_tup (pa_cons pe_str pa_nil)) pa_nil))) (pe_callTy cl_int (by rfl) T.n_int PyProof.Rows.boot_int (pa_cons (pe_cmpR (op_eqD hr.units) (pv 3) (pe_lst pa_nil) (nomark _)) pa_nil)) (fun _ _ => rfl))))))
 pss_nil)
 (pss_cons (ps_if (pt_cmpR op_eq (pe_ix ix_tup (pv 0) pe_int (fun _ _ => rfl)) pe_str (nomark _))
 (pss_cons (ps_if (pt_val (pv 2))
 (pss_cons (ps_set (i := 4) sc_law_ground.nd rfl (.inl rfl) (pe_lst (pa_cons (pe_fn f__law_ground (hr.mono (by omega)) rfl (pa_cons (pe_ix ix_tup (pv 0) pe_int (fun _ _ => rfl)) (pa_cons (pv 1) (pa_cons pe_bl pa_nil)))) (pa_cons (pe_fn f__law_ground (hr.mono (by omega)) rfl (pa_cons (pe_ix ix_tup (pv 0) pe_int (fun _ _ => rfl)) (pa_cons (pv 1) (pa_cons pe_bl pa_nil)))) pa_nil))))
 (pss_one (ps_ret (pe_ix ix_list (pe_lst (pa_cons (pe_tup (pa_cons pe_str (pa_cons (pe_ix ix_list (pv 4) pe_int (fun _ _ => rfl)) (pa_cons (pe_ix ix_list (pv 4) pe_int (fun _ _ => rfl)) pa_nil)))) (pa_cons pe_non pa_nil))) (pe_callTy cl_int (by rfl) T.n_int PyProof.Rows.boot_int (pa_cons (pe_cmpR (op_inD (units65 hr)) pe_non (pv 4) (by rfl)) pa_nil)) (fun _ _ => rfl)))))
 pss_nil)
 (pss_cons (ps_set (i := 5) sc_law_ground.nd rfl (.inl rfl) (pe_fn f__law_ground (hr.mono (by omega)) rfl (pa_cons (pe_ix ix_tup (pv 0) pe_int (fun _ _ => rfl)) (pa_cons (pv 1) (pa_cons pe_bl pa_nil)))))
 (pss_cons (ps_set (i := 6) sc_law_ground.nd rfl (.inl rfl) (pe_fn f__law_ground (hr.mono (by omega)) rfl (pa_cons (pe_ix ix_tup (pv 0) pe_int (fun _ _ => rfl)) (pa_cons (pv 1) (pa_cons pe_bl pa_nil)))))
 (pss_cons (ps_if (pt_cmpR op_isnot0 (pv 5) pe_non (nomark _))
 (pss_one (ps_ret (pe_tup (pa_cons pe_str (pa_cons (pv 5) pa_nil)))))
 pss_nil)
 (pss_one (ps_ret (pe_ix ix_list (pe_lst (pa_cons pe_non (pa_cons (pe_tup (pa_cons pe_str (pa_cons (pv 6) pa_nil))) pa_nil))) (pe_callTy cl_int (by rfl) T.n_int PyProof.Rows.boot_int (pa_cons (pe_cmpR op_isnot0 (pv 6) pe_non (nomark _)) pa_nil)) (fun _ _ => rfl))))))))
 pss_nil)
 (pss_cons (ps_setLc (i := 7) (own := [("_law_part", 8)]) (g := gName 8) (tt := tYes) rfl sc_law_ground.nd rfl rfl (sw_true rfl rfl rfl (by decide +kernel)) (show PI _ _ _ (iTup K _) from (pi_tup (pe_slice (show SlR _ (rSlT K) from sl_tup) (pv 0) (po_some pe_int) po_none))) (blkOk_by (own := [("_law_part", 8)]) (N := ["_law_query_here", "_law_words", "_law_yes", "_law_found", "_law_both", "_law_one", "_law_other", "_law_grounds", "_law_part"]) (sc := defScope s_law_ground) (by decide +kernel)) (fun _ _ _ _ _ => pg_name (i := 8) sc_law_ground.nd rfl (Or.inl rfl)) (fun _ _ _ _ _ => pts_nil) (fun _ _ _ _ _ => (pe_fn f__law_ground (hr.mono (by omega)) rfl (pa_cons (pv 8) (pa_cons (pv 1) (pa_cons (pv 2) pa_nil))))))
 (pss_cons (ps_if (pt_cmpR op_eq (pe_cmpR op_eq (pe_ix ix_tup (pv 0) pe_int (fun _ _ => rfl)) pe_str (nomark _)) (pv 2) (nomark _))
 (pss_one (ps_ret (pe_ix ix_list (pe_lst (pa_cons (pe_op op_catT (pe_tup (pa_cons pe_str pa_nil)) (pe_callTy cl_tuple (by rfl) T.n_tuple PyProof.Rows.boot_tuple (pa_cons (pv 7) pa_nil))) (pa_cons pe_non pa_nil))) (pe_callTy cl_int (by rfl) T.n_int PyProof.Rows.boot_int (pa_cons (pe_cmpR (op_inD (units65 hr)) pe_non (pv 7) (by rfl)) pa_nil)) (fun _ _ => rfl))))
 pss_nil)
 (pss_one (ps_ret (pe_fn f__law_first (hr.mono (by omega)) rfl (pa_cons (pv 7) (pa_cons (pe_ix ix_list (pe_lst (pa_cons pe_str (pa_cons pe_str pa_nil))) (pe_callTy cl_int (by rfl) T.n_int PyProof.Rows.boot_int (pa_cons (pv 2) pa_nil)) (fun _ _ => rfl)) pa_nil))))))))), ?_⟩
        wtm_at "w0"
        wtm_at "wp"
        rename_i pt nt Ht st ht
        refine w_inV (.inr (.of ht)) rfl rfl ?_
        rw [in_three]
        have ha1 := st _ _ ha
        have rr1 := rr.same st
        have hw1 := hw.same st
        rcases kindPl hqo with hk | ⟨n1, n2', n3⟩
        · have hpk := jn_kind hk
          obtain ⟨hps, hb, l2, l4⟩ := qof_join hqo hk
          rw [decide_eq_false hpk]
          wtm_at "wp"
          refine w_dec (fun hka => ?_) (fun hka => ?_)
          · have e : kk = "but" := V.str.inj hka
            subst e
            match ps, hb rfl, xr, rr1, ha1, hlen with
            | [a', b'], _, [v1, v2], .cons r1 (.cons r2 .nil), ha1, _ =>
              obtain ⟨c1, hc1⟩ := hps a' (by simp)
              obtain ⟨c2, hc2⟩ := hps b' (by simp)
              cases yes with
              | true =>
                wtm_at "wp"
                refine ⟨v1, q, true, n, c1, a', held, rfl, by omega, r1, hc1, hw1, fun w1 H3 s3 g1 => ?_⟩
                wtm_at "wp"
                refine ⟨v2, q, false, n, c2, b', held, rfl, by omega, r2.same s3, hc2, hw1.same s3, fun w2 H4 s4 g2 => ?_⟩
                wtm_at "wp"
                rename_i p1 n1 H5 s5 h5 p2 n2 H6 s6 h6 p3 n3 H7 s7 h7
                have S7 := s6.trans s7
                have S47 := s5.trans S7
                have S := st.trans (s3.trans (s4.trans S47))
                have R1 := g1.same (s4.trans S47)
                have R2 := g2.same S47
                refine w_noneIn (gs := [grG true n a' held, grG false n b' held]) (.lst (.of (S7 _ _ h5)) (RpAll.dp (.cons R1 (.cons R2 .nil)))) (fun o ho => ?_) ?_
                · simp only [List.mem_cons, List.not_mem_nil, or_false] at ho
                  rcases ho with rfl | rfl
                  · exact gr_tupO hc1 (by omega)
                  · exact gr_tupO hc2 (by omega)
                rw [grG_butY] at k
                have h67 := s7 _ _ h6
                cases e1 : grG true n a' held with
                | none =>
                  rw [e1] at k
                  wtm_at "wp"
                  exact k _ _ S .non
                | some x1 =>
                  cases e2 : grG false n b' held with
                  | none =>
                    rw [e1, e2] at k
                    wtm_at "wp"
                    exact k _ _ S .non
                  | some x2 =>
                    rw [e1, e2] at k
                    rw [e1] at R1
                    rw [e2] at R2
                    wtm_at "wp"
                    exact k _ _ S (.tup h67 (.cons (.str _) (.cons R1 (.cons R2 .nil))))
              | false =>
                wtm_at "wp"
                refine ⟨v1, q, false, n, c1, a', held, rfl, by omega, r1, hc1, hw1, fun w1 H3 s3 g1 => ?_⟩
                have ha3 := s3 _ _ ha1
                wtm_at "wp"
                refine ⟨v2, q, true, n, c2, b', held, rfl, by omega, r2.same s3, hc2, hw1.same s3, fun w2 H4 s4 g2 => ?_⟩
                wtm_at "wp"
                rw [grG_butN] at k
                cases e1 : grG false n a' held with
                | some x1 =>
                  obtain ⟨ds1, rfl⟩ := (gr_good hc1 e1).1
                  rw [e1] at g1 k
                  cases g1 with
                  | tup h1 q1 =>
                    wtm_at "wp"
                    rename_i p5 H5 n5 s5 h5
                    exact k _ _ (st.trans (s3.trans (s4.trans s5))) (.tup h5 (.cons (.str _) (.cons (((Rp.tup h1 q1).same s4).same s5) .nil)))
                | none =>
                  rw [e1] at g1 k
                  cases g1
                  wtm_at "wp"
                  rename_i p1 n1 H5 s5 h5 p2 n2 H6 s6 h6
                  have S := st.trans (s3.trans (s4.trans (s5.trans s6)))
                  cases e2 : grG true n b' held with
                  | none =>
                    rw [e2] at g2 k
                    cases g2
                    refine w_ixL (v := .non) (.of h6) rfl ?_
                    wtm_at "wp"
                    exact k _ _ S .non
                  | some x2 =>
                    obtain ⟨ds2, rfl⟩ := (gr_good hc2 e2).1
                    rw [e2] at g2 k
                    cases g2 with
                    | tup h2 q2 =>
                      refine w_ixL (v := .ref p1) (.of h6) rfl ?_
                      wtm_at "wp"
                      exact k _ _ S (.tup (s6 _ _ h5) (.cons (.str _) (.cons (((Rp.tup h2 q2).same s5).same s6) .nil)))
          · have hnb : ¬ kk = "but" := fun z => hka (by rw [z])
            have hao : kk = "and" ∨ kk = "or" := by
              rcases hk with z | z | z
              · exact .inl z
              · exact .inr z
              · exact absurd z hnb
            wtm_at "wp"
            refine w_slTd (i := 1) (.of ha1) (by decide) (by simp) (fun p2 H2 n2 s2 h2 => ?_)
            have hp2 : H2 p2 = some (.tup xr) := h2
            have rr2 := rr1.same s2
            have hw2 := hw1.same s2
            have ha2 := s2 _ _ ha1
            refine ⟨p2, rfl, ⟨_, .of hp2⟩, ?_⟩
            refine lc_fin (fin_tup (xs := xr)) (fun j acc H' => Same H2 H' ∧ RpAll H' acc ((ps.take j).map fun p => optD (grG yes n p held))) (fun D H2 nD s2 hD => ⟨s2, .nil⟩) (fun j acc H2 _ h => .of (h.1 _ _ hp2)) ?_ ?_
            · rintro D j v acc H3 H4 nD hj hac ⟨s3, r3⟩ hD ⟨rfl, hv⟩
              obtain ⟨dd, g1, g2⟩ := rr2.at hv
              obtain ⟨c, hc'⟩ := hps dd (List.mem_of_getElem? g1)
              wtm_at "wp"
              refine ⟨rfl, ?_⟩
              wtm_at "wp"
              refine ⟨v, q, yes, n, c, dd, held, rfl, by omega, g2.same s3, hc', hw2.same s3, fun v' H5 s5 r5 => ?_⟩
              refine w_acc (s5 _ _ hD) hac hj (sz (by omega)) (fun H6 k6 h6 => ⟨k6.same (s3.trans s5) nD, ?_⟩)
              rw [take_succL g1, List.map_append]
              have tk : TupK H5 H6 := TupK.kb k6 (s5 _ _ hD)
              exact (((r3.same s5).tupk tk (noLs_grs fun p hp => hps p (List.mem_of_mem_take hp))).append (.cons (r5.tupk tk (noL_gr hc')) .nil))
            · rintro D acc H3 nD ⟨s3, r3⟩ hac hD
              rw [hlen, List.take_length] at r3
              have hgs : (ps.map fun p => optD (grG yes n p held)) = (ps.map fun p => grG yes n p held).map optD := by rw [List.map_map]; rfl
              rw [hgs] at r3
              have hT : ∀ o ∈ (ps.map fun p => grG yes n p held), TupO o := fun o ho => by
                obtain ⟨p, hp, rfl⟩ := List.mem_map.mp ho
                obtain ⟨c, hc'⟩ := hps p hp
                exact gr_tupO hc' (by omega)
              have ha3 := s3 _ _ ha2
              have hgl : (ps.map fun p => grG yes n p held).length ≤ 4 := by rw [List.length_map]; exact l4
              have eand : decide (V.str kk = V.str "and") = decide (kk = "and") := by
                rw [decide_eq_decide]
                exact ⟨V.str.inj, fun z => by rw [z]⟩
              have eyes : decide (V.bl (decide (V.str kk = V.str "and")) = V.bl yes) = decide (decide (kk = "and") = yes) := by
                rw [eand, decide_eq_decide]
                exact ⟨V.bl.inj, fun z => by rw [z]⟩
              have S3 := st.trans (s2.trans s3)
              wtm_at "wq"
              refine w_ifB (decide (decide (kk = "and") = yes)) H3 (fun QB h => ?_) ?_
              · wtm_at "wp"
                rw [eyes]
                exact h
              · by_cases hy : decide (kk = "and") = yes
                · rw [grG_all hao hy] at k
                  rw [decide_eq_true hy, if_pos rfl]
                  wtm_at "wp"
                  rename_i p5 n5 H5 s5 h5
                  refine w_tupOf (.of (s5 _ _ hD)) (fun t9 H9 n9 s9 h9 => ?_)
                  refine w_catT (s9 _ _ h5) h9 (by simp) (by simp; omega) (fun o H10 s10 h10 => ?_)
                  wtm_at "wp"
                  rename_i p11 n11 H11 s11 h11
                  have S11 := s5.trans (s9.trans (s10.trans s11))
                  refine w_noneIn (.lst (.of (S11 _ _ hD)) (r3.same S11).dp) hT ?_
                  have h10' := s11 _ _ h10
                  unfold allG at k
                  cases e : (ps.map fun p => grG yes n p held).all (·.isSome) with
                  | false =>
                    rw [if_neg (by rw [e]; exact Bool.false_ne_true)] at k
                    wtm_at "wp"
                    exact k _ _ (S3.trans S11) .non
                  | true =>
                    rw [if_pos e] at k
                    rw [all_map e] at r3
                    wtm_at "wp"
                    exact k _ _ (S3.trans S11) (.tup h10' (.cons (.str _) (r3.same S11)))
                · rw [grG_one hao hy] at k
                  rw [decide_eq_false hy, if_neg Bool.false_ne_true]
                  wtm_at "wp"
                  rename_i p5 n5 H5 s5 h5
                  have hix : atI [V.str "lacks", V.str "some"] (if yes = true then 1 else 0) = some (.str (if yes = true then "some" else "lacks")) := by cases yes <;> rfl
                  refine w_ixL (.of h5) hix ?_
                  exact ⟨D, _, _, _, rfl, s5 _ _ hD, r3.same s5, hT, by omega, fun v' H6 s6 r6 => k _ _ (S3.trans (s5.trans s6)) r6⟩
        · have hpk := pl_kind hqo n1 n2' n3
          rw [decide_eq_true hpk]
          have hpq : PlQ Ht a kk ps xr := ⟨ha1, rr1, ⟨_, _, hqo⟩, n1, n2', n3⟩
          obtain ⟨rows, e1, e2, e3, e4, e5⟩ := rows_of hpq hw.len
          rw [grG_pl n1 n2' n3, e2] at k
          unfold noneG at k
          rw [e3] at k
          wtm_at "wp"
          refine ⟨a, q, kk, ps, xr, held, rfl, hpq, hw1, hw.len, fun l H2 s2 h2 => ?_⟩
          rw [e1] at h2
          have S2 := st.trans s2
          cases h2 with
          | @lst _ xs _ hl rl =>
            have hxl := rl.length
            rw [List.length_map] at hxl
            cases yes with
            | true =>
              rw [if_pos rfl] at k
              wtm_at "wp"
              rename_i p1 n1 H3 s3 h3 p2 n2 H4 s4 h4 p3 n3 H5 s5 h5 p4 H6 n4 s6 h6
              have S26 := s3.trans (s4.trans (s5.trans s6))
              obtain ⟨y, ys, hy, hys, ry⟩ : ∃ (y : Addr) (ys : List V), atI (xs ++ [V.ref p2]) 0 = some (.ref y) ∧ H6 y = some (.tup ys) ∧ RpAll H6 ys (rows.headD []) := by
                cases rows with
                | nil =>
                  cases rl
                  exact ⟨p2, [], rfl, s6 _ _ (s5 _ _ h4), .nil⟩
                | cons r0 rs =>
                  cases rl with
                  | cons q1 q2 =>
                    cases q1 with
                    | tup hy1 ry1 => exact ⟨_, _, atI_nat (j := 0) rfl, S26 _ _ hy1, ry1.same S26⟩
              have hyl : ys.length ≤ 2 := by
                rw [ry.length]
                cases rows with
                | nil => decide
                | cons r0 rs => exact (e4 r0 (by simp)).1
              refine w_ixL (.of h6) hy ?_
              refine w_catT (s6 _ _ (s5 _ _ (s4 _ _ h3))) hys (by simp) (by simp; omega) (fun o H7 s7 h7 => ?_)
              wtm_at "wp"
              rename_i p8 n8 H8 s8 h8 p9 n9 H9 s9 h9
              have S29 := S26.trans (s7.trans (s8.trans s9))
              refine w_neNil (.lst (.of (S29 _ _ hl)) (rl.same S29).dp) (.lst (.of h9) .nil) (good_rows e4) (by decide) ?_
              rw [List.isEmpty_map]
              have ry9 := ry.same (s7.trans (s8.trans s9))
              have h79 := s9 _ _ (s8 _ _ h7)
              wtm_at "wp"
              have h89 := s9 _ _ h8
              cases rows with
              | nil =>
                refine w_ixL (v := .non) (.of h89) rfl ?_
                wtm_at "wp"
                exact k _ _ (S2.trans S29) .non
              | cons r0 rs =>
                refine w_ixL (v := .ref o) (.of h89) rfl ?_
                wtm_at "wp"
                exact k _ _ (S2.trans S29) (.tup h79 (.cons (.str _) ry9))
            | false =>
              rw [if_neg Bool.false_ne_true] at k
              wtm_at "wp"
              rename_i p1 n1 H3 s3 h3 p8 n8 H8 s8 h8 p9 n9 H9 s9 h9
              have S29 := s3.trans (s8.trans s9)
              refine w_eqNil (.lst (.of (S29 _ _ hl)) (rl.same S29).dp) (.lst (.of h9) .nil) (good_rows e4) (by decide) ?_
              rw [List.isEmpty_map]
              wtm_at "wp"
              have h89 := s9 _ _ h8
              have h39 := s9 _ _ (s8 _ _ h3)
              cases rows with
              | nil =>
                refine w_ixL (.of h89) rfl ?_
                wtm_at "wp"
                exact k _ _ (S2.trans S29) (.tup h39 (.cons (.str _) .nil))
              | cons r0 rs =>
                refine w_ixL (v := .non) (.of h89) rfl ?_
                wtm_at "wp"
                exact k _ _ (S2.trans S29) .non
end
end K74

namespace K74
section
variable {P : Program} {w : World} {K : PySem.W.Frag} {mg : Str → Option Value} {base : Heap} {Z : Zs} {C_Page C_Broken C_Full C_Gone C_NoFile C_Torn : Addr}
abbrev s_law_refused : Stmt := topS 84
theorem sc_law_refused : FnScope ["_law_query_here", "_law_page", "_law_e"] ["_law_query_here", "_law_page"] (defScope s_law_refused) := ⟨rfl, rfl, rfl, by decide +kernel, rfl, by decide +kernel, by decide +kernel⟩
def spLookQX (K : PySem.W.Frag) (Z : Zs) : Sp := fun vs H Q E => ∃ (v : V) (L : Nat) (d : PyData), vs = [v] ∧ Rp H v d ∧ Fit L d ∧ L ≤ 50 ∧ (isQ d = true → ∀ H', Same H H' → Q .non H') ∧ (isQ d = false → ∀ H', Same H H' → E (.ref Z.NoQuery) none H')
theorem ok_lookqX {f : Addr} {fd : FuncData} (F : Fun K "look_query" "look_query" s_look_query f fd) (T : Txt K mg Z C_Page C_Broken C_Full C_Gone C_NoFile C_Torn) (f_is_query : Fn P w K mg base "is_query" 24 ["thing"] (spIsQ K)) : FnOk P w K mg base (CXc P w) 25 f fd ["thing"] (spLookQX K Z) := by
  refine Fun_okY F sc_look_query (fun vs H Q E h => ?_) (fun cdv A outer s H vs Q E hr h => ?_)
  · obtain ⟨v, L, d, rfl, _⟩ := h
    rfl
  · obtain ⟨v, L, d, rfl, hR, hF, hL, k, ke⟩ := h
    refine ⟨_, (pss_one (ps_if (pt_not (pt_val (pe_fn f_is_query (hr.mono (by omega)) rfl (pa_cons (pv 0) pa_nil))))
 (pss_one (ps_rse rfl takesY (pmk_ownVN T.x_NoQuery T.m_NoQuery rfl)))
 pss_nil)), ?_⟩
    wtm_at "w0"
    wtm_at "wp"
    refine ⟨v, L, d, rfl, hR, hF, hL, fun H1 s1 => ?_⟩
    cases hq : isQ d with
    | true =>
      wtm_at "wp"
      exact k hq _ s1
    | false =>
      wtm_at "wp"
      exact ke hq _ s1
def spPaperX (K : PySem.W.Frag) (Z : Zs) (C : Addr) : Sp := fun vs H Q E => ∃ (v : V) (r : Addr) (L : Nat) (d : PyData) (i : Int) (x : Str), vs = [v, .ref r] ∧ Rp H v d ∧ Fit L d ∧ L ≤ 50 ∧ PgO C H r i x ∧
  (∀ m, cnt 5 d = some m → m ≤ 12 → ∀ t vg g H', Same H H' → H' t = some (.tup [.str (if hasQ 5 d (wsOf x) = true then "yes" else "no"), v, vg]) → Rp H' vg g → grG (hasQ 5 d (wsOf x)) 5 d (wsOf x) = some g → Q (.ref t) H') ∧
  (isQ d = false → ∀ H', Same H H' → E (.ref Z.NoQuery) none H')
theorem ok_paperX {f : Addr} {fd : FuncData} (F : Fun K "paper_of" "paper_of" s_paper_of f fd) (T : Txt K mg Z C_Page C_Broken C_Full C_Gone C_NoFile C_Torn) (f_look_query : FnY P w K mg base "look_query" 25 ["thing"] (spLookQX K Z)) (f_yes_ground : Fn P w K mg base "yes_ground" 32 ["query", "page"] (spGnd K C_Page true 5)) (f_no_ground : Fn P w K mg base "no_ground" 32 ["query", "page"] (spGnd K C_Page false 5)) : FnOk P w K mg base (CXc P w) 33 f fd ["query", "page"] (spPaperX K Z C_Page) := by
  refine Fun_okY F sc_paper_of (fun vs H Q E h => ?_) (fun cdv A outer s H vs Q E hr h => ?_)
  · obtain ⟨v, r, m, d, i, x, rfl, _⟩ := h
    rfl
  · obtain ⟨v, r, L, d, i, x, rfl, hR, hF, hL, hp, k0, ke⟩ := h
    refine ⟨_, (pss_cons (ps_expr (pe_fy f_look_query (lets_ofC takesY) (hr.mono (by omega)) rfl (pa_cons (pv 0) pa_nil)))
 (pss_cons (ps_set (i := 2) sc_paper_of.nd rfl (.inl rfl) (pe_fn f_yes_ground (hr.mono (by omega)) rfl (pa_cons (pv 0) (pa_cons (pv 1) pa_nil))))
 (pss_cons (ps_if (pt_cmpR op_isnot0 (pv 2) pe_non (nomark _))
 (pss_one (ps_ret (pe_tup (pa_cons pe_str (pa_cons (pv 0) (pa_cons (pv 2) pa_nil))))))
 pss_nil)
 (pss_one (ps_ret (pe_tup (pa_cons pe_str (pa_cons (pv 0) (pa_cons (pe_fn f_no_ground (hr.mono (by omega)) rfl (pa_cons (pv 0) (pa_cons (pv 1) pa_nil))) pa_nil))))))))), ?_⟩
    wtm_at "w0"
    wtm_at "wp"
    refine ⟨v, L, d, rfl, hR, hF, hL, fun hq H1 s1 => ?_, fun hq H1 s1 => ke hq _ s1⟩
    obtain ⟨m, hc, hm⟩ : ∃ m, cnt 5 d = some m ∧ m ≤ 12 := by
      unfold isQ at hq
      cases hc : cnt 5 d with
      | none => rw [hc] at hq; cases hq
      | some m => rw [hc] at hq; exact ⟨m, rfl, of_decide_eq_true hq⟩
    have k := k0 m hc hm
    wtm_at "wp"
    refine ⟨v, r, 5, m, d, i, x, rfl, by decide, hR.same s1, hc, hp.same s1, fun v' H2 s2 g2 => ?_⟩
    obtain ⟨t1, t2⟩ := gr_told (yes := true) (held := wsOf x) hc
    obtain ⟨f1, f2⟩ := gr_told (yes := false) (held := wsOf x) hc
    cases hb : hasQ 5 d (wsOf x) with
    | true =>
      obtain ⟨g, e1, _⟩ := t1 hb
      rw [e1] at g2
      rw [hb] at k
      obtain ⟨ds, rfl⟩ := (gr_good hc e1).1
      cases g2 with
      | tup ha ra =>
        wtm_at "wp"
        rename_i p3 H3 n3 s3 h3
        exact k p3 _ _ _ (s1.trans (s2.trans s3)) h3 ((Rp.tup ha ra).same s3) e1
    | false =>
      rw [t2 (by rw [hb]; decide)] at g2
      rw [hb] at k
      cases g2
      wtm_at "wp"
      refine ⟨v, r, 5, m, d, i, x, rfl, by decide, hR.same (s1.trans s2), hc, hp.same (s1.trans s2), fun v' H3 s3 g3 => ?_⟩
      obtain ⟨g, e1, _⟩ := f1 hb
      rw [e1] at g3
      wtm_at "wp"
      rename_i p4 H4 n4 s4 h4
      exact k p4 _ _ _ (s1.trans (s2.trans (s3.trans s4))) h4 (g3.same s4) e1
def spRefd (K : PySem.W.Frag) (C : Addr) : Sp := fun vs H Q _ => ∃ (v : V) (r : Addr) (L : Nat) (d : PyData) (i : Int) (x : Str), vs = [v, .ref r] ∧ Rp H v d ∧ Fit L d ∧ L ≤ 50 ∧ isQ d = false ∧ PgO C H r i x ∧ ∀ H', Same H H' → Q (.bl true) H'
theorem ok_refd {f : Addr} {fd : FuncData} (F : Fun K "_law_refused" "_law_refused" s_law_refused f fd) (T : Txt K mg Z C_Page C_Broken C_Full C_Gone C_NoFile C_Torn) (hk : Kind2 K [C_Broken, C_Full, C_Gone, Z.NoDeed, C_NoFile, Z.NoName, Z.NoNumber, Z.NoPages, Z.NoQuery, Z.NoShelf, Z.NoSize, Z.NoSlot, Z.NoText, Z.Taken, C_Torn] Z.Wrong Z.NoQuery 8) (hx : PySem.W.exmAny K (.ref Z.NoQuery) [.ref Z.NoQuery] = some true) (f_paper_of : FnY P w K mg base "paper_of" 33 ["query", "page"] (spPaperX K Z C_Page)) (f__law_kind : FnQ P w K mg base "_law_kind" 1 ["_law_e"] (spKind2 K [C_Broken, C_Full, C_Gone, Z.NoDeed, C_NoFile, Z.NoName, Z.NoNumber, Z.NoPages, Z.NoQuery, Z.NoShelf, Z.NoSize, Z.NoSlot, Z.NoText, Z.Taken, C_Torn] Z.Wrong)) : FnOk P w K mg base CX0 34 f fd ["_law_query_here", "_law_page"] (spRefd K C_Page) := by
  refine F.ok sc_law_refused (fun vs H Q E h => ?_) (fun cdv A outer s H vs Q E hr h => ?_)
  · obtain ⟨v, r, L, d, i, x, rfl, _⟩ := h
    rfl
  · obtain ⟨v, r, L, d, i, x, rfl, hR, hF, hL, hq, hp, k⟩ := h
    refine ⟨_, (pss_cons (ps_try_E rfl rfl (show List.Nodup _ from sc_law_refused.nd) takesC0 (by intro x hx; simp only [List.mem_cons, List.not_mem_nil, or_false] at hx; subst hx; simp) (fun EE pn xe lt po => (pss_one (ps_expr (pe_fy f_paper_of lt (hr.mono (by omega)) rfl (pa_cons (pv 0) (pa_cons (pv 1) pa_nil))))))
 (.cons (.one ⟨rfl, by decide, .inl T.m_NoQuery⟩) (i := 2) rfl rfl (fun a oe cls d pn hz hf hot =>
 (pss_one (ps_ret (pe_cmpR op_eq (pe_fq (a := a) (oe := oe) f__law_kind List.mem_cons_self hz hf hot rfl (roomH_mark (hr.mono (by omega))) rfl (pa_cons (pv 2) pa_nil)) pe_str (nomark _))))) .nil))
 (pss_one (ps_ret pe_bl))), ?_⟩
    wtm_at "w0"
    refine w_seq ?_
    refine ⟨fun cls d H' => cls = .ref Z.NoQuery ∧ d = none ∧ Same H H', fun cls d0 σ' H' hl ⟨e1, e2, s1⟩ => ?_, ?_⟩
    · subst e1 e2
      refine ⟨true, hx, fun _ a na => ?_, fun z => Bool.noConfusion z⟩
      match σ', hl with
      | [y1, y2, y3], _ =>
        wtm_at "wp"
        intro oe hz hf
        refine ⟨Z.NoQuery, none, 8, "NoQuery", rfl, hz, hf, hk, xdOk_none, rfl, fun H2 s2 => ?_⟩
        wtm_at "wp"
        exact k _ (s1.trans s2)
    · wtm_at "wp"
      exact ⟨v, r, L, d, i, x, rfl, hR, hF, hL, hp, fun m hc hm => (by unfold isQ at hq; rw [hc] at hq; exact absurd hm (of_decide_eq_false hq)), fun _ H' s1 => ⟨rfl, rfl, s1⟩⟩

end
end K74

namespace K74
section
variable {P : Program} {w : World} {K : PySem.W.Frag} {mg : Str → Option Value} {base : Heap} {Z : Zs} {C_Page C_Broken C_Full C_Gone C_NoFile C_Torn : Addr}
abbrev s_law_same : Stmt := topS 83
theorem sc_law_same : FnScope ["_law_one", "_law_other", "_law_a", "_law_b"] ["_law_one", "_law_other"] (defScope s_law_same) := ⟨rfl, rfl, rfl, by decide +kernel, rfl, by decide +kernel, by decide +kernel⟩
def spSame (N : Nat) : Sp := fun vs H Q _ => ∃ (v1 v2 : V) (d : PyData), vs = [v1, v2] ∧ Rp H v1 d ∧ Rp H v2 d ∧ TxI N d ∧ ∀ H', Same H H' → Q (.bl true) H'
theorem spSame0 : ∀ vs H Q E, ¬ spSame 0 vs H Q E := fun vs H Q E ⟨_, _, _, _, _, _, h, _⟩ => h
theorem ok_same {N k0 : Nat} {f : Addr} {fd : FuncData} (F : Fun K "_law_same" "_law_same" s_law_same f fd) (T : Txt K mg Z C_Page C_Broken C_Full C_Gone C_NoFile C_Torn) (f__law_same : Fn P w K mg base "_law_same" k0 ["_law_one", "_law_other"] (spSame N)) : FnOk P w K mg base CX0 (k0 + 1) f fd ["_law_one", "_law_other"] (spSame (N + 1)) := by
  refine F.ok sc_law_same (fun vs H Q E h => ?_) (fun cdv A outer s H vs Q E hr h => ?_)
  · obtain ⟨v1, v2, d, rfl, _⟩ := h
    rfl
  · obtain ⟨v1, v2, d, rfl, h1, h2, ht, k⟩ := h
    refine ⟨_, (pss_cons (ps_if (PW.pt (pw_or (pt_cmpR op_ne (pe_callB call_isi (by rfl) T.n_isinstance PyProof.Rows.boot_isinstance (pa_cons (pv 0) (pa_cons (pe_bltn (v := .ty "tuple") (by rfl) T.n_tuple PyProof.Rows.boot_tuple rfl) pa_nil))) (pe_callB call_isi (by rfl) T.n_isinstance PyProof.Rows.boot_isinstance (pa_cons (pv 1) (pa_cons (pe_bltn (v := .ty "tuple") (by rfl) T.n_tuple PyProof.Rows.boot_tuple rfl) pa_nil))) (nomark _)) (pw_or (pt_val (pe_callB call_isi (by rfl) T.n_isinstance PyProof.Rows.boot_isinstance (pa_cons (pv 0) (pa_cons (pe_bltn (v := .ty "bool") (by rfl) T.n_bool PyProof.Rows.boot_bool rfl) pa_nil)))) (pw_or1 (pt_val (pe_callB call_isi (by rfl) T.n_isinstance PyProof.Rows.boot_isinstance (pa_cons (pv 1) (pa_cons (pe_bltn (v := .ty "bool") (by rfl) T.n_bool PyProof.Rows.boot_bool rfl) pa_nil))))))))
 (pss_one (ps_ret pe_bl))
 pss_nil)
 (pss_cons (ps_if (pt_val (pe_callB call_isi (by rfl) T.n_isinstance PyProof.Rows.boot_isinstance (pa_cons (pv 0) (pa_cons (pe_bltn (v := .ty "tuple") (by rfl) T.n_tuple PyProof.Rows.boot_tuple rfl) pa_nil))))
 (pss_one (ps_ret (pe_and (pe_cmpR op_eq (pe_callB cl_len (by rfl) T.n_len PySem.boot_len (pa_cons (pv 0) pa_nil)) (pe_callB cl_len (by rfl) T.n_len PySem.boot_len (pa_cons (pv 1) pa_nil)) (nomark _)) (pe_one (pe_callB (cr_all rfl) (by rfl) T.n_all PyProof.Rows.boot_all (pa_cons (pe_lc (own := [("_law_a", 2), ("_law_b", 3)]) (g := gTup K 2 (gCons (gName 2) (gCons (gName 3) gNil))) (tt := tYes) rfl sc_law_same.nd (RZ.pi_zipA (by rfl) T.n_zip (pa_cons (pv 0) (pa_cons (pv 1) pa_nil))) (blkOk_by (own := [("_law_a", 2), ("_law_b", 3)]) (N := ["_law_one", "_law_other", "_law_a", "_law_b"]) (sc := defScope s_law_same) (by decide +kernel)) (fun _ _ _ _ _ => (pg_tup rfl (pgs_cons (pg_name (i := 2) sc_law_same.nd rfl (.inl rfl)) (pgs_cons (pg_name (i := 3) sc_law_same.nd rfl (.inl rfl)) pgs_nil)))) (fun _ _ _ _ _ => pts_nil) (fun _ _ _ _ _ => (pe_fn f__law_same (hr.mono (by omega)) rfl (pa_cons (pv 2) (pa_cons (pv 3) pa_nil))))) pa_nil))))))
 pss_nil)
 (pss_one (ps_ret (pe_and (pe_cmpR op_eq (pe_callB call_isi (by rfl) T.n_isinstance PyProof.Rows.boot_isinstance (pa_cons (pv 0) (pa_cons (pe_bltn (v := .ty "str") (by rfl) T.n_str PyProof.Rows.boot_str rfl) pa_nil))) (pe_callB call_isi (by rfl) T.n_isinstance PyProof.Rows.boot_isinstance (pa_cons (pv 1) (pa_cons (pe_bltn (v := .ty "str") (by rfl) T.n_str PyProof.Rows.boot_str rfl) pa_nil))) (nomark _)) (pe_one (pe_cmpR (op_eqD hr.units) (pv 0) (pv 1) (nomark _)))))))), ?_⟩
    wtm_at "w0"
    rcases ht with ⟨x, rfl, hx⟩ | ⟨i, rfl⟩ | ⟨ds, rfl, hl, hds⟩
    · cases h1
      cases h2
      wtm_at "wp"
      exact w_eqG (n := 0) (.str _) (.str _) (good_str hx) (by decide) (k _ (.refl _))
    · cases h1
      cases h2
      wtm_at "wp"
      exact w_eqG (n := 0) (.int _) (.int _) good_int (by decide) (k _ (.refl _))
    · cases h1 with
      | @tup a1 xs _ ha1 r1 =>
        cases h2 with
        | @tup a2 ys _ ha2 r2 =>
          have l1 := r1.length
          have l2 := r2.length
          wtm_at "wp"
          refine w_lenT (.of ha1) ?_
          wtm_at "wp"
          refine w_lenT (.of ha2) ?_
          wtm_at "wp"
          rw [if_pos (decide_eq_true (by rw [l1, l2]))]
          wtm_at "wp"
          refine w_zipA ?_
          wtm_at "wp"
          refine ⟨a1, a2, xs, ys, rfl, .inr ⟨.of ha1, .of ha2, ?_⟩⟩
          refine lc_fin (fin_zipT (K := K) (a := a1) (b := a2) (xs := xs) (ys := ys) ds.length (by omega)) (fun i acc H' => Same H H' ∧ acc = (List.replicate i true).map V.bl) (fun D H2 nD s2 hD => ⟨s2, rfl⟩) (fun i acc H2 _ h => ⟨.of (h.1 _ _ ha1), .of (h.1 _ _ ha2)⟩) ?_ ?_
          · rintro D i v acc H5 H6 nD hi hac ⟨s5, e5⟩ hD ⟨tt, x, y, rfl, nT, sT, hT, hx, hy⟩
            obtain ⟨e, he, rx⟩ := r1.at hx
            obtain ⟨e', he', ry⟩ := r2.at hy
            rw [he] at he'
            cases he'
            have s6 := s5.trans sT
            wtm_at "wp"
            refine ⟨rfl, ?_⟩
            wtm_at "wp"
            refine ⟨x, y, e, rfl, rx.same s6, ry.same s6, hds e (List.mem_of_getElem? he), fun H7 s7 => ?_⟩
            wtm_at "wp"
            refine w_acc (s7 _ _ (sT _ _ hD)) hac hi (sz (by omega)) (fun H8 k8 h8 => ⟨k8.same (s6.trans s7) nD, ?_⟩)
            rw [e5, List.replicate_succ', List.map_append]
            rfl
          · rintro D acc H5 nD ⟨s5, e5⟩ hac hD
            wtm_at "wp"
            refine w_all e5 (.of hD) ?_
            have : (List.replicate ds.length true).all id = true := by simp
            rw [this]
            exact k _ s5

end
end K74

namespace K74
section
variable {P : Program} {w : World} {K : PySem.W.Frag} {mg : Str → Option Value} {base : Heap} {Z : Zs} {C_Page C_Broken C_Full C_Gone C_NoFile C_Torn : Addr}
abbrev s_law : Stmt := topS 85
theorem sc_law : FnScope ["_law_script", "_law_k", "_law_purse_here", "_law_text_here", "_law_page", "_law_query_here", "_law_words", "_law_yes", "_law_due", "_law_turn", "_law_told", "_law_odd"] ["_law_script"] (defScope s_law) := ⟨rfl, rfl, rfl, by decide +kernel, rfl, by decide +kernel, by decide +kernel⟩
def spLaw (K : PySem.W.Frag) : Sp := fun vs H Q _ => ∃ (a : Addr) (ns : List Int), vs = [.ref a] ∧ SqL K H a (ns.map V.int) ∧ ns.length ≤ 63 ∧ ∀ H', Q (.bl true) H'
theorem ok_law {f : Addr} {fd : FuncData} (F : Fun K "law" "law" s_law f fd) (T : Txt K mg Z C_Page C_Broken C_Full C_Gone C_NoFile C_Torn) (f__law_purse : Fn P w K mg base "_law_purse" 1 ["_law_script", "_law_at"] (spPurse K)) (f__law_take : Fn P w K mg base "_law_take" 1 ["_law_purse_here", "_law_many"] spTake) (f__law_text : Fn P w K mg base "_law_text" 2 ["_law_purse_here", "_law_most"] spText)
    (f__law_query : Fn P w K mg base "_law_query" 13 ["_law_purse_here", "_law_deep", "_law_most"] (spQp K 5)) (mk_Page_2 : Mkr P w K mg base "Page" C_Page 5 ["self", "number", "text"] [] (spPageN C_Page)) (f_paper_of : FnY P w K mg base "paper_of" 33 ["query", "page"] (spPaperX K Z C_Page)) (f_holds : Fn P w K mg base "holds" 26 ["paper", "page"] (spHolds K C_Page)) (f__law_ground : Fn P w K mg base "_law_ground" 12 ["_law_query_here", "_law_words", "_law_yes"] (spLG K 5)) (f__law_same : Fn P w K mg base "_law_same" 12 ["_law_one", "_law_other"] (spSame 10)) (f__law_refused : Fn P w K mg base "_law_refused" 34 ["_law_query_here", "_law_page"] (spRefd K C_Page)) : FnOk P w K mg base CX0 35 f fd ["_law_script"] (spLaw K) := by
  have hc := T.cl_Page
  refine F.ok sc_law (fun vs H Q E h => ?_) (fun cdv A outer s H vs Q E hr h => ?_)
  · obtain ⟨a, ns, rfl, _⟩ := h
    rfl
  · obtain ⟨a, ns, rfl, hS, hlen, k⟩ := h
    refine ⟨_, (pss_cons (ps_for PassesOwn.never rfl (pi_range1 (by rfl) T.n_range (pa_cons (pe_callB (cl_max rfl) (by rfl) T.n_max PyProof.Rows.boot_max (pa_cons pe_int (pa_cons (pe_callB (cl_min rfl) (by rfl) T.n_min PyProof.Rows.boot_min (pa_cons (pe_callB cl_len (by rfl) T.n_len PySem.boot_len (pa_cons (pv 0) pa_nil)) (pa_cons pe_int pa_nil))) pa_nil))) pa_nil)) (pg_name (i := 1) sc_law.nd rfl (.inl rfl))
 (pss_cons (ps_set (i := 2) sc_law.nd rfl (.inl rfl) (pe_fn f__law_purse (hr.mono (by omega)) rfl (pa_cons (pv 0) (pa_cons (pv 1) pa_nil))))
 (pss_cons (ps_set (i := 3) sc_law.nd rfl (.inl rfl) (pe_fn f__law_text (hr.mono (by omega)) rfl (pa_cons (pv 2) (pa_cons (pe_ix ix_list (pe_lst (pa_cons pe_int (pa_cons pe_int pa_nil))) (pe_callTy cl_int (by rfl) T.n_int PyProof.Rows.boot_int (pa_cons (pe_cmpR op_eq (pe_fn f__law_take (hr.mono (by omega)) rfl (pa_cons (pv 2) (pa_cons pe_int pa_nil))) pe_int (nomark _)) pa_nil)) (fun _ _ => rfl)) pa_nil))))
 (pss_cons (ps_set (i := 4) sc_law.nd rfl (.inl rfl) (pe_mkr mk_Page_2 (hr.mono (by omega)) rfl (pa_cons (pe_op op_add pe_int (pe_fn f__law_take (hr.mono (by omega)) rfl (pa_cons (pv 2) (pa_cons pe_int pa_nil)))) (pa_cons (pv 3) pa_nil))))
 (pss_cons (ps_set (i := 5) sc_law.nd rfl (.inl rfl) (pe_fn f__law_query (hr.mono (by omega)) rfl (pa_cons (pv 2) (pa_cons (pe_op op_add pe_int (pe_fn f__law_take (hr.mono (by omega)) rfl (pa_cons (pv 2) (pa_cons pe_int pa_nil)))) (pa_cons pe_int pa_nil)))))
 (pss_cons (ps_set (i := 6) sc_law.nd rfl (.inl rfl) (pe_words (pv 3)))
 (pss_cons (ps_set (i := 7) sc_law.nd rfl (.inl rfl) (pe_fn f__law_ground (hr.mono (by omega)) rfl (pa_cons (pv 5) (pa_cons (pv 6) (pa_cons pe_bl pa_nil)))))
 (pss_cons (ps_set (i := 8) sc_law.nd rfl (.inl rfl) (pe_ix ix_list (pe_lst (pa_cons (pe_tup (pa_cons pe_str (pa_cons (pv 5) (pa_cons (pe_fn f__law_ground (hr.mono (by omega)) rfl (pa_cons (pv 5) (pa_cons (pv 6) (pa_cons pe_bl pa_nil)))) pa_nil)))) (pa_cons (pe_tup (pa_cons pe_str (pa_cons (pv 5) (pa_cons (pv 7) pa_nil)))) pa_nil))) (pe_callTy cl_int (by rfl) T.n_int PyProof.Rows.boot_int (pa_cons (pe_cmpR op_isnot0 (pv 7) pe_non (nomark _)) pa_nil)) (fun _ _ => rfl)))
 (pss_cons (ps_for PassesOwn.never rfl (pi_range1 (by rfl) T.n_range (pa_cons pe_int pa_nil)) (pg_name (i := 9) sc_law.nd rfl (.inl rfl))
 (pss_cons (ps_set (i := 10) sc_law.nd rfl (.inl rfl) (pe_fy f_paper_of letsC0 (hr.mono (by omega)) rfl (pa_cons (pv 5) (pa_cons (pv 4) pa_nil))))
 (pss_one (ps_if (PW.pt (pw_or (pt_not (pt_val (pe_callB call_isi (by rfl) T.n_isinstance PyProof.Rows.boot_isinstance (pa_cons (pv 10) (pa_cons (pe_bltn (v := .ty "tuple") (by rfl) T.n_tuple PyProof.Rows.boot_tuple rfl) pa_nil))))) (pw_or (pt_cmpR (op_neD hr.units) (pv 10) (pv 8) (nomark _)) (pw_or (pt_not (pt_val (pe_fn f__law_same (hr.mono (by omega)) rfl (pa_cons (pv 10) (pa_cons (pv 8) pa_nil))))) (pw_or1 (pt_cmpR op_notBl (pe_fn f_holds (hr.mono (by omega)) rfl (pa_cons (pv 10) (pa_cons (pv 4) pa_nil))) pe_bl (nomark _)))))))
 (pss_one (ps_ret pe_bl))
 pss_nil))))
 (pss_cons (ps_set (i := 11) sc_law.nd rfl (.inl rfl) (pe_lst (pa_cons pe_non (pa_cons pe_str (pa_cons (pe_tup (pa_cons pe_str pa_nil)) (pa_cons (pe_tup (pa_cons pe_str (pa_cons pe_str (pa_cons pe_str pa_nil)))) (pa_cons (pe_tup (pa_cons pe_str (pa_cons pe_str pa_nil))) (pa_cons (pe_tup (pa_cons pe_str (pa_cons pe_int (pa_cons pe_str (pa_cons pe_str pa_nil))))) (pa_cons (pe_tup (pa_cons pe_str (pa_cons pe_int (pa_cons pe_str (pa_cons pe_str pa_nil))))) (pa_cons (pe_tup (pa_cons pe_str (pa_cons (pv 5) pa_nil))) (pa_cons (pe_lst (pa_cons pe_str (pa_cons pe_str pa_nil))) (pa_cons (pe_tup (pa_cons (pv 5) pa_nil)) (pa_cons (pe_tup (pa_cons pe_str (pa_cons (pv 5) (pa_cons pe_non pa_nil)))) (pa_cons (pe_tup (pa_cons pe_str (pa_cons pe_str pa_nil))) (pa_cons (pe_tup (pa_cons pe_str (pa_cons pe_bl (pa_cons pe_str (pa_cons pe_str pa_nil))))) pa_nil)))))))))))))))
 (pss_one (ps_if (pt_not (pt_val (pe_fn f__law_refused (hr.mono (by omega)) rfl (pa_cons (pe_ix ix_list (pv 11) (pe_fn f__law_take (hr.mono (by omega)) rfl (pa_cons (pv 2) (pa_cons pe_int pa_nil))) (fun _ _ => rfl)) (pa_cons (pv 4) pa_nil)))))
 (pss_one (ps_ret pe_bl))
 pss_nil))))))))))))
 (pss_one (ps_ret pe_bl))), ?_⟩
    wtm_at "w0"
    wtm_at "wp"
    rw [List.length_map]
    refine ⟨_, rfl, by omega, by omega, for_fin (n := (max (4 : Int) (min (ns.length : Int) (20 : Int))).toNat) fin_rng (fun i σ H' => ∃ v1 v2 v3 v4 v5 v6 v7 v8 v9 v10 v11 : Option V, σ = [some (.ref a), v1, v2, v3, v4, v5, v6, v7, v8, v9, v10, v11] ∧ Same H H') ?_ (fun _ _ _ _ _ => trivial) ?_ ?_⟩
    · exact ⟨_, _, _, _, _, _, _, _, _, _, _, rfl, Same.refl _⟩
    · rintro i x σ H0 H0' hi ⟨v1, v2, v3, v4, v5, v6, v7, v8, v9, v10, v11, rfl, s0⟩ ⟨rfl, rfl⟩
      wtm_at "wp"
      rw [Int.zero_add]
      refine ⟨a, ns, i, rfl, Same.seq s0 hS, by omega, fun p H1 np s1 p1 => ?_⟩
      wtm_at "wp"
      rename_i q nq H2 s2 hq
      have nqp : q ≠ p := (ne_of_none p1.at.choose_spec nq).symm
      refine ⟨p, 8, _, rfl, p1.mono s2 (Nat.le_refl _), by decide, by decide, by decide, fun d3 H3 d30 d31 k3 p3 => ?_⟩
      have hq3 := k3 _ _ hq nqp
      wtm_at "wp"
      obtain ⟨mo, hmo, hix⟩ : ∃ mo : Nat, mo ≤ 60 ∧ atI [V.int 12, V.int 60] (if decide (V.int d3 = V.int 5) = true then 1 else 0) = some (.int (mo : Int)) := by
        cases decide (V.int d3 = V.int 5) with
        | true => exact ⟨60, by decide, rfl⟩
        | false => exact ⟨12, by decide, rfl⟩
      refine w_ixL (.of hq3) hix ?_
      wtm_at "wp"
      refine ⟨p, _, mo, rfl, p3, by decide, by omega, fun us H4 hul huW k4 p4 => ?_⟩
      have hwu := ws_join huW
      have hjl := join_len huW
      have oku : okWs us = true := by unfold okWs; rw [decide_eq_true (by omega), List.all_eq_true.mpr huW]; rfl
      have sumu := (ok_bounds oku).2.2
      wtm_at "wp"
      refine ⟨p, _, _, rfl, p4, by decide, by decide, by decide, fun d5 H5 d50 d51 k5 p5 => ?_⟩
      wtm_at "wp"
      rename_i r d nr nd H6 s6 h6
      refine ⟨r, d, _, _, rfl, h6, by omega, by omega, by omega, by rw [hwu]; exact oku, fun H7 k7 g7 f7 => ⟨rfl, ?_⟩⟩
      have s67 : Same H5 H7 := k7.same s6 nr
      have nrp : p ≠ r := ne_of_none p5.at.choose_spec nr
      have PG : ∀ H'', KB p H7 H'' → PgO C_Page H'' r (1 + d5) (Txt.join " " us) := fun H'' kk => ⟨f7 (fun z => z = p) H'' (fun z hz => ⟨by rw [hz]; exact nrp, by rw [hz, s6 _ _ p5.at.choose_spec]; simp⟩) (fun c o h n => kk c o h n), by rw [hwu]; exact oku⟩
      wtm_at "wp"
      refine ⟨p, 5, _, rfl, p5.mono s67 (Nat.le_refl _), by decide, by decide, by decide, fun d8 H8 d80 d81 k8 p8 => ?_⟩
      obtain ⟨dj, rfl⟩ := Int.eq_ofNat_of_zero_le d80
      have e1 : (1 : Int) + (dj : Int) = ((dj + 1 : Nat) : Int) := by omega
      wtm_at "wp"
      rw [e1]
      refine ⟨p, _, dj + 1, 12, rfl, by omega, by omega, by decide, by decide, p8, by decide, fun o dq m H9 rO hc9 hm9 k9 p9 => ?_⟩
      have K79 := k8.trans k9
      have pg9 := PG _ K79
      have hcm : cnt 5 dq = some m := cnt_mono hc9 (by omega)
      wtm_at "wp"
      refine ⟨rfl, sz (by omega), ?_⟩
      rw [words_join huW]
      intro l nl
      generalize eN : upd H9 l _ = H10
      have s10 := same_gen nl eN
      have h10 := at_gen eN
      clear eN
      have hw10 : HW H10 l us := ⟨h10, by omega, huW⟩
      wtm_at "wp"
      refine ⟨.ref o, l, true, 5, m, dq, us, rfl, by decide, rO.same s10, hcm, hw10, fun vy H11 s11 ry => ?_⟩
      wtm_at "wp"
      refine ⟨.ref o, l, false, 5, m, dq, us, rfl, by decide, rO.same (s10.trans s11), hcm, hw10.same s11, fun vn H12 s12 rn => ?_⟩
      wtm_at "wp"
      rename_i pA nA H13 s13 h13 pB nB H14 s14 h14 pC nC H15 s15 h15
      have S5 := s13.trans (s14.trans s15)
      have S9 : Same H9 H15 := s10.trans (s11.trans (s12.trans S5))
      obtain ⟨du, vg, g, hatD, hduT, rg, eg, hh⟩ : ∃ (du : Addr) (vg : V) (g : PyData), atI [V.ref pA, V.ref pB] (if (!decide (vy = V.non)) = true then 1 else 0) = some (.ref du) ∧ H15 du = some (.tup [.str (if hasQ 5 dq us = true then "yes" else "no"), .ref o, vg]) ∧ Rp H15 vg g ∧ grG (hasQ 5 dq us) 5 dq us = some g ∧ hdG 5 dq g (hasQ 5 dq us) us = true := by
        cases hb : hasQ 5 dq us with
        | true =>
          obtain ⟨g, e1, e2⟩ := (gr_told (yes := true) hcm).1 hb
          rw [e1] at ry
          obtain ⟨ds, rfl⟩ := (gr_good hcm e1).1
          cases ry with
          | tup ha ra => exact ⟨pB, _, _, rfl, s15 _ _ h14, ((Rp.tup ha ra).same s12).same S5, e1, e2⟩
        | false =>
          obtain ⟨g, e1, e2⟩ := (gr_told (yes := false) hcm).1 hb
          rw [(gr_told (yes := true) hcm).2 (by rw [hb]; decide)] at ry
          rw [e1] at rn
          cases ry
          exact ⟨pA, _, _, rfl, s15 _ _ (s14 _ _ h13), rn.same S5, e1, e2⟩
      refine w_ixL (.of h15) hatD ?_
      have rO15 := rO.same S9
      have pg15 := PG _ (K79.trans (KB.of S9))
      have strOk2 : PyData.strOk (if hasQ 5 dq us = true then "yes" else "no") = true := by
        cases hasQ 5 dq us <;> decide +kernel
      have hwd : ((if hasQ 5 dq us = true then Str.ofString "yes" else Str.ofString "no") = "yes" ∨ (if hasQ 5 dq us = true then Str.ofString "yes" else Str.ofString "no") = "no") ∧ decide ((if hasQ 5 dq us = true then Str.ofString "yes" else Str.ofString "no") = "yes") = hasQ 5 dq us := by
        cases hasQ 5 dq us with
        | true => exact ⟨.inl rfl, by decide +kernel⟩
        | false => exact ⟨.inr rfl, by decide +kernel⟩
      have tiD : TxI 10 (.tuple [.str (if hasQ 5 dq us = true then "yes" else "no"), dq, g]) := ti_tup (fun d hd => by
        simp only [List.mem_cons, List.not_mem_nil, or_false] at hd
        rcases hd with rfl | rfl | rfl
        · exact ti_str strOk2
        · exact (ti_cnt hcm).mono (by decide)
        · exact (gr_ti hcm eg).2.mono (by decide))
      have goodD : GoodD (.tuple [.str (if hasQ 5 dq us = true then "yes" else "no"), dq, g]) 10 := good_tuple (fun d hd => by
        simp only [List.mem_cons, List.not_mem_nil, or_false] at hd
        rcases hd with rfl | rfl | rfl
        · exact good_str strOk2
        · exact (cnt_fit hcm).good.mono (by decide)
        · exact (gr_good hcm eg).2.1.mono (by decide))
      have hisq : isQ dq = true := by unfold isQ; rw [hcm]; exact decide_eq_true (by omega)
      wtm_at "wp"
      refine ⟨_, rfl, by decide, by decide, for_fin (n := ((2 : Int)).toNat) fin_rng (fun j σ H' => ∃ w9 w10 : Option V, σ = [some (.ref a), some (.int (i : Nat)), some (.ref p), some (.str (Txt.join " " us)), some (.ref r), some (.ref o), some (.ref l), some vy, some (.ref du), w9, w10, v11] ∧ Same H15 H') ⟨_, _, rfl, .refl _⟩ (fun _ _ _ _ _ => trivial) ?_ ?_⟩
      · rintro j y σ H16 H16' hj ⟨w9, w10, rfl, s16⟩ ⟨rfl, rfl⟩
        wtm_at "wp"
        refine ⟨.ref o, r, 5, dq, _, _, rfl, rO15.same s16, cnt_fit hcm, by decide, pg15.same s16, fun m' hc' hm' t vg' g' H17 s17 h17 rg' eg' => ?_, fun z => absurd (hisq.symm.trans z) (by decide)⟩
        rw [hwu] at h17 eg'
        rw [eg] at eg'
        cases eg'
        have S17 := s16.trans s17
        have rD : Rp H17 (.ref du) (.tuple [.str (if hasQ 5 dq us = true then "yes" else "no"), dq, g]) := .tup (S17 _ _ hduT) (.cons (.str _) (.cons (rO15.same S17) (.cons (rg.same S17) .nil)))
        have rT : Rp H17 (.ref t) (.tuple [.str (if hasQ 5 dq us = true then "yes" else "no"), dq, g]) := .tup h17 (.cons (.str _) (.cons (rO15.same S17) (.cons rg' .nil)))
        wtm_at "wp"
        refine w_neG rT.dp rD.dp goodD (by decide) ?_
        wtm_at "wp"
        refine ⟨.ref t, .ref du, _, rfl, rT, rD, tiD, fun H18 s18 => ?_⟩
        have S18 := S17.trans s18
        wtm_at "wp"
        refine ⟨t, r, _, .ref o, vg', m, dq, g, _, _, rfl, s18 _ _ h17, hwd.1, rO15.same S18, hcm, by omega, rg'.same s18, pg15.same S18, fun H19 s19 => ?_⟩
        rw [hwu, hwd.2, hh]
        wtm_at "wp"
        exact ⟨_, _, rfl, S18.trans s19⟩
      · rintro σ H16 ⟨w9, w10, rfl, s16⟩
        wtm_at "wp"
        rename_i t1 n1 G1 z1 g1 t2 n2 G2 z2 g2 t3 n3 G3 z3 g3 t4 n4 G4 z4 g4 t5 n5 G5 z5 g5 t6 n6 G6 z6 g6 t7 n7 G7 z7 g7 t8 n8 G8 z8 g8 t9 n9 G9 z9 g9 ta na Ga za ga tb nb Gb zb gb tL nL GL zL gL
        have Zb := zL
        have Za := zb.trans Zb
        have Z9 := za.trans Za
        have Z8 := z9.trans Z9
        have Z7 := z8.trans Z8
        have Z6 := z7.trans Z7
        have Z5 := z6.trans Z6
        have Z4 := z5.trans Z5
        have Z3 := z4.trans Z4
        have Z2 := z3.trans Z3
        have Z1 := z2.trans Z2
        have Z0 := z1.trans Z1
        have S16 := S9.trans s16
        have SL := S16.trans Z0
        have pL := p9.mono SL (Nat.le_refl _)
        have npx : ∀ {q : Addr} {G : Hp}, Same H9 G → G q = none → q ≠ p := fun sg nq => (ne_of_none (sg _ _ p9.at.choose_spec) nq).symm
        refine ⟨p, 13, _, rfl, pL, by decide, by decide, by decide, fun d20 J d200 d201 kJ pJ => ?_⟩
        have Y1 := S16.trans z1
        have Y2 := Y1.trans z2
        have Y3 := Y2.trans z3
        have Y4 := Y3.trans z4
        have Y5 := Y4.trans z5
        have Y6 := Y5.trans z6
        have Y7 := Y6.trans z7
        have Y8 := Y7.trans z8
        have Y9 := Y8.trans z9
        have Ya := Y9.trans za
        have Yb := Ya.trans zb
        have f1 := kJ _ _ (Z1 _ _ g1) (npx S16 n1)
        have f2 := kJ _ _ (Z2 _ _ g2) (npx Y1 n2)
        have f3 := kJ _ _ (Z3 _ _ g3) (npx Y2 n3)
        have f4 := kJ _ _ (Z4 _ _ g4) (npx Y3 n4)
        have f5 := kJ _ _ (Z5 _ _ g5) (npx Y4 n5)
        have f6 := kJ _ _ (Z6 _ _ g6) (npx Y5 n6)
        have f7' := kJ _ _ (Z7 _ _ g7) (npx Y6 n7)
        have f8 := kJ _ _ (Z8 _ _ g8) (npx Y7 n8)
        have f9 := kJ _ _ (Z9 _ _ g9) (npx Y8 n9)
        have fa := kJ _ _ (Za _ _ ga) (npx Y9 na)
        have fb := kJ _ _ (Zb _ _ gb) (npx Ya nb)
        have fL := kJ _ _ gL (npx Yb nL)
        have rJ : Rp J (.ref o) dq := (rO.same SL).tupk (pL.tupk kJ) (cnt_noL hc9)
        have fq : Fit 5 dq := cnt_fit hcm
        have notQ : ∀ {d : PyData}, (∀ m, ¬ QOf 4 d m) → isQ d = false := fun {d} h => by
          unfold isQ
          cases hz : cnt 5 d with
          | none => rfl
          | some m' => exact absurd (cnt_inv hz) (h m')
        have odd : ∃ v d, atI [V.non, V.str "a", V.ref t1, V.ref t2, V.ref t3, V.ref t4, V.ref t5, V.ref t6, V.ref t7, V.ref t8, V.ref t9, V.ref ta, V.ref tb] d20 = some v ∧ Rp J v d ∧ Fit 6 d ∧ isQ d = false := by
          have hd : d20 = 0 ∨ d20 = 1 ∨ d20 = 2 ∨ d20 = 3 ∨ d20 = 4 ∨ d20 = 5 ∨ d20 = 6 ∨ d20 = 7 ∨ d20 = 8 ∨ d20 = 9 ∨ d20 = 10 ∨ d20 = 11 ∨ d20 = 12 := by omega
          rcases hd with rfl | rfl | rfl | rfl | rfl | rfl | rfl | rfl | rfl | rfl | rfl | rfl | rfl
          · exact ⟨_, _, rfl, .non, fitB_ok rfl, by decide +kernel⟩
          · exact ⟨_, _, rfl, .str _, fitB_ok (by decide +kernel), by decide +kernel⟩
          · exact ⟨_, _, rfl, .tup f1 (.cons (.str _) .nil), fitB_ok (by decide +kernel), by decide +kernel⟩
          · exact ⟨_, _, rfl, .tup f2 (.cons (.str _) (.cons (.str _) (.cons (.str _) .nil))), fitB_ok (by decide +kernel), by decide +kernel⟩
          · exact ⟨_, _, rfl, .tup f3 (.cons (.str _) (.cons (.str _) .nil)), fitB_ok (by decide +kernel), by decide +kernel⟩
          · exact ⟨_, _, rfl, .tup f4 (.cons (.str _) (.cons (.int _) (.cons (.str _) (.cons (.str _) .nil)))), fitB_ok (by decide +kernel), by decide +kernel⟩
          · exact ⟨_, _, rfl, .tup f5 (.cons (.str _) (.cons (.int _) (.cons (.str _) (.cons (.str _) .nil)))), fitB_ok (by decide +kernel), by decide +kernel⟩
          · refine ⟨_, _, rfl, .tup f6 (.cons (.str _) (.cons rJ .nil)), fit_tup (by simp) (fun e he => ?_), notQ fun m' hq => ?_⟩
            · simp only [List.mem_cons, List.not_mem_nil, or_false] at he
              rcases he with rfl | rfl
              · exact fit_str (by decide) (by decide +kernel)
              · exact fq
            · have := (qof_join hq (.inl rfl)).2.2.1
              simp at this
          · exact ⟨_, _, rfl, .lst f7' (.cons (.str _) (.cons (.str _) .nil)), fitB_ok (by decide +kernel), by decide +kernel⟩
          · refine ⟨_, _, rfl, .tup f8 (.cons rJ .nil), fit_tup (by simp) (fun e he => ?_), notQ fun m' hq => ?_⟩
            · rw [List.mem_singleton.mp he]
              exact fq
            · obtain ⟨k', ps', e⟩ := qof_head hq
              cases e
              cases cnt_inv hcm
          · refine ⟨_, _, rfl, .tup f9 (.cons (.str _) (.cons rJ (.cons .non .nil))), fit_tup (by simp) (fun e he => ?_), notQ fun m' hq => ?_⟩
            · simp only [List.mem_cons, List.not_mem_nil, or_false] at he
              rcases he with rfl | rfl | rfl
              · exact fit_str (by decide) (by decide +kernel)
              · exact fq
              · exact fitB_ok rfl
            · obtain ⟨c', hc'⟩ := (qof_join hq (.inr (.inr rfl))).1 .none (by simp)
              cases hc'
          · exact ⟨_, _, rfl, .tup fa (.cons (.str _) (.cons (.str _) .nil)), fitB_ok (by decide +kernel), by decide +kernel⟩
          · exact ⟨_, _, rfl, .tup fb (.cons (.str _) (.cons (.bl _) (.cons (.str _) (.cons (.str _) .nil)))), fitB_ok (by decide +kernel), by decide +kernel⟩
        obtain ⟨v, dv, hat, hRv, hFv, hqv⟩ := odd
        refine w_ixL (.of fL) hat ?_
        wtm_at "wp"
        refine ⟨v, r, 6, dv, _, _, rfl, hRv, hFv, by decide, hqv, PG _ (K79.trans ((KB.of SL).trans kJ)), fun H21 s21 => ?_⟩
        wtm_at "wp"
        refine ⟨_, _, _, _, _, _, _, _, _, _, _, rfl, s0.trans ?_⟩
        have KK : KB p H1 H21 := (KB.of s2).trans (k3.trans (k4.trans (k5.trans ((KB.of s67).trans (K79.trans ((KB.of SL).trans (kJ.trans (KB.of s21))))))))
        exact KK.same s1 np
    · rintro σ Hc ⟨v1, v2, v3, v4, v5, v6, v7, v8, v9, v10, v11, rfl, sc⟩
      wtm_at "wp"
      exact k _

end
end K74

namespace K74
section
variable {P : Program} {w : World} {K : PySem.W.Frag} {mg : Str → Option Value} {base : Heap} {Z : Zs} {C_Page C_Broken C_Full C_Gone C_NoFile C_Torn : Addr}
/-! ### the recursions -/
theorem spCnt_no : True := trivial
theorem kk_all {N : Nat} {D fw fp fn fj fb : Addr} {t1 t2 t3 t4 t5 t6 : Tok} {c : Value} {o : Option Addr} {nn : Nat} {sl : Array (Option Value)} {Pm : Params}
    (h : K.lookup D = some ⟨c, o, .dict (([⟨"word", t1, .ref fw⟩, ⟨"phrase", t2, .ref fp⟩, ⟨"near", t3, .ref fn⟩, ⟨"and", t4, .ref fj⟩, ⟨"or", t5, .ref fj⟩, ⟨"but", t6, .ref fb⟩] : List Ent).map (Ent.de Pm)).toArray nn, sl⟩)
    (Hw : L2.Held P w K mg base (4 * N + 5) fw (spPart K N fun _ => wordC)) (Hp : L2.Held P w K mg base (4 * N + 5) fp (spPart K N fun _ => phraseC)) (Hn : L2.Held P w K mg base (4 * N + 5) fn (spPart K N fun _ => nearC)) (Hj : L2.Held P w K mg base (4 * N + 5) fj (spPart K N fun n ds => joinC (ds.map (cnt n)))) (Hb : L2.Held P w K mg base (4 * N + 5) fb (spPart K N fun n ds => butC (ds.map (cnt n)))) :
    ∀ k : Str, (∃ fk g, PySem.W.nsIn K D k = some (some (.ref fk)) ∧ L2.Held P w K mg base (4 * N + 5) fk (spPart K N g) ∧ ∀ n ps, cnt (n + 1) (.tuple (.str k :: ps)) = g n ps) ∨ (PySem.W.nsIn K D k = some none ∧ ∀ n ps, cnt (n + 1) (.tuple (.str k :: ps)) = none) := by
  intro k
  have hns := ns_lits h k
  by_cases h1 : k = "word"
  · subst h1
    exact .inl ⟨fw, _, hns.trans (by rfl), Hw, fun n ps => by rw [cnt, if_pos rfl]⟩
  by_cases h2 : k = "phrase"
  · subst h2
    exact .inl ⟨fp, _, hns.trans (by rfl), Hp, fun n ps => by rw [cnt, if_neg h1, if_pos rfl]⟩
  by_cases h3 : k = "near"
  · subst h3
    exact .inl ⟨fn, _, hns.trans (by rfl), Hn, fun n ps => by rw [cnt, if_neg h1, if_neg h2, if_pos rfl]⟩
  by_cases h4 : k = "and"
  · subst h4
    exact .inl ⟨fj, _, hns.trans (by rfl), Hj, fun n ps => cnt_and⟩
  by_cases h5 : k = "or"
  · subst h5
    exact .inl ⟨fj, _, hns.trans (by rfl), Hj, fun n ps => cnt_or⟩
  by_cases h6 : k = "but"
  · subst h6
    exact .inl ⟨fb, _, hns.trans (by rfl), Hb, fun n ps => cnt_but⟩
  · refine .inr ⟨?_, fun n ps => by rw [cnt, if_neg h1, if_neg h2, if_neg h3, if_neg h4, if_neg h5, if_neg h6]⟩
    rw [hns]
    simp only [List.find?_cons, List.find?_nil, decide_eq_false (Ne.symm h1), decide_eq_false (Ne.symm h2), decide_eq_false (Ne.symm h3), decide_eq_false (Ne.symm h4), decide_eq_false (Ne.symm h5), decide_eq_false (Ne.symm h6)]
    rfl

end
theorem all_mk {l : PySem.W.OpenLaw} {w : World} {K : PySem.W.Frag} {h : Heap} {mg : Str → Option Value} {fa : Addr} (X : K.In h) (G : h.Ns mainGlobals mg) (hfa : mg "law" = some (.ref fa))
    {C_Wrong : Addr}
    {C_NoText : Addr}
    {C_NoNumber : Addr}
    {C_NoSize : Addr}
    {C_NoQuery : Addr}
    {C_NoPages : Addr}
    {C_NoName : Addr}
    {C_NoShelf : Addr}
    {C_NoDeed : Addr}
    {C_Taken : Addr}
    {C_NoSlot : Addr}
    {tc_LETTERS : Tok}
    {tc_LONGEST : Tok}
    {tc_MOST : Tok}
    {tc_MOST_NUMBER : Tok}
    {tc_DEEPEST : Tok}
    {tc_MOST_WORDS : Tok}
    {tc_FARTHEST : Tok}
    {C_Page : Addr}
    {C_Broken : Addr}
    {C_Full : Addr}
    {C_Gone : Addr}
    {C_NoFile : Addr}
    {C_Torn : Addr}
    {f_law_kind : Addr} {od_law_kind an_law_kind : Option Addr} {sl_law_kind : Array (Option Value)} {oc_law_kind kV_law_kind dc_law_kind pm_law_kind ct_law_kind : Value} {cd_law_kind : Value}
    {f_is_whole_words : Addr} {od_is_whole_words an_is_whole_words : Option Addr} {sl_is_whole_words : Array (Option Value)} {oc_is_whole_words kV_is_whole_words dc_is_whole_words pm_is_whole_words ct_is_whole_words : Value} {cd_is_whole_words : Value}
    {f_is_word : Addr} {od_is_word an_is_word : Option Addr} {sl_is_word : Array (Option Value)} {oc_is_word kV_is_word dc_is_word pm_is_word ct_is_word : Value} {cd_is_word : Value}
    {f_look_word : Addr} {od_look_word an_look_word : Option Addr} {sl_look_word : Array (Option Value)} {oc_look_word kV_look_word dc_look_word pm_look_word ct_look_word : Value} {cd_look_word : Value}
    {f_look_words : Addr} {od_look_words an_look_words : Option Addr} {sl_look_words : Array (Option Value)} {oc_look_words kV_look_words dc_look_words pm_look_words ct_look_words : Value} {cd_look_words : Value}
    {f_words_of : Addr} {od_words_of an_words_of : Option Addr} {sl_words_of : Array (Option Value)} {oc_words_of kV_words_of dc_words_of pm_words_of ct_words_of : Value} {cd_words_of : Value}
    {f_Page___init__ : Addr} {od_Page___init__ an_Page___init__ : Option Addr} {sl_Page___init__ : Array (Option Value)} {oc_Page___init__ kV_Page___init__ dc_Page___init__ pm_Page___init__ ct_Page___init__ cd_Page___init__ : Value}
    {Td_Page___init__ : Addr} {odT_Page___init__ : Option Addr} {slT_Page___init__ : Array (Option Value)} {ocT_Page___init__ : Value} {nT_Page___init__ : Nat} {tk0_Page___init__ : Tok}
    {f_Page_words : Addr} {od_Page_words an_Page_words : Option Addr} {sl_Page_words : Array (Option Value)} {oc_Page_words kV_Page_words dc_Page_words pm_Page_words ct_Page_words cd_Page_words : Value}
    {f_Page_places : Addr} {od_Page_places an_Page_places : Option Addr} {sl_Page_places : Array (Option Value)} {oc_Page_places kV_Page_places dc_Page_places pm_Page_places ct_Page_places cd_Page_places : Value}
    {f_count_word : Addr} {od_count_word an_count_word : Option Addr} {sl_count_word : Array (Option Value)} {oc_count_word kV_count_word dc_count_word pm_count_word ct_count_word : Value} {cd_count_word : Value}
    {f_count_phrase : Addr} {od_count_phrase an_count_phrase : Option Addr} {sl_count_phrase : Array (Option Value)} {oc_count_phrase kV_count_phrase dc_count_phrase pm_count_phrase ct_count_phrase : Value} {cd_count_phrase : Value}
    {f_count_near : Addr} {od_count_near an_count_near : Option Addr} {sl_count_near : Array (Option Value)} {oc_count_near kV_count_near dc_count_near pm_count_near ct_count_near : Value} {cd_count_near : Value}
    {f_count_joined : Addr} {od_count_joined an_count_joined : Option Addr} {sl_count_joined : Array (Option Value)} {oc_count_joined kV_count_joined dc_count_joined pm_count_joined ct_count_joined : Value} {cd_count_joined : Value}
    {f_count_but : Addr} {od_count_but an_count_but : Option Addr} {sl_count_but : Array (Option Value)} {oc_count_but kV_count_but dc_count_but pm_count_but ct_count_but : Value} {cd_count_but : Value}
    {f_count_words : Addr} {od_count_words an_count_words : Option Addr} {sl_count_words : Array (Option Value)} {oc_count_words kV_count_words dc_count_words pm_count_words ct_count_words : Value} {cd_count_words : Value}
    {f_is_query : Addr} {od_is_query an_is_query : Option Addr} {sl_is_query : Array (Option Value)} {oc_is_query kV_is_query dc_is_query pm_is_query ct_is_query : Value} {cd_is_query : Value}
    {f_places_of_phrase : Addr} {od_places_of_phrase an_places_of_phrase : Option Addr} {sl_places_of_phrase : Array (Option Value)} {oc_places_of_phrase kV_places_of_phrase dc_places_of_phrase pm_places_of_phrase ct_places_of_phrase : Value} {cd_places_of_phrase : Value}
    {f_places_of_near : Addr} {od_places_of_near an_places_of_near : Option Addr} {sl_places_of_near : Array (Option Value)} {oc_places_of_near kV_places_of_near dc_places_of_near pm_places_of_near ct_places_of_near : Value} {cd_places_of_near : Value}
    {f_places_in : Addr} {od_places_in an_places_in : Option Addr} {sl_places_in : Array (Option Value)} {oc_places_in kV_places_in dc_places_in pm_places_in ct_places_in : Value} {cd_places_in : Value}
    {f_places_of : Addr} {od_places_of an_places_of : Option Addr} {sl_places_of : Array (Option Value)} {oc_places_of kV_places_of dc_places_of pm_places_of ct_places_of : Value} {cd_places_of : Value}
    {f_is_whole_store : Addr} {od_is_whole_store an_is_whole_store : Option Addr} {sl_is_whole_store : Array (Option Value)} {oc_is_whole_store kV_is_whole_store dc_is_whole_store pm_is_whole_store ct_is_whole_store : Value} {cd_is_whole_store : Value}
    {f_is_ground : Addr} {od_is_ground an_is_ground : Option Addr} {sl_is_ground : Array (Option Value)} {oc_is_ground kV_is_ground dc_is_ground pm_is_ground ct_is_ground : Value} {cd_is_ground : Value}
    {f_stand : Addr} {od_stand an_stand : Option Addr} {sl_stand : Array (Option Value)} {oc_stand kV_stand dc_stand pm_stand ct_stand : Value} {cd_stand : Value}
    {f_is_near : Addr} {od_is_near an_is_near : Option Addr} {sl_is_near : Array (Option Value)} {oc_is_near kV_is_near dc_is_near pm_is_near ct_is_near : Value} {cd_is_near : Value}
    {f_holds_at : Addr} {od_holds_at an_holds_at : Option Addr} {sl_holds_at : Array (Option Value)} {oc_holds_at kV_holds_at dc_holds_at pm_holds_at ct_holds_at : Value} {cd_holds_at : Value}
    {f_found_at : Addr} {od_found_at an_found_at : Option Addr} {sl_found_at : Array (Option Value)} {oc_found_at kV_found_at dc_found_at pm_found_at ct_found_at : Value} {cd_found_at : Value}
    {f_has_none : Addr} {od_has_none an_has_none : Option Addr} {sl_has_none : Array (Option Value)} {oc_has_none kV_has_none dc_has_none pm_has_none ct_has_none : Value} {cd_has_none : Value}
    {f_holds_one : Addr} {od_holds_one an_holds_one : Option Addr} {sl_holds_one : Array (Option Value)} {oc_holds_one kV_holds_one dc_holds_one pm_holds_one ct_holds_one : Value} {cd_holds_one : Value}
    {f_holds_each : Addr} {od_holds_each an_holds_each : Option Addr} {sl_holds_each : Array (Option Value)} {oc_holds_each kV_holds_each dc_holds_each pm_holds_each ct_holds_each : Value} {cd_holds_each : Value}
    {f_holds_but : Addr} {od_holds_but an_holds_but : Option Addr} {sl_holds_but : Array (Option Value)} {oc_holds_but kV_holds_but dc_holds_but pm_holds_but ct_holds_but : Value} {cd_holds_but : Value}
    {f_holds_ground : Addr} {od_holds_ground an_holds_ground : Option Addr} {sl_holds_ground : Array (Option Value)} {oc_holds_ground kV_holds_ground dc_holds_ground pm_holds_ground ct_holds_ground : Value} {cd_holds_ground : Value}
    {f_yes_plain : Addr} {od_yes_plain an_yes_plain : Option Addr} {sl_yes_plain : Array (Option Value)} {oc_yes_plain kV_yes_plain dc_yes_plain pm_yes_plain ct_yes_plain : Value} {cd_yes_plain : Value}
    {f_first_of : Addr} {od_first_of an_first_of : Option Addr} {sl_first_of : Array (Option Value)} {oc_first_of kV_first_of dc_first_of pm_first_of ct_first_of : Value} {cd_first_of : Value}
    {f_all_of : Addr} {od_all_of an_all_of : Option Addr} {sl_all_of : Array (Option Value)} {oc_all_of kV_all_of dc_all_of pm_all_of ct_all_of : Value} {cd_all_of : Value}
    {f_yes_ground : Addr} {od_yes_ground an_yes_ground : Option Addr} {sl_yes_ground : Array (Option Value)} {oc_yes_ground kV_yes_ground dc_yes_ground pm_yes_ground ct_yes_ground : Value} {cd_yes_ground : Value}
    {f_no_ground : Addr} {od_no_ground an_no_ground : Option Addr} {sl_no_ground : Array (Option Value)} {oc_no_ground kV_no_ground dc_no_ground pm_no_ground ct_no_ground : Value} {cd_no_ground : Value}
    {f_look_query : Addr} {od_look_query an_look_query : Option Addr} {sl_look_query : Array (Option Value)} {oc_look_query kV_look_query dc_look_query pm_look_query ct_look_query : Value} {cd_look_query : Value}
    {f_paper_of : Addr} {od_paper_of an_paper_of : Option Addr} {sl_paper_of : Array (Option Value)} {oc_paper_of kV_paper_of dc_paper_of pm_paper_of ct_paper_of : Value} {cd_paper_of : Value}
    {f_holds : Addr} {od_holds an_holds : Option Addr} {sl_holds : Array (Option Value)} {oc_holds kV_holds dc_holds pm_holds ct_holds : Value} {cd_holds : Value}
    {f_law_purse : Addr} {od_law_purse an_law_purse : Option Addr} {sl_law_purse : Array (Option Value)} {oc_law_purse kV_law_purse dc_law_purse pm_law_purse ct_law_purse : Value} {cd_law_purse : Value}
    {f_law_take : Addr} {od_law_take an_law_take : Option Addr} {sl_law_take : Array (Option Value)} {oc_law_take kV_law_take dc_law_take pm_law_take ct_law_take : Value} {cd_law_take : Value}
    {f_law_query : Addr} {od_law_query an_law_query : Option Addr} {sl_law_query : Array (Option Value)} {oc_law_query kV_law_query dc_law_query pm_law_query ct_law_query : Value} {cd_law_query : Value}
    {f_law_text : Addr} {od_law_text an_law_text : Option Addr} {sl_law_text : Array (Option Value)} {oc_law_text kV_law_text dc_law_text pm_law_text ct_law_text : Value} {cd_law_text : Value}
    {f_law_right_places : Addr} {od_law_right_places an_law_right_places : Option Addr} {sl_law_right_places : Array (Option Value)} {oc_law_right_places kV_law_right_places dc_law_right_places pm_law_right_places ct_law_right_places : Value} {cd_law_right_places : Value}
    {f_law_first : Addr} {od_law_first an_law_first : Option Addr} {sl_law_first : Array (Option Value)} {oc_law_first kV_law_first dc_law_first pm_law_first ct_law_first : Value} {cd_law_first : Value}
    {f_law_ground : Addr} {od_law_ground an_law_ground : Option Addr} {sl_law_ground : Array (Option Value)} {oc_law_ground kV_law_ground dc_law_ground pm_law_ground ct_law_ground : Value} {cd_law_ground : Value}
    {f_law_same : Addr} {od_law_same an_law_same : Option Addr} {sl_law_same : Array (Option Value)} {oc_law_same kV_law_same dc_law_same pm_law_same ct_law_same : Value} {cd_law_same : Value}
    {f_law_refused : Addr} {od_law_refused an_law_refused : Option Addr} {sl_law_refused : Array (Option Value)} {oc_law_refused kV_law_refused dc_law_refused pm_law_refused ct_law_refused : Value} {cd_law_refused : Value}
    {f_law : Addr} {od_law an_law : Option Addr} {sl_law : Array (Option Value)} {oc_law kV_law dc_law pm_law ct_law : Value} {cd_law : Value}
    {D_KINDS : Addr} {nD_KINDS : Nat} {tD0_KINDS : Tok} {tD1_KINDS : Tok} {tD2_KINDS : Tok} {tD3_KINDS : Tok} {tD4_KINDS : Tok} {tD5_KINDS : Tok}
    {D_PLAIN_looker : Addr} {od_PLAIN_looker : Option Addr} {n_PLAIN_looker : Nat} {sl_PLAIN_looker : Array (Option Value)} {t0_PLAIN_looker : Tok} {t1_PLAIN_looker : Tok} {t2_PLAIN_looker : Tok}
    {D_PLAIN_grounds : Addr} {od_PLAIN_grounds : Option Addr} {n_PLAIN_grounds : Nat} {sl_PLAIN_grounds : Array (Option Value)} {t0_PLAIN_grounds : Tok} {t1_PLAIN_grounds : Tok} {t2_PLAIN_grounds : Tok}
    (aC_Wrong : PySem.W.nsIn K mainGlobals "Wrong" = some (some (.ref C_Wrong)))
    (aC_NoText : PySem.W.nsIn K mainGlobals "NoText" = some (some (.ref C_NoText)))
    (aC_NoNumber : PySem.W.nsIn K mainGlobals "NoNumber" = some (some (.ref C_NoNumber)))
    (aC_NoSize : PySem.W.nsIn K mainGlobals "NoSize" = some (some (.ref C_NoSize)))
    (aC_NoQuery : PySem.W.nsIn K mainGlobals "NoQuery" = some (some (.ref C_NoQuery)))
    (aC_NoPages : PySem.W.nsIn K mainGlobals "NoPages" = some (some (.ref C_NoPages)))
    (aC_NoName : PySem.W.nsIn K mainGlobals "NoName" = some (some (.ref C_NoName)))
    (aC_NoShelf : PySem.W.nsIn K mainGlobals "NoShelf" = some (some (.ref C_NoShelf)))
    (aC_NoDeed : PySem.W.nsIn K mainGlobals "NoDeed" = some (some (.ref C_NoDeed)))
    (aC_Taken : PySem.W.nsIn K mainGlobals "Taken" = some (some (.ref C_Taken)))
    (aC_NoSlot : PySem.W.nsIn K mainGlobals "NoSlot" = some (some (.ref C_NoSlot)))
    (g_LETTERS : PySem.W.nsIn K mainGlobals "LETTERS" = some (some (.str "abcdefghijklmnopqrstuvwxyz" tc_LETTERS)))
    (g_LONGEST : PySem.W.nsIn K mainGlobals "LONGEST" = some (some (.int 12 tc_LONGEST)))
    (g_MOST : PySem.W.nsIn K mainGlobals "MOST" = some (some (.int 120 tc_MOST)))
    (g_MOST_NUMBER : PySem.W.nsIn K mainGlobals "MOST_NUMBER" = some (some (.int 9999 tc_MOST_NUMBER)))
    (g_DEEPEST : PySem.W.nsIn K mainGlobals "DEEPEST" = some (some (.int 5 tc_DEEPEST)))
    (g_MOST_WORDS : PySem.W.nsIn K mainGlobals "MOST_WORDS" = some (some (.int 12 tc_MOST_WORDS)))
    (g_FARTHEST : PySem.W.nsIn K mainGlobals "FARTHEST" = some (some (.int 20 tc_FARTHEST)))
    (z_isinstance : PySem.W.nsIn K mainGlobals "isinstance" = some none)
    (z_bool : PySem.W.nsIn K mainGlobals "bool" = some none)
    (z_int : PySem.W.nsIn K mainGlobals "int" = some none)
    (z_str : PySem.W.nsIn K mainGlobals "str" = some none)
    (z_list : PySem.W.nsIn K mainGlobals "list" = some none)
    (z_tuple : PySem.W.nsIn K mainGlobals "tuple" = some none)
    (z_len : PySem.W.nsIn K mainGlobals "len" = some none)
    (z_all : PySem.W.nsIn K mainGlobals "all" = some none)
    (z_any : PySem.W.nsIn K mainGlobals "any" = some none)
    (z_max : PySem.W.nsIn K mainGlobals "max" = some none)
    (z_min : PySem.W.nsIn K mainGlobals "min" = some none)
    (z_range : PySem.W.nsIn K mainGlobals "range" = some none)
    (z_abs : PySem.W.nsIn K mainGlobals "abs" = some none)
    (z_sum : PySem.W.nsIn K mainGlobals "sum" = some none)
    (z_enumerate : PySem.W.nsIn K mainGlobals "enumerate" = some none)
    (z_zip : PySem.W.nsIn K mainGlobals "zip" = some none)
    (z_RuntimeError : PySem.W.nsIn K mainGlobals "RuntimeError" = some none)
    (z_OverflowError : PySem.W.nsIn K mainGlobals "OverflowError" = some none)
    (z_KeyError : PySem.W.nsIn K mainGlobals "KeyError" = some none)
    (z_LookupError : PySem.W.nsIn K mainGlobals "LookupError" = some none)
    (z_ValueError : PySem.W.nsIn K mainGlobals "ValueError" = some none)
    (z_IndexError : PySem.W.nsIn K mainGlobals "IndexError" = some none)
    (q_NoQuery : PySem.W.excIn K C_NoQuery PySem.HandSPX.veTail "ValueError.__new__" = true)
    (kp_NoQuery : PySem.W.keepIn K (.ref C_NoQuery) = true)
    (e1_NoQuery : PySem.W.subIn K (.ref C_NoQuery) (.type "BaseException") = some true)
    (e2_NoQuery : PySem.W.typeIn K (.ref C_NoQuery) = some (.type "type"))
    (aC_Page : PySem.W.nsIn K mainGlobals "Page" = some (some (.ref C_Page)))
    (pg_Page : PySem.W.plainGet K C_Page Str.empty = true)
    (hd_Page : PySem.W.hasDictIn K C_Page = true)
    (po_Page : PySem.W.plainOver K C_Page = true)
    (sa_Page : PySem.W.findIn K (.ref C_Page) "__setattr__" = some (some (.builtin "object.__setattr__")))
    (na_Page_number : PySem.W.findIn K (.ref C_Page) "number" = some none)
    (na_Page_held : PySem.W.findIn K (.ref C_Page) "held" = some none)
    (na_Page_text : PySem.W.findIn K (.ref C_Page) "text" = some none)
    (na_Page_stands : PySem.W.findIn K (.ref C_Page) "stands" = some none)
    (aC_Broken : PySem.W.nsIn K mainGlobals "Broken" = some (some (.ref C_Broken)))
    (aC_Full : PySem.W.nsIn K mainGlobals "Full" = some (some (.ref C_Full)))
    (aC_Gone : PySem.W.nsIn K mainGlobals "Gone" = some (some (.ref C_Gone)))
    (aC_NoFile : PySem.W.nsIn K mainGlobals "NoFile" = some (some (.ref C_NoFile)))
    (aC_Torn : PySem.W.nsIn K mainGlobals "Torn" = some (some (.ref C_Torn)))
    (k2_NoQuery : kind2B K [C_Broken, C_Full, C_Gone, C_NoDeed, C_NoFile, C_NoName, C_NoNumber, C_NoPages, C_NoQuery, C_NoShelf, C_NoSize, C_NoSlot, C_NoText, C_Taken, C_Torn] C_Wrong C_NoQuery 8 = true)
    (hx_NoQuery : PySem.W.exmAny K (.ref C_NoQuery) [.ref C_NoQuery] = some true)
    (a_law_kind : PySem.W.nsIn K mainGlobals "_law_kind" = some (some (.ref f_law_kind)))
    (l_law_kind : K.lookup f_law_kind = some ⟨oc_law_kind, od_law_kind, .func (PySem.W.fnOf "_law_kind" "_law_kind" (defArgs s_law_kind) (defBody s_law_kind) (defScope s_law_kind) .none kV_law_kind dc_law_kind pm_law_kind an_law_kind cd_law_kind ct_law_kind), sl_law_kind⟩)
    (c_law_kind : PySem.W.codeIn K cd_law_kind "_law_kind" = true)
    (k_law_kind : PySem.W.keepIn K (.ref f_law_kind) = true)
    (a_is_whole_words : PySem.W.nsIn K mainGlobals "is_whole_words" = some (some (.ref f_is_whole_words)))
    (l_is_whole_words : K.lookup f_is_whole_words = some ⟨oc_is_whole_words, od_is_whole_words, .func (PySem.W.fnOf "is_whole" "is_whole" (defArgs s_is_whole_words) (defBody s_is_whole_words) (defScope s_is_whole_words) .none kV_is_whole_words dc_is_whole_words pm_is_whole_words an_is_whole_words cd_is_whole_words ct_is_whole_words), sl_is_whole_words⟩)
    (c_is_whole_words : PySem.W.codeIn K cd_is_whole_words "is_whole" = true)
    (k_is_whole_words : PySem.W.keepIn K (.ref f_is_whole_words) = true)
    (a_is_word : PySem.W.nsIn K mainGlobals "is_word" = some (some (.ref f_is_word)))
    (l_is_word : K.lookup f_is_word = some ⟨oc_is_word, od_is_word, .func (PySem.W.fnOf "is_word" "is_word" (defArgs s_is_word) (defBody s_is_word) (defScope s_is_word) .none kV_is_word dc_is_word pm_is_word an_is_word cd_is_word ct_is_word), sl_is_word⟩)
    (c_is_word : PySem.W.codeIn K cd_is_word "is_word" = true)
    (k_is_word : PySem.W.keepIn K (.ref f_is_word) = true)
    (a_look_word : PySem.W.nsIn K mainGlobals "look_word" = some (some (.ref f_look_word)))
    (l_look_word : K.lookup f_look_word = some ⟨oc_look_word, od_look_word, .func (PySem.W.fnOf "look_word" "look_word" (defArgs s_look_word) (defBody s_look_word) (defScope s_look_word) .none kV_look_word dc_look_word pm_look_word an_look_word cd_look_word ct_look_word), sl_look_word⟩)
    (c_look_word : PySem.W.codeIn K cd_look_word "look_word" = true)
    (k_look_word : PySem.W.keepIn K (.ref f_look_word) = true)
    (a_look_words : PySem.W.nsIn K mainGlobals "look_words" = some (some (.ref f_look_words)))
    (l_look_words : K.lookup f_look_words = some ⟨oc_look_words, od_look_words, .func (PySem.W.fnOf "look_words" "look_words" (defArgs s_look_words) (defBody s_look_words) (defScope s_look_words) .none kV_look_words dc_look_words pm_look_words an_look_words cd_look_words ct_look_words), sl_look_words⟩)
    (c_look_words : PySem.W.codeIn K cd_look_words "look_words" = true)
    (k_look_words : PySem.W.keepIn K (.ref f_look_words) = true)
    (a_words_of : PySem.W.nsIn K mainGlobals "words_of" = some (some (.ref f_words_of)))
    (l_words_of : K.lookup f_words_of = some ⟨oc_words_of, od_words_of, .func (PySem.W.fnOf "words_of" "words_of" (defArgs s_words_of) (defBody s_words_of) (defScope s_words_of) .none kV_words_of dc_words_of pm_words_of an_words_of cd_words_of ct_words_of), sl_words_of⟩)
    (c_words_of : PySem.W.codeIn K cd_words_of "words_of" = true)
    (k_words_of : PySem.W.keepIn K (.ref f_words_of) = true)
    (a_Page___init__ : PySem.W.findIn K (.ref C_Page) "__init__" = some (some (.ref f_Page___init__)))
    (i_Page___init__ : PySem.W.isFn K (.ref f_Page___init__) = true)
    (l_Page___init__ : K.lookup f_Page___init__ = some ⟨oc_Page___init__, od_Page___init__, .func (PySem.W.fnOf "__init__" "Page.__init__" (defArgs s_Page___init__) (defBody s_Page___init__) (defScope s_Page___init__) (.ref Td_Page___init__) kV_Page___init__ dc_Page___init__ pm_Page___init__ an_Page___init__ cd_Page___init__ ct_Page___init__), sl_Page___init__⟩)
    (lT_Page___init__ : K.lookup Td_Page___init__ = some ⟨ocT_Page___init__, odT_Page___init__, .seq (List.toArray [.str "" tk0_Page___init__]) nT_Page___init__, slT_Page___init__⟩)
    (c_Page___init__ : PySem.W.codeIn K cd_Page___init__ "Page.__init__" = true)
    (k_Page___init__ : PySem.W.keepIn K (.ref f_Page___init__) = true)
    (mk_Page : PySem.W.makesIn K C_Page = true)
    (kc_Page : PySem.W.keepIn K (.ref C_Page) = true)
    (a_Page_words : PySem.W.findIn K (.ref C_Page) "words" = some (some (.ref f_Page_words)))
    (i_Page_words : PySem.W.isFn K (.ref f_Page_words) = true)
    (l_Page_words : K.lookup f_Page_words = some ⟨oc_Page_words, od_Page_words, .func (PySem.W.fnOf "words" "Page.words" (defArgs s_Page_words) (defBody s_Page_words) (defScope s_Page_words) .none kV_Page_words dc_Page_words pm_Page_words an_Page_words cd_Page_words ct_Page_words), sl_Page_words⟩)
    (c_Page_words : PySem.W.codeIn K cd_Page_words "Page.words" = true)
    (k_Page_words : PySem.W.keepIn K (.ref f_Page_words) = true)
    (a_Page_places : PySem.W.findIn K (.ref C_Page) "places" = some (some (.ref f_Page_places)))
    (i_Page_places : PySem.W.isFn K (.ref f_Page_places) = true)
    (l_Page_places : K.lookup f_Page_places = some ⟨oc_Page_places, od_Page_places, .func (PySem.W.fnOf "places" "Page.places" (defArgs s_Page_places) (defBody s_Page_places) (defScope s_Page_places) .none kV_Page_places dc_Page_places pm_Page_places an_Page_places cd_Page_places ct_Page_places), sl_Page_places⟩)
    (c_Page_places : PySem.W.codeIn K cd_Page_places "Page.places" = true)
    (k_Page_places : PySem.W.keepIn K (.ref f_Page_places) = true)
    (a_count_word : PySem.W.nsIn K mainGlobals "count_word" = some (some (.ref f_count_word)))
    (l_count_word : K.lookup f_count_word = some ⟨oc_count_word, od_count_word, .func (PySem.W.fnOf "count_word" "count_word" (defArgs s_count_word) (defBody s_count_word) (defScope s_count_word) .none kV_count_word dc_count_word pm_count_word an_count_word cd_count_word ct_count_word), sl_count_word⟩)
    (c_count_word : PySem.W.codeIn K cd_count_word "count_word" = true)
    (k_count_word : PySem.W.keepIn K (.ref f_count_word) = true)
    (a_count_phrase : PySem.W.nsIn K mainGlobals "count_phrase" = some (some (.ref f_count_phrase)))
    (l_count_phrase : K.lookup f_count_phrase = some ⟨oc_count_phrase, od_count_phrase, .func (PySem.W.fnOf "count_phrase" "count_phrase" (defArgs s_count_phrase) (defBody s_count_phrase) (defScope s_count_phrase) .none kV_count_phrase dc_count_phrase pm_count_phrase an_count_phrase cd_count_phrase ct_count_phrase), sl_count_phrase⟩)
    (c_count_phrase : PySem.W.codeIn K cd_count_phrase "count_phrase" = true)
    (k_count_phrase : PySem.W.keepIn K (.ref f_count_phrase) = true)
    (a_count_near : PySem.W.nsIn K mainGlobals "count_near" = some (some (.ref f_count_near)))
    (l_count_near : K.lookup f_count_near = some ⟨oc_count_near, od_count_near, .func (PySem.W.fnOf "count_near" "count_near" (defArgs s_count_near) (defBody s_count_near) (defScope s_count_near) .none kV_count_near dc_count_near pm_count_near an_count_near cd_count_near ct_count_near), sl_count_near⟩)
    (c_count_near : PySem.W.codeIn K cd_count_near "count_near" = true)
    (k_count_near : PySem.W.keepIn K (.ref f_count_near) = true)
    (a_count_joined : PySem.W.nsIn K mainGlobals "count_joined" = some (some (.ref f_count_joined)))
    (l_count_joined : K.lookup f_count_joined = some ⟨oc_count_joined, od_count_joined, .func (PySem.W.fnOf "count_joined" "count_joined" (defArgs s_count_joined) (defBody s_count_joined) (defScope s_count_joined) .none kV_count_joined dc_count_joined pm_count_joined an_count_joined cd_count_joined ct_count_joined), sl_count_joined⟩)
    (c_count_joined : PySem.W.codeIn K cd_count_joined "count_joined" = true)
    (k_count_joined : PySem.W.keepIn K (.ref f_count_joined) = true)
    (a_count_but : PySem.W.nsIn K mainGlobals "count_but" = some (some (.ref f_count_but)))
    (l_count_but : K.lookup f_count_but = some ⟨oc_count_but, od_count_but, .func (PySem.W.fnOf "count_but" "count_but" (defArgs s_count_but) (defBody s_count_but) (defScope s_count_but) .none kV_count_but dc_count_but pm_count_but an_count_but cd_count_but ct_count_but), sl_count_but⟩)
    (c_count_but : PySem.W.codeIn K cd_count_but "count_but" = true)
    (k_count_but : PySem.W.keepIn K (.ref f_count_but) = true)
    (a_count_words : PySem.W.nsIn K mainGlobals "count_words" = some (some (.ref f_count_words)))
    (l_count_words : K.lookup f_count_words = some ⟨oc_count_words, od_count_words, .func (PySem.W.fnOf "count_words" "count_words" (defArgs s_count_words) (defBody s_count_words) (defScope s_count_words) .none kV_count_words dc_count_words pm_count_words an_count_words cd_count_words ct_count_words), sl_count_words⟩)
    (c_count_words : PySem.W.codeIn K cd_count_words "count_words" = true)
    (k_count_words : PySem.W.keepIn K (.ref f_count_words) = true)
    (a_is_query : PySem.W.nsIn K mainGlobals "is_query" = some (some (.ref f_is_query)))
    (l_is_query : K.lookup f_is_query = some ⟨oc_is_query, od_is_query, .func (PySem.W.fnOf "is_query" "is_query" (defArgs s_is_query) (defBody s_is_query) (defScope s_is_query) .none kV_is_query dc_is_query pm_is_query an_is_query cd_is_query ct_is_query), sl_is_query⟩)
    (c_is_query : PySem.W.codeIn K cd_is_query "is_query" = true)
    (k_is_query : PySem.W.keepIn K (.ref f_is_query) = true)
    (a_places_of_phrase : PySem.W.nsIn K mainGlobals "places_of_phrase" = some (some (.ref f_places_of_phrase)))
    (l_places_of_phrase : K.lookup f_places_of_phrase = some ⟨oc_places_of_phrase, od_places_of_phrase, .func (PySem.W.fnOf "places_of_phrase" "places_of_phrase" (defArgs s_places_of_phrase) (defBody s_places_of_phrase) (defScope s_places_of_phrase) .none kV_places_of_phrase dc_places_of_phrase pm_places_of_phrase an_places_of_phrase cd_places_of_phrase ct_places_of_phrase), sl_places_of_phrase⟩)
    (c_places_of_phrase : PySem.W.codeIn K cd_places_of_phrase "places_of_phrase" = true)
    (k_places_of_phrase : PySem.W.keepIn K (.ref f_places_of_phrase) = true)
    (a_places_of_near : PySem.W.nsIn K mainGlobals "places_of_near" = some (some (.ref f_places_of_near)))
    (l_places_of_near : K.lookup f_places_of_near = some ⟨oc_places_of_near, od_places_of_near, .func (PySem.W.fnOf "places_of_near" "places_of_near" (defArgs s_places_of_near) (defBody s_places_of_near) (defScope s_places_of_near) .none kV_places_of_near dc_places_of_near pm_places_of_near an_places_of_near cd_places_of_near ct_places_of_near), sl_places_of_near⟩)
    (c_places_of_near : PySem.W.codeIn K cd_places_of_near "places_of_near" = true)
    (k_places_of_near : PySem.W.keepIn K (.ref f_places_of_near) = true)
    (a_places_in : PySem.W.nsIn K mainGlobals "places_in" = some (some (.ref f_places_in)))
    (l_places_in : K.lookup f_places_in = some ⟨oc_places_in, od_places_in, .func (PySem.W.fnOf "places_in" "places_in" (defArgs s_places_in) (defBody s_places_in) (defScope s_places_in) .none kV_places_in dc_places_in pm_places_in an_places_in cd_places_in ct_places_in), sl_places_in⟩)
    (c_places_in : PySem.W.codeIn K cd_places_in "places_in" = true)
    (k_places_in : PySem.W.keepIn K (.ref f_places_in) = true)
    (a_places_of : PySem.W.nsIn K mainGlobals "places_of" = some (some (.ref f_places_of)))
    (l_places_of : K.lookup f_places_of = some ⟨oc_places_of, od_places_of, .func (PySem.W.fnOf "places_of" "places_of" (defArgs s_places_of) (defBody s_places_of) (defScope s_places_of) .none kV_places_of dc_places_of pm_places_of an_places_of cd_places_of ct_places_of), sl_places_of⟩)
    (c_places_of : PySem.W.codeIn K cd_places_of "places_of" = true)
    (k_places_of : PySem.W.keepIn K (.ref f_places_of) = true)
    (a_is_whole_store : PySem.W.nsIn K mainGlobals "is_whole_store" = some (some (.ref f_is_whole_store)))
    (l_is_whole_store : K.lookup f_is_whole_store = some ⟨oc_is_whole_store, od_is_whole_store, .func (PySem.W.fnOf "is_whole" "is_whole" (defArgs s_is_whole_store) (defBody s_is_whole_store) (defScope s_is_whole_store) .none kV_is_whole_store dc_is_whole_store pm_is_whole_store an_is_whole_store cd_is_whole_store ct_is_whole_store), sl_is_whole_store⟩)
    (c_is_whole_store : PySem.W.codeIn K cd_is_whole_store "is_whole" = true)
    (k_is_whole_store : PySem.W.keepIn K (.ref f_is_whole_store) = true)
    (a_is_ground : PySem.W.nsIn K mainGlobals "is_ground" = some (some (.ref f_is_ground)))
    (l_is_ground : K.lookup f_is_ground = some ⟨oc_is_ground, od_is_ground, .func (PySem.W.fnOf "is_ground" "is_ground" (defArgs s_is_ground) (defBody s_is_ground) (defScope s_is_ground) .none kV_is_ground dc_is_ground pm_is_ground an_is_ground cd_is_ground ct_is_ground), sl_is_ground⟩)
    (c_is_ground : PySem.W.codeIn K cd_is_ground "is_ground" = true)
    (k_is_ground : PySem.W.keepIn K (.ref f_is_ground) = true)
    (a_stand : PySem.W.nsIn K mainGlobals "stand" = some (some (.ref f_stand)))
    (l_stand : K.lookup f_stand = some ⟨oc_stand, od_stand, .func (PySem.W.fnOf "stand" "stand" (defArgs s_stand) (defBody s_stand) (defScope s_stand) .none kV_stand dc_stand pm_stand an_stand cd_stand ct_stand), sl_stand⟩)
    (c_stand : PySem.W.codeIn K cd_stand "stand" = true)
    (k_stand : PySem.W.keepIn K (.ref f_stand) = true)
    (a_is_near : PySem.W.nsIn K mainGlobals "is_near" = some (some (.ref f_is_near)))
    (l_is_near : K.lookup f_is_near = some ⟨oc_is_near, od_is_near, .func (PySem.W.fnOf "is_near" "is_near" (defArgs s_is_near) (defBody s_is_near) (defScope s_is_near) .none kV_is_near dc_is_near pm_is_near an_is_near cd_is_near ct_is_near), sl_is_near⟩)
    (c_is_near : PySem.W.codeIn K cd_is_near "is_near" = true)
    (k_is_near : PySem.W.keepIn K (.ref f_is_near) = true)
    (a_holds_at : PySem.W.nsIn K mainGlobals "holds_at" = some (some (.ref f_holds_at)))
    (l_holds_at : K.lookup f_holds_at = some ⟨oc_holds_at, od_holds_at, .func (PySem.W.fnOf "holds_at" "holds_at" (defArgs s_holds_at) (defBody s_holds_at) (defScope s_holds_at) .none kV_holds_at dc_holds_at pm_holds_at an_holds_at cd_holds_at ct_holds_at), sl_holds_at⟩)
    (c_holds_at : PySem.W.codeIn K cd_holds_at "holds_at" = true)
    (k_holds_at : PySem.W.keepIn K (.ref f_holds_at) = true)
    (a_found_at : PySem.W.nsIn K mainGlobals "found_at" = some (some (.ref f_found_at)))
    (l_found_at : K.lookup f_found_at = some ⟨oc_found_at, od_found_at, .func (PySem.W.fnOf "found_at" "found_at" (defArgs s_found_at) (defBody s_found_at) (defScope s_found_at) .none kV_found_at dc_found_at pm_found_at an_found_at cd_found_at ct_found_at), sl_found_at⟩)
    (c_found_at : PySem.W.codeIn K cd_found_at "found_at" = true)
    (k_found_at : PySem.W.keepIn K (.ref f_found_at) = true)
    (a_has_none : PySem.W.nsIn K mainGlobals "has_none" = some (some (.ref f_has_none)))
    (l_has_none : K.lookup f_has_none = some ⟨oc_has_none, od_has_none, .func (PySem.W.fnOf "has_none" "has_none" (defArgs s_has_none) (defBody s_has_none) (defScope s_has_none) .none kV_has_none dc_has_none pm_has_none an_has_none cd_has_none ct_has_none), sl_has_none⟩)
    (c_has_none : PySem.W.codeIn K cd_has_none "has_none" = true)
    (k_has_none : PySem.W.keepIn K (.ref f_has_none) = true)
    (a_holds_one : PySem.W.nsIn K mainGlobals "holds_one" = some (some (.ref f_holds_one)))
    (l_holds_one : K.lookup f_holds_one = some ⟨oc_holds_one, od_holds_one, .func (PySem.W.fnOf "holds_one" "holds_one" (defArgs s_holds_one) (defBody s_holds_one) (defScope s_holds_one) .none kV_holds_one dc_holds_one pm_holds_one an_holds_one cd_holds_one ct_holds_one), sl_holds_one⟩)
    (c_holds_one : PySem.W.codeIn K cd_holds_one "holds_one" = true)
    (k_holds_one : PySem.W.keepIn K (.ref f_holds_one) = true)
    (a_holds_each : PySem.W.nsIn K mainGlobals "holds_each" = some (some (.ref f_holds_each)))
    (l_holds_each : K.lookup f_holds_each = some ⟨oc_holds_each, od_holds_each, .func (PySem.W.fnOf "holds_each" "holds_each" (defArgs s_holds_each) (defBody s_holds_each) (defScope s_holds_each) .none kV_holds_each dc_holds_each pm_holds_each an_holds_each cd_holds_each ct_holds_each), sl_holds_each⟩)
    (c_holds_each : PySem.W.codeIn K cd_holds_each "holds_each" = true)
    (k_holds_each : PySem.W.keepIn K (.ref f_holds_each) = true)
    (a_holds_but : PySem.W.nsIn K mainGlobals "holds_but" = some (some (.ref f_holds_but)))
    (l_holds_but : K.lookup f_holds_but = some ⟨oc_holds_but, od_holds_but, .func (PySem.W.fnOf "holds_but" "holds_but" (defArgs s_holds_but) (defBody s_holds_but) (defScope s_holds_but) .none kV_holds_but dc_holds_but pm_holds_but an_holds_but cd_holds_but ct_holds_but), sl_holds_but⟩)
    (c_holds_but : PySem.W.codeIn K cd_holds_but "holds_but" = true)
    (k_holds_but : PySem.W.keepIn K (.ref f_holds_but) = true)
    (a_holds_ground : PySem.W.nsIn K mainGlobals "holds_ground" = some (some (.ref f_holds_ground)))
    (l_holds_ground : K.lookup f_holds_ground = some ⟨oc_holds_ground, od_holds_ground, .func (PySem.W.fnOf "holds_ground" "holds_ground" (defArgs s_holds_ground) (defBody s_holds_ground) (defScope s_holds_ground) .none kV_holds_ground dc_holds_ground pm_holds_ground an_holds_ground cd_holds_ground ct_holds_ground), sl_holds_ground⟩)
    (c_holds_ground : PySem.W.codeIn K cd_holds_ground "holds_ground" = true)
    (k_holds_ground : PySem.W.keepIn K (.ref f_holds_ground) = true)
    (a_yes_plain : PySem.W.nsIn K mainGlobals "yes_plain" = some (some (.ref f_yes_plain)))
    (l_yes_plain : K.lookup f_yes_plain = some ⟨oc_yes_plain, od_yes_plain, .func (PySem.W.fnOf "yes_plain" "yes_plain" (defArgs s_yes_plain) (defBody s_yes_plain) (defScope s_yes_plain) .none kV_yes_plain dc_yes_plain pm_yes_plain an_yes_plain cd_yes_plain ct_yes_plain), sl_yes_plain⟩)
    (c_yes_plain : PySem.W.codeIn K cd_yes_plain "yes_plain" = true)
    (k_yes_plain : PySem.W.keepIn K (.ref f_yes_plain) = true)
    (a_first_of : PySem.W.nsIn K mainGlobals "first_of" = some (some (.ref f_first_of)))
    (l_first_of : K.lookup f_first_of = some ⟨oc_first_of, od_first_of, .func (PySem.W.fnOf "first_of" "first_of" (defArgs s_first_of) (defBody s_first_of) (defScope s_first_of) .none kV_first_of dc_first_of pm_first_of an_first_of cd_first_of ct_first_of), sl_first_of⟩)
    (c_first_of : PySem.W.codeIn K cd_first_of "first_of" = true)
    (k_first_of : PySem.W.keepIn K (.ref f_first_of) = true)
    (a_all_of : PySem.W.nsIn K mainGlobals "all_of" = some (some (.ref f_all_of)))
    (l_all_of : K.lookup f_all_of = some ⟨oc_all_of, od_all_of, .func (PySem.W.fnOf "all_of" "all_of" (defArgs s_all_of) (defBody s_all_of) (defScope s_all_of) .none kV_all_of dc_all_of pm_all_of an_all_of cd_all_of ct_all_of), sl_all_of⟩)
    (c_all_of : PySem.W.codeIn K cd_all_of "all_of" = true)
    (k_all_of : PySem.W.keepIn K (.ref f_all_of) = true)
    (a_yes_ground : PySem.W.nsIn K mainGlobals "yes_ground" = some (some (.ref f_yes_ground)))
    (l_yes_ground : K.lookup f_yes_ground = some ⟨oc_yes_ground, od_yes_ground, .func (PySem.W.fnOf "yes_ground" "yes_ground" (defArgs s_yes_ground) (defBody s_yes_ground) (defScope s_yes_ground) .none kV_yes_ground dc_yes_ground pm_yes_ground an_yes_ground cd_yes_ground ct_yes_ground), sl_yes_ground⟩)
    (c_yes_ground : PySem.W.codeIn K cd_yes_ground "yes_ground" = true)
    (k_yes_ground : PySem.W.keepIn K (.ref f_yes_ground) = true)
    (a_no_ground : PySem.W.nsIn K mainGlobals "no_ground" = some (some (.ref f_no_ground)))
    (l_no_ground : K.lookup f_no_ground = some ⟨oc_no_ground, od_no_ground, .func (PySem.W.fnOf "no_ground" "no_ground" (defArgs s_no_ground) (defBody s_no_ground) (defScope s_no_ground) .none kV_no_ground dc_no_ground pm_no_ground an_no_ground cd_no_ground ct_no_ground), sl_no_ground⟩)
    (c_no_ground : PySem.W.codeIn K cd_no_ground "no_ground" = true)
    (k_no_ground : PySem.W.keepIn K (.ref f_no_ground) = true)
    (a_look_query : PySem.W.nsIn K mainGlobals "look_query" = some (some (.ref f_look_query)))
    (l_look_query : K.lookup f_look_query = some ⟨oc_look_query, od_look_query, .func (PySem.W.fnOf "look_query" "look_query" (defArgs s_look_query) (defBody s_look_query) (defScope s_look_query) .none kV_look_query dc_look_query pm_look_query an_look_query cd_look_query ct_look_query), sl_look_query⟩)
    (c_look_query : PySem.W.codeIn K cd_look_query "look_query" = true)
    (k_look_query : PySem.W.keepIn K (.ref f_look_query) = true)
    (a_paper_of : PySem.W.nsIn K mainGlobals "paper_of" = some (some (.ref f_paper_of)))
    (l_paper_of : K.lookup f_paper_of = some ⟨oc_paper_of, od_paper_of, .func (PySem.W.fnOf "paper_of" "paper_of" (defArgs s_paper_of) (defBody s_paper_of) (defScope s_paper_of) .none kV_paper_of dc_paper_of pm_paper_of an_paper_of cd_paper_of ct_paper_of), sl_paper_of⟩)
    (c_paper_of : PySem.W.codeIn K cd_paper_of "paper_of" = true)
    (k_paper_of : PySem.W.keepIn K (.ref f_paper_of) = true)
    (a_holds : PySem.W.nsIn K mainGlobals "holds" = some (some (.ref f_holds)))
    (l_holds : K.lookup f_holds = some ⟨oc_holds, od_holds, .func (PySem.W.fnOf "holds" "holds" (defArgs s_holds) (defBody s_holds) (defScope s_holds) .none kV_holds dc_holds pm_holds an_holds cd_holds ct_holds), sl_holds⟩)
    (c_holds : PySem.W.codeIn K cd_holds "holds" = true)
    (k_holds : PySem.W.keepIn K (.ref f_holds) = true)
    (a_law_purse : PySem.W.nsIn K mainGlobals "_law_purse" = some (some (.ref f_law_purse)))
    (l_law_purse : K.lookup f_law_purse = some ⟨oc_law_purse, od_law_purse, .func (PySem.W.fnOf "_law_purse" "_law_purse" (defArgs s_law_purse) (defBody s_law_purse) (defScope s_law_purse) .none kV_law_purse dc_law_purse pm_law_purse an_law_purse cd_law_purse ct_law_purse), sl_law_purse⟩)
    (c_law_purse : PySem.W.codeIn K cd_law_purse "_law_purse" = true)
    (k_law_purse : PySem.W.keepIn K (.ref f_law_purse) = true)
    (a_law_take : PySem.W.nsIn K mainGlobals "_law_take" = some (some (.ref f_law_take)))
    (l_law_take : K.lookup f_law_take = some ⟨oc_law_take, od_law_take, .func (PySem.W.fnOf "_law_take" "_law_take" (defArgs s_law_take) (defBody s_law_take) (defScope s_law_take) .none kV_law_take dc_law_take pm_law_take an_law_take cd_law_take ct_law_take), sl_law_take⟩)
    (c_law_take : PySem.W.codeIn K cd_law_take "_law_take" = true)
    (k_law_take : PySem.W.keepIn K (.ref f_law_take) = true)
    (a_law_query : PySem.W.nsIn K mainGlobals "_law_query" = some (some (.ref f_law_query)))
    (l_law_query : K.lookup f_law_query = some ⟨oc_law_query, od_law_query, .func (PySem.W.fnOf "_law_query" "_law_query" (defArgs s_law_query) (defBody s_law_query) (defScope s_law_query) .none kV_law_query dc_law_query pm_law_query an_law_query cd_law_query ct_law_query), sl_law_query⟩)
    (c_law_query : PySem.W.codeIn K cd_law_query "_law_query" = true)
    (k_law_query : PySem.W.keepIn K (.ref f_law_query) = true)
    (a_law_text : PySem.W.nsIn K mainGlobals "_law_text" = some (some (.ref f_law_text)))
    (l_law_text : K.lookup f_law_text = some ⟨oc_law_text, od_law_text, .func (PySem.W.fnOf "_law_text" "_law_text" (defArgs s_law_text) (defBody s_law_text) (defScope s_law_text) .none kV_law_text dc_law_text pm_law_text an_law_text cd_law_text ct_law_text), sl_law_text⟩)
    (c_law_text : PySem.W.codeIn K cd_law_text "_law_text" = true)
    (k_law_text : PySem.W.keepIn K (.ref f_law_text) = true)
    (a_law_right_places : PySem.W.nsIn K mainGlobals "_law_right_places" = some (some (.ref f_law_right_places)))
    (l_law_right_places : K.lookup f_law_right_places = some ⟨oc_law_right_places, od_law_right_places, .func (PySem.W.fnOf "_law_right_places" "_law_right_places" (defArgs s_law_right_places) (defBody s_law_right_places) (defScope s_law_right_places) .none kV_law_right_places dc_law_right_places pm_law_right_places an_law_right_places cd_law_right_places ct_law_right_places), sl_law_right_places⟩)
    (c_law_right_places : PySem.W.codeIn K cd_law_right_places "_law_right_places" = true)
    (k_law_right_places : PySem.W.keepIn K (.ref f_law_right_places) = true)
    (a_law_first : PySem.W.nsIn K mainGlobals "_law_first" = some (some (.ref f_law_first)))
    (l_law_first : K.lookup f_law_first = some ⟨oc_law_first, od_law_first, .func (PySem.W.fnOf "_law_first" "_law_first" (defArgs s_law_first) (defBody s_law_first) (defScope s_law_first) .none kV_law_first dc_law_first pm_law_first an_law_first cd_law_first ct_law_first), sl_law_first⟩)
    (c_law_first : PySem.W.codeIn K cd_law_first "_law_first" = true)
    (k_law_first : PySem.W.keepIn K (.ref f_law_first) = true)
    (a_law_ground : PySem.W.nsIn K mainGlobals "_law_ground" = some (some (.ref f_law_ground)))
    (l_law_ground : K.lookup f_law_ground = some ⟨oc_law_ground, od_law_ground, .func (PySem.W.fnOf "_law_ground" "_law_ground" (defArgs s_law_ground) (defBody s_law_ground) (defScope s_law_ground) .none kV_law_ground dc_law_ground pm_law_ground an_law_ground cd_law_ground ct_law_ground), sl_law_ground⟩)
    (c_law_ground : PySem.W.codeIn K cd_law_ground "_law_ground" = true)
    (k_law_ground : PySem.W.keepIn K (.ref f_law_ground) = true)
    (a_law_same : PySem.W.nsIn K mainGlobals "_law_same" = some (some (.ref f_law_same)))
    (l_law_same : K.lookup f_law_same = some ⟨oc_law_same, od_law_same, .func (PySem.W.fnOf "_law_same" "_law_same" (defArgs s_law_same) (defBody s_law_same) (defScope s_law_same) .none kV_law_same dc_law_same pm_law_same an_law_same cd_law_same ct_law_same), sl_law_same⟩)
    (c_law_same : PySem.W.codeIn K cd_law_same "_law_same" = true)
    (k_law_same : PySem.W.keepIn K (.ref f_law_same) = true)
    (a_law_refused : PySem.W.nsIn K mainGlobals "_law_refused" = some (some (.ref f_law_refused)))
    (l_law_refused : K.lookup f_law_refused = some ⟨oc_law_refused, od_law_refused, .func (PySem.W.fnOf "_law_refused" "_law_refused" (defArgs s_law_refused) (defBody s_law_refused) (defScope s_law_refused) .none kV_law_refused dc_law_refused pm_law_refused an_law_refused cd_law_refused ct_law_refused), sl_law_refused⟩)
    (c_law_refused : PySem.W.codeIn K cd_law_refused "_law_refused" = true)
    (k_law_refused : PySem.W.keepIn K (.ref f_law_refused) = true)
    (a_law : PySem.W.nsIn K mainGlobals "law" = some (some (.ref f_law)))
    (l_law : K.lookup f_law = some ⟨oc_law, od_law, .func (PySem.W.fnOf "law" "law" (defArgs s_law) (defBody s_law) (defScope s_law) .none kV_law dc_law pm_law an_law cd_law ct_law), sl_law⟩)
    (c_law : PySem.W.codeIn K cd_law "law" = true)
    (k_law : PySem.W.keepIn K (.ref f_law) = true)
    (a_KINDS : PySem.W.nsIn K mainGlobals "KINDS" = some (some (.ref D_KINDS)))
    (l_KINDS : K.lookup D_KINDS = some ⟨.type "dict", none, .dict (([⟨"word", tD0_KINDS, .ref f_count_word⟩, ⟨"phrase", tD1_KINDS, .ref f_count_phrase⟩, ⟨"near", tD2_KINDS, .ref f_count_near⟩, ⟨"and", tD3_KINDS, .ref f_count_joined⟩, ⟨"or", tD4_KINDS, .ref f_count_joined⟩, ⟨"but", tD5_KINDS, .ref f_count_but⟩] : List Ent).map (Ent.de w.params)).toArray nD_KINDS, #[]⟩)
    (lo_KINDS : (D_KINDS == sysModules) = false)
    (a_PLAIN_looker : PySem.W.nsIn K mainGlobals "PLAIN_looker" = some (some (.ref D_PLAIN_looker)))
    (l_PLAIN_looker : K.lookup D_PLAIN_looker = some ⟨.type "tuple", od_PLAIN_looker, .seq (List.toArray [.str "word" t0_PLAIN_looker, .str "phrase" t1_PLAIN_looker, .str "near" t2_PLAIN_looker]) n_PLAIN_looker, sl_PLAIN_looker⟩)
    (a_PLAIN_grounds : PySem.W.nsIn K mainGlobals "PLAIN_grounds" = some (some (.ref D_PLAIN_grounds)))
    (l_PLAIN_grounds : K.lookup D_PLAIN_grounds = some ⟨.type "tuple", od_PLAIN_grounds, .seq (List.toArray [.str "word" t0_PLAIN_grounds, .str "phrase" t1_PLAIN_grounds, .str "near" t2_PLAIN_grounds]) n_PLAIN_grounds, sl_PLAIN_grounds⟩) :
    ∃ fd : FuncData, (∀ (s : Shared) (v : Value), BindsTo s fd ⟨[v], []⟩ [("_law_script", v)]) ∧ ∀ base : Heap, K.In base → base.Ns mainGlobals mg → FnOk l.prog w K mg base CX0 35 fa fd ["_law_script"] (spLaw K) := by
  have e := hfa.symm.trans (PySem.W.mg_of X G a_law)
  cases e
  have T : Txt K mg (⟨C_Wrong, C_Wrong, C_NoText, C_NoNumber, C_NoSize, C_Wrong, C_NoQuery, C_Wrong, C_Wrong, C_Wrong, C_Wrong, C_NoPages, C_NoName, C_Wrong, C_NoShelf, C_NoDeed, C_Taken, C_Wrong, C_NoSlot⟩ : Zs) C_Page C_Broken C_Full C_Gone C_NoFile C_Torn := { c_LETTERS := ⟨_, PySem.W.mg_of X G g_LETTERS⟩, c_LONGEST := ⟨_, PySem.W.mg_of X G g_LONGEST⟩, c_MOST := ⟨_, PySem.W.mg_of X G g_MOST⟩, c_MOST_NUMBER := ⟨_, PySem.W.mg_of X G g_MOST_NUMBER⟩, c_DEEPEST := ⟨_, PySem.W.mg_of X G g_DEEPEST⟩, c_MOST_WORDS := ⟨_, PySem.W.mg_of X G g_MOST_WORDS⟩, c_FARTHEST := ⟨_, PySem.W.mg_of X G g_FARTHEST⟩, n_isinstance := PySem.W.mg_none_of X G z_isinstance, n_bool := PySem.W.mg_none_of X G z_bool, n_int := PySem.W.mg_none_of X G z_int, n_str := PySem.W.mg_none_of X G z_str, n_list := PySem.W.mg_none_of X G z_list, n_tuple := PySem.W.mg_none_of X G z_tuple, n_len := PySem.W.mg_none_of X G z_len, n_all := PySem.W.mg_none_of X G z_all, n_any := PySem.W.mg_none_of X G z_any, n_max := PySem.W.mg_none_of X G z_max, n_min := PySem.W.mg_none_of X G z_min, n_range := PySem.W.mg_none_of X G z_range, n_abs := PySem.W.mg_none_of X G z_abs, n_sum := PySem.W.mg_none_of X G z_sum, n_enumerate := PySem.W.mg_none_of X G z_enumerate, n_zip := PySem.W.mg_none_of X G z_zip, n_RuntimeError := PySem.W.mg_none_of X G z_RuntimeError, n_OverflowError := PySem.W.mg_none_of X G z_OverflowError, n_KeyError := PySem.W.mg_none_of X G z_KeyError, n_LookupError := PySem.W.mg_none_of X G z_LookupError, n_ValueError := PySem.W.mg_none_of X G z_ValueError, n_IndexError := PySem.W.mg_none_of X G z_IndexError, m_Wrong := PySem.W.mg_of X G aC_Wrong, m_NoText := PySem.W.mg_of X G aC_NoText, m_NoNumber := PySem.W.mg_of X G aC_NoNumber, m_NoSize := PySem.W.mg_of X G aC_NoSize, m_NoQuery := PySem.W.mg_of X G aC_NoQuery, m_NoPages := PySem.W.mg_of X G aC_NoPages, m_NoName := PySem.W.mg_of X G aC_NoName, m_NoShelf := PySem.W.mg_of X G aC_NoShelf, m_NoDeed := PySem.W.mg_of X G aC_NoDeed, m_Taken := PySem.W.mg_of X G aC_Taken, m_NoSlot := PySem.W.mg_of X G aC_NoSlot, x_NoQuery := ⟨q_NoQuery, kp_NoQuery, e1_NoQuery, e2_NoQuery⟩, na_Page_number := na_Page_number, na_Page_held := na_Page_held, na_Page_text := na_Page_text, na_Page_stands := na_Page_stands, cl_Page := ⟨pg_Page, hd_Page, po_Page, sa_Page⟩, m_Page := PySem.W.mg_of X G aC_Page, m_Broken := PySem.W.mg_of X G aC_Broken, m_Full := PySem.W.mg_of X G aC_Full, m_Gone := PySem.W.mg_of X G aC_Gone, m_NoFile := PySem.W.mg_of X G aC_NoFile, m_Torn := PySem.W.mg_of X G aC_Torn }
  have F_law_kind := fun_mk (st := s_law_kind) l_law_kind c_law_kind k_law_kind
  have b_law_kind := F_law_kind.binds (ps := ["_law_e"]) fun _ _ _ _ _ _ us hl => match us, hl with | [_], _ => rfl
  have F_is_whole_words := fun_mk (st := s_is_whole_words) l_is_whole_words c_is_whole_words k_is_whole_words
  have b_is_whole_words := F_is_whole_words.binds (ps := ["thing"]) fun _ _ _ _ _ _ us hl => match us, hl with | [_], _ => rfl
  have F_is_word := fun_mk (st := s_is_word) l_is_word c_is_word k_is_word
  have b_is_word := F_is_word.binds (ps := ["thing"]) fun _ _ _ _ _ _ us hl => match us, hl with | [_], _ => rfl
  have F_look_word := fun_mk (st := s_look_word) l_look_word c_look_word k_look_word
  have b_look_word := F_look_word.binds (ps := ["thing"]) fun _ _ _ _ _ _ us hl => match us, hl with | [_], _ => rfl
  have F_look_words := fun_mk (st := s_look_words) l_look_words c_look_words k_look_words
  have b_look_words := F_look_words.binds (ps := ["words"]) fun _ _ _ _ _ _ us hl => match us, hl with | [_], _ => rfl
  have F_words_of := fun_mk (st := s_words_of) l_words_of c_words_of k_words_of
  have b_words_of := F_words_of.binds (ps := ["text"]) fun _ _ _ _ _ _ us hl => match us, hl with | [_], _ => rfl
  have F_Page_words := fun_mk (st := s_Page_words) l_Page_words c_Page_words k_Page_words
  have b_Page_words := F_Page_words.binds (ps := ["self"]) fun _ _ _ _ _ _ us hl => match us, hl with | [_], _ => rfl
  have F_Page_places := fun_mk (st := s_Page_places) l_Page_places c_Page_places k_Page_places
  have b_Page_places := F_Page_places.binds (ps := ["self", "word"]) fun _ _ _ _ _ _ us hl => match us, hl with | [_, _], _ => rfl
  have F_count_word := fun_mk (st := s_count_word) l_count_word c_count_word k_count_word
  have b_count_word := F_count_word.binds (ps := ["parts", "deep"]) fun _ _ _ _ _ _ us hl => match us, hl with | [_, _], _ => rfl
  have F_count_phrase := fun_mk (st := s_count_phrase) l_count_phrase c_count_phrase k_count_phrase
  have b_count_phrase := F_count_phrase.binds (ps := ["parts", "deep"]) fun _ _ _ _ _ _ us hl => match us, hl with | [_, _], _ => rfl
  have F_count_near := fun_mk (st := s_count_near) l_count_near c_count_near k_count_near
  have b_count_near := F_count_near.binds (ps := ["parts", "deep"]) fun _ _ _ _ _ _ us hl => match us, hl with | [_, _], _ => rfl
  have F_count_joined := fun_mk (st := s_count_joined) l_count_joined c_count_joined k_count_joined
  have b_count_joined := F_count_joined.binds (ps := ["parts", "deep"]) fun _ _ _ _ _ _ us hl => match us, hl with | [_, _], _ => rfl
  have F_count_but := fun_mk (st := s_count_but) l_count_but c_count_but k_count_but
  have b_count_but := F_count_but.binds (ps := ["parts", "deep"]) fun _ _ _ _ _ _ us hl => match us, hl with | [_, _], _ => rfl
  have F_count_words := fun_mk (st := s_count_words) l_count_words c_count_words k_count_words
  have b_count_words := F_count_words.binds (ps := ["thing", "deep"]) fun _ _ _ _ _ _ us hl => match us, hl with | [_, _], _ => rfl
  have F_is_query := fun_mk (st := s_is_query) l_is_query c_is_query k_is_query
  have b_is_query := F_is_query.binds (ps := ["thing"]) fun _ _ _ _ _ _ us hl => match us, hl with | [_], _ => rfl
  have F_places_of_phrase := fun_mk (st := s_places_of_phrase) l_places_of_phrase c_places_of_phrase k_places_of_phrase
  have b_places_of_phrase := F_places_of_phrase.binds (ps := ["words", "page"]) fun _ _ _ _ _ _ us hl => match us, hl with | [_, _], _ => rfl
  have F_places_of_near := fun_mk (st := s_places_of_near) l_places_of_near c_places_of_near k_places_of_near
  have b_places_of_near := F_places_of_near.binds (ps := ["far", "word", "other", "page"]) fun _ _ _ _ _ _ us hl => match us, hl with | [_, _, _, _], _ => rfl
  have F_places_in := fun_mk (st := s_places_in) l_places_in c_places_in k_places_in
  have b_places_in := F_places_in.binds (ps := ["query", "page"]) fun _ _ _ _ _ _ us hl => match us, hl with | [_, _], _ => rfl
  have F_places_of := fun_mk (st := s_places_of) l_places_of c_places_of k_places_of
  have b_places_of := F_places_of.binds (ps := ["query", "page"]) fun _ _ _ _ _ _ us hl => match us, hl with | [_, _], _ => rfl
  have F_is_whole_store := fun_mk (st := s_is_whole_store) l_is_whole_store c_is_whole_store k_is_whole_store
  have b_is_whole_store := F_is_whole_store.binds (ps := ["thing"]) fun _ _ _ _ _ _ us hl => match us, hl with | [_], _ => rfl
  have F_is_ground := fun_mk (st := s_is_ground) l_is_ground c_is_ground k_is_ground
  have b_is_ground := F_is_ground.binds (ps := ["thing", "word", "many"]) fun _ _ _ _ _ _ us hl => match us, hl with | [_, _, _], _ => rfl
  have F_stand := fun_mk (st := s_stand) l_stand c_stand k_stand
  have b_stand := F_stand.binds (ps := ["words", "at", "held"]) fun _ _ _ _ _ _ us hl => match us, hl with | [_, _, _], _ => rfl
  have F_is_near := fun_mk (st := s_is_near) l_is_near c_is_near k_is_near
  have b_is_near := F_is_near.binds (ps := ["query", "one", "other", "held"]) fun _ _ _ _ _ _ us hl => match us, hl with | [_, _, _, _], _ => rfl
  have F_holds_at := fun_mk (st := s_holds_at) l_holds_at c_holds_at k_holds_at
  have b_holds_at := F_holds_at.binds (ps := ["query", "ground", "held"]) fun _ _ _ _ _ _ us hl => match us, hl with | [_, _, _], _ => rfl
  have F_found_at := fun_mk (st := s_found_at) l_found_at c_found_at k_found_at
  have b_found_at := F_found_at.binds (ps := ["query", "held", "places"]) fun _ _ _ _ _ _ us hl => match us, hl with | [_, _, _], _ => rfl
  have F_has_none := fun_mk (st := s_has_none) l_has_none c_has_none k_has_none
  have b_has_none := F_has_none.binds (ps := ["query", "held"]) fun _ _ _ _ _ _ us hl => match us, hl with | [_, _], _ => rfl
  have F_holds_one := fun_mk (st := s_holds_one) l_holds_one c_holds_one k_holds_one
  have b_holds_one := F_holds_one.binds (ps := ["query", "ground", "word", "yes", "held"]) fun _ _ _ _ _ _ us hl => match us, hl with | [_, _, _, _, _], _ => rfl
  have F_holds_each := fun_mk (st := s_holds_each) l_holds_each c_holds_each k_holds_each
  have b_holds_each := F_holds_each.binds (ps := ["query", "ground", "yes", "held"]) fun _ _ _ _ _ _ us hl => match us, hl with | [_, _, _, _], _ => rfl
  have F_holds_but := fun_mk (st := s_holds_but) l_holds_but c_holds_but k_holds_but
  have b_holds_but := F_holds_but.binds (ps := ["query", "ground", "yes", "held"]) fun _ _ _ _ _ _ us hl => match us, hl with | [_, _, _, _], _ => rfl
  have F_holds_ground := fun_mk (st := s_holds_ground) l_holds_ground c_holds_ground k_holds_ground
  have b_holds_ground := F_holds_ground.binds (ps := ["query", "ground", "yes", "held"]) fun _ _ _ _ _ _ us hl => match us, hl with | [_, _, _, _], _ => rfl
  have F_yes_plain := fun_mk (st := s_yes_plain) l_yes_plain c_yes_plain k_yes_plain
  have b_yes_plain := F_yes_plain.binds (ps := ["query", "page"]) fun _ _ _ _ _ _ us hl => match us, hl with | [_, _], _ => rfl
  have F_first_of := fun_mk (st := s_first_of) l_first_of c_first_of k_first_of
  have b_first_of := F_first_of.binds (ps := ["grounds", "word"]) fun _ _ _ _ _ _ us hl => match us, hl with | [_, _], _ => rfl
  have F_all_of := fun_mk (st := s_all_of) l_all_of c_all_of k_all_of
  have b_all_of := F_all_of.binds (ps := ["grounds"]) fun _ _ _ _ _ _ us hl => match us, hl with | [_], _ => rfl
  have F_yes_ground := fun_mk (st := s_yes_ground) l_yes_ground c_yes_ground k_yes_ground
  have b_yes_ground := F_yes_ground.binds (ps := ["query", "page"]) fun _ _ _ _ _ _ us hl => match us, hl with | [_, _], _ => rfl
  have F_no_ground := fun_mk (st := s_no_ground) l_no_ground c_no_ground k_no_ground
  have b_no_ground := F_no_ground.binds (ps := ["query", "page"]) fun _ _ _ _ _ _ us hl => match us, hl with | [_, _], _ => rfl
  have F_look_query := fun_mk (st := s_look_query) l_look_query c_look_query k_look_query
  have b_look_query := F_look_query.binds (ps := ["thing"]) fun _ _ _ _ _ _ us hl => match us, hl with | [_], _ => rfl
  have F_paper_of := fun_mk (st := s_paper_of) l_paper_of c_paper_of k_paper_of
  have b_paper_of := F_paper_of.binds (ps := ["query", "page"]) fun _ _ _ _ _ _ us hl => match us, hl with | [_, _], _ => rfl
  have F_holds := fun_mk (st := s_holds) l_holds c_holds k_holds
  have b_holds := F_holds.binds (ps := ["paper", "page"]) fun _ _ _ _ _ _ us hl => match us, hl with | [_, _], _ => rfl
  have F_law_purse := fun_mk (st := s_law_purse) l_law_purse c_law_purse k_law_purse
  have b_law_purse := F_law_purse.binds (ps := ["_law_script", "_law_at"]) fun _ _ _ _ _ _ us hl => match us, hl with | [_, _], _ => rfl
  have F_law_take := fun_mk (st := s_law_take) l_law_take c_law_take k_law_take
  have b_law_take := F_law_take.binds (ps := ["_law_purse_here", "_law_many"]) fun _ _ _ _ _ _ us hl => match us, hl with | [_, _], _ => rfl
  have F_law_query := fun_mk (st := s_law_query) l_law_query c_law_query k_law_query
  have b_law_query := F_law_query.binds (ps := ["_law_purse_here", "_law_deep", "_law_most"]) fun _ _ _ _ _ _ us hl => match us, hl with | [_, _, _], _ => rfl
  have F_law_text := fun_mk (st := s_law_text) l_law_text c_law_text k_law_text
  have b_law_text := F_law_text.binds (ps := ["_law_purse_here", "_law_most"]) fun _ _ _ _ _ _ us hl => match us, hl with | [_, _], _ => rfl
  have F_law_right_places := fun_mk (st := s_law_right_places) l_law_right_places c_law_right_places k_law_right_places
  have b_law_right_places := F_law_right_places.binds (ps := ["_law_query_here", "_law_words"]) fun _ _ _ _ _ _ us hl => match us, hl with | [_, _], _ => rfl
  have F_law_first := fun_mk (st := s_law_first) l_law_first c_law_first k_law_first
  have b_law_first := F_law_first.binds (ps := ["_law_grounds", "_law_word"]) fun _ _ _ _ _ _ us hl => match us, hl with | [_, _], _ => rfl
  have F_law_ground := fun_mk (st := s_law_ground) l_law_ground c_law_ground k_law_ground
  have b_law_ground := F_law_ground.binds (ps := ["_law_query_here", "_law_words", "_law_yes"]) fun _ _ _ _ _ _ us hl => match us, hl with | [_, _, _], _ => rfl
  have F_law_same := fun_mk (st := s_law_same) l_law_same c_law_same k_law_same
  have b_law_same := F_law_same.binds (ps := ["_law_one", "_law_other"]) fun _ _ _ _ _ _ us hl => match us, hl with | [_, _], _ => rfl
  have F_law_refused := fun_mk (st := s_law_refused) l_law_refused c_law_refused k_law_refused
  have b_law_refused := F_law_refused.binds (ps := ["_law_query_here", "_law_page"]) fun _ _ _ _ _ _ us hl => match us, hl with | [_, _], _ => rfl
  have F_law := fun_mk (st := s_law) l_law c_law k_law
  refine ⟨PySem.W.fnOf "law" "law" (defArgs s_law) (defBody s_law) (defScope s_law) .none kV_law dc_law pm_law an_law cd_law ct_law, fun s v => .of_eq rfl, fun base _ _ => ?_⟩
  have kd_KINDS := kdict_lits l_KINDS lo_KINDS
  have kc_KINDS := PySem.W.mg_of X G a_KINDS
  have kt_PLAIN_looker := sqt_lit l_PLAIN_looker
  have kc_PLAIN_looker := PySem.W.mg_of X G a_PLAIN_looker
  have kt_PLAIN_grounds := sqt_lit l_PLAIN_grounds
  have kc_PLAIN_grounds := PySem.W.mg_of X G a_PLAIN_grounds
  have f__law_kind : FnQ l.prog w K mg base "_law_kind" _ _ _ := ⟨_, _, ok_kind2 F_law_kind T, PySem.W.mg_of X G a_law_kind, k_law_kind, b_law_kind⟩
  have f_is_whole_words : Fn l.prog w K mg base "is_whole_words" _ _ _ := ⟨_, _, ok_whole F_is_whole_words T, PySem.W.mg_of X G a_is_whole_words, k_is_whole_words, b_is_whole_words⟩
  have f_is_word : Fn l.prog w K mg base "is_word" _ _ _ := ⟨_, _, ok_is_word F_is_word T, PySem.W.mg_of X G a_is_word, k_is_word, b_is_word⟩
  have f_look_word : Fn l.prog w K mg base "look_word" _ _ _ := ⟨_, _, ok_look1N F_look_word T f_is_word, PySem.W.mg_of X G a_look_word, k_look_word, b_look_word⟩
  have f_look_words : Fn l.prog w K mg base "look_words" _ _ _ := ⟨_, _, ok_lookN F_look_words T f_is_word, PySem.W.mg_of X G a_look_words, k_look_words, b_look_words⟩
  have f_words_of : Fn l.prog w K mg base "words_of" _ _ _ := ⟨_, _, ok_wordsN F_words_of T f_look_words, PySem.W.mg_of X G a_words_of, k_words_of, b_words_of⟩
  have F_init : FunD K "__init__" "Page.__init__" (defArgs s_Page___init__) (defBody s_Page___init__) (defScope s_Page___init__) [.str ""] [] f_Page___init__ _ := ⟨⟨_, _, _, _, _, _, _, _, _, _, rfl, l_Page___init__, c_Page___init__, .inr ⟨by simp, _, _, _, _, rfl, lT_Page___init__, rfl, .cons ⟨_, rfl⟩ .nil⟩, .inl rfl⟩, k_Page___init__⟩
  obtain ⟨d2, hd2, hb2⟩ := F_init.binds1 (ps := ["self", "number", "text"]) 3 1 (by simp) rfl (fun T kV doc pm an cdv ct us its h1 h2 => match us, its, h1, h2 with | [_, _, _], [_], _, _ => ⟨_, rfl, rfl⟩)
  have G_init := ok_pageN (P := l.prog) (w := w) (base := base) F_init T f_is_whole_words f_words_of
  have mk_Page_2 : Mkr l.prog w K mg base "Page" C_Page _ _ [] _ := ⟨_, _, _, ⟨mk_Page, a_Page___init__, i_Page___init__, kc_Page⟩, G_init, PySem.W.mg_of X G aC_Page, hb2, hd2⟩
  have me_Page_words : Me l.prog w K mg base C_Page "words" _ _ _ := ⟨_, _, ok_pwords F_Page_words T, ⟨a_Page_words, i_Page_words, k_Page_words⟩, b_Page_words⟩
  have me_Page_places : Me l.prog w K mg base C_Page "places" _ _ _ := ⟨_, _, ok_pplaces F_Page_places T f_look_word, ⟨a_Page_places, i_Page_places, k_Page_places⟩, b_Page_places⟩
  have c0 : Fn l.prog w K mg base "count_words" (4 * 0 + 3) _ (spCnt K 0) := ⟨_, _, ok_cnt0 F_count_words T kc_KINDS kd_KINDS, PySem.W.mg_of X G a_count_words, k_count_words, b_count_words⟩
  have j0 : Fn l.prog w K mg base "count_joined" (4 * 0 + 4) _ _ := ⟨_, _, ok_cjoin (N := 0) F_count_joined T c0, PySem.W.mg_of X G a_count_joined, k_count_joined, b_count_joined⟩
  have c1 : Fn l.prog w K mg base "count_words" (4 * 1 + 3) _ (spCnt K 1) := ⟨_, _, ok_cntS (N := 0) F_count_words T kc_KINDS kd_KINDS (kk_all l_KINDS ⟨_, _, fnok_mono (ok_cword F_count_word T f_is_word) (by omega), k_count_word, b_count_word⟩ ⟨_, _, fnok_mono (ok_cphrase F_count_phrase T f_is_word) (by omega), k_count_phrase, b_count_phrase⟩ ⟨_, _, fnok_mono (ok_cnear F_count_near T f_is_word f_is_whole_words) (by omega), k_count_near, b_count_near⟩ ⟨_, _, fnok_mono (ok_cjoin (N := 0) F_count_joined T c0) (by omega), k_count_joined, b_count_joined⟩ ⟨_, _, ok_cbut (N := 0) F_count_but T j0, k_count_but, b_count_but⟩), PySem.W.mg_of X G a_count_words, k_count_words, b_count_words⟩
  have j1 : Fn l.prog w K mg base "count_joined" (4 * 1 + 4) _ _ := ⟨_, _, ok_cjoin (N := 1) F_count_joined T c1, PySem.W.mg_of X G a_count_joined, k_count_joined, b_count_joined⟩
  have c2 : Fn l.prog w K mg base "count_words" (4 * 2 + 3) _ (spCnt K 2) := ⟨_, _, ok_cntS (N := 1) F_count_words T kc_KINDS kd_KINDS (kk_all l_KINDS ⟨_, _, fnok_mono (ok_cword F_count_word T f_is_word) (by omega), k_count_word, b_count_word⟩ ⟨_, _, fnok_mono (ok_cphrase F_count_phrase T f_is_word) (by omega), k_count_phrase, b_count_phrase⟩ ⟨_, _, fnok_mono (ok_cnear F_count_near T f_is_word f_is_whole_words) (by omega), k_count_near, b_count_near⟩ ⟨_, _, fnok_mono (ok_cjoin (N := 1) F_count_joined T c1) (by omega), k_count_joined, b_count_joined⟩ ⟨_, _, ok_cbut (N := 1) F_count_but T j1, k_count_but, b_count_but⟩), PySem.W.mg_of X G a_count_words, k_count_words, b_count_words⟩
  have j2 : Fn l.prog w K mg base "count_joined" (4 * 2 + 4) _ _ := ⟨_, _, ok_cjoin (N := 2) F_count_joined T c2, PySem.W.mg_of X G a_count_joined, k_count_joined, b_count_joined⟩
  have c3 : Fn l.prog w K mg base "count_words" (4 * 3 + 3) _ (spCnt K 3) := ⟨_, _, ok_cntS (N := 2) F_count_words T kc_KINDS kd_KINDS (kk_all l_KINDS ⟨_, _, fnok_mono (ok_cword F_count_word T f_is_word) (by omega), k_count_word, b_count_word⟩ ⟨_, _, fnok_mono (ok_cphrase F_count_phrase T f_is_word) (by omega), k_count_phrase, b_count_phrase⟩ ⟨_, _, fnok_mono (ok_cnear F_count_near T f_is_word f_is_whole_words) (by omega), k_count_near, b_count_near⟩ ⟨_, _, fnok_mono (ok_cjoin (N := 2) F_count_joined T c2) (by omega), k_count_joined, b_count_joined⟩ ⟨_, _, ok_cbut (N := 2) F_count_but T j2, k_count_but, b_count_but⟩), PySem.W.mg_of X G a_count_words, k_count_words, b_count_words⟩
  have j3 : Fn l.prog w K mg base "count_joined" (4 * 3 + 4) _ _ := ⟨_, _, ok_cjoin (N := 3) F_count_joined T c3, PySem.W.mg_of X G a_count_joined, k_count_joined, b_count_joined⟩
  have c4 : Fn l.prog w K mg base "count_words" (4 * 4 + 3) _ (spCnt K 4) := ⟨_, _, ok_cntS (N := 3) F_count_words T kc_KINDS kd_KINDS (kk_all l_KINDS ⟨_, _, fnok_mono (ok_cword F_count_word T f_is_word) (by omega), k_count_word, b_count_word⟩ ⟨_, _, fnok_mono (ok_cphrase F_count_phrase T f_is_word) (by omega), k_count_phrase, b_count_phrase⟩ ⟨_, _, fnok_mono (ok_cnear F_count_near T f_is_word f_is_whole_words) (by omega), k_count_near, b_count_near⟩ ⟨_, _, fnok_mono (ok_cjoin (N := 3) F_count_joined T c3) (by omega), k_count_joined, b_count_joined⟩ ⟨_, _, ok_cbut (N := 3) F_count_but T j3, k_count_but, b_count_but⟩), PySem.W.mg_of X G a_count_words, k_count_words, b_count_words⟩
  have j4 : Fn l.prog w K mg base "count_joined" (4 * 4 + 4) _ _ := ⟨_, _, ok_cjoin (N := 4) F_count_joined T c4, PySem.W.mg_of X G a_count_joined, k_count_joined, b_count_joined⟩
  have c5 : Fn l.prog w K mg base "count_words" (4 * 5 + 3) _ (spCnt K 5) := ⟨_, _, ok_cntS (N := 4) F_count_words T kc_KINDS kd_KINDS (kk_all l_KINDS ⟨_, _, fnok_mono (ok_cword F_count_word T f_is_word) (by omega), k_count_word, b_count_word⟩ ⟨_, _, fnok_mono (ok_cphrase F_count_phrase T f_is_word) (by omega), k_count_phrase, b_count_phrase⟩ ⟨_, _, fnok_mono (ok_cnear F_count_near T f_is_word f_is_whole_words) (by omega), k_count_near, b_count_near⟩ ⟨_, _, fnok_mono (ok_cjoin (N := 4) F_count_joined T c4) (by omega), k_count_joined, b_count_joined⟩ ⟨_, _, ok_cbut (N := 4) F_count_but T j4, k_count_but, b_count_but⟩), PySem.W.mg_of X G a_count_words, k_count_words, b_count_words⟩
  have f_is_query : Fn l.prog w K mg base "is_query" _ _ _ := ⟨_, _, ok_isq F_is_query T c5, PySem.W.mg_of X G a_is_query, k_is_query, b_is_query⟩
  have f_lq : Fn l.prog w K mg base "look_query" 25 _ (spLookQ K) := ⟨_, _, ok_lookq F_look_query T f_is_query, PySem.W.mg_of X G a_look_query, k_look_query, b_look_query⟩
  have f_places_of_phrase : Fn l.prog w K mg base "places_of_phrase" _ _ _ := ⟨_, _, ok_run F_places_of_phrase T me_Page_words me_Page_places, PySem.W.mg_of X G a_places_of_phrase, k_places_of_phrase, b_places_of_phrase⟩
  have f_places_of_near : Fn l.prog w K mg base "places_of_near" _ _ _ := ⟨_, _, ok_nearp F_places_of_near T me_Page_places, PySem.W.mg_of X G a_places_of_near, k_places_of_near, b_places_of_near⟩
  have f_places_in : Fn l.prog w K mg base "places_in" _ _ _ := ⟨_, _, ok_plcin F_places_in T f_places_of_near f_places_of_phrase, PySem.W.mg_of X G a_places_in, k_places_in, b_places_in⟩
  have f_places_of : Fn l.prog w K mg base "places_of" _ _ _ := ⟨_, _, ok_plcof F_places_of T f_lq f_places_in, PySem.W.mg_of X G a_places_of, k_places_of, b_places_of⟩
  have f_is_whole_store : Fn l.prog w K mg base "is_whole_store" _ _ _ := ⟨_, _, ok_wholeS F_is_whole_store T, PySem.W.mg_of X G a_is_whole_store, k_is_whole_store, b_is_whole_store⟩
  have f_is_ground : Fn l.prog w K mg base "is_ground" _ _ _ := ⟨_, _, ok_isgr F_is_ground T, PySem.W.mg_of X G a_is_ground, k_is_ground, b_is_ground⟩
  have f_stand : Fn l.prog w K mg base "stand" _ _ _ := ⟨_, _, ok_stand F_stand T f_is_whole_store, PySem.W.mg_of X G a_stand, k_stand, b_stand⟩
  have f_is_near : Fn l.prog w K mg base "is_near" _ _ _ := ⟨_, _, ok_isnear F_is_near T f_stand, PySem.W.mg_of X G a_is_near, k_is_near, b_is_near⟩
  have f_holds_at : Fn l.prog w K mg base "holds_at" _ _ _ := ⟨_, _, ok_hat F_holds_at T f_is_ground f_is_near f_stand, PySem.W.mg_of X G a_holds_at, k_holds_at, b_holds_at⟩
  have f_found_at : Fn l.prog w K mg base "found_at" _ _ _ := ⟨_, _, ok_found F_found_at T f_is_near f_stand, PySem.W.mg_of X G a_found_at, k_found_at, b_found_at⟩
  have f_has_none : Fn l.prog w K mg base "has_none" _ _ _ := ⟨_, _, ok_hnone F_has_none T f_found_at, PySem.W.mg_of X G a_has_none, k_has_none, b_has_none⟩
  have g0 : Fn l.prog w K mg base "holds_ground" 6 ["query", "ground", "yes", "held"] (spHd K 0) := ⟨_, _, fnok_no spHd0, PySem.W.mg_of X G a_holds_ground, k_holds_ground, b_holds_ground⟩
  have o0 : Fn l.prog w K mg base "holds_one" 7 _ (spOne K 0) := ⟨_, _, ok_hone (N := 0) (by decide) F_holds_one T f_is_ground f_is_whole_store g0, PySem.W.mg_of X G a_holds_one, k_holds_one, b_holds_one⟩
  have e0 : Fn l.prog w K mg base "holds_each" 7 _ (spEach K 0) := ⟨_, _, ok_heach (N := 0) (by decide) F_holds_each T f_is_ground g0, PySem.W.mg_of X G a_holds_each, k_holds_each, b_holds_each⟩
  have b0 : Fn l.prog w K mg base "holds_but" 7 _ (spBut K 0) := ⟨_, _, ok_hbut (N := 0) (by decide) F_holds_but T f_is_ground g0, PySem.W.mg_of X G a_holds_but, k_holds_but, b_holds_but⟩
  have g1 : Fn l.prog w K mg base "holds_ground" 8 _ (spHd K 1) := ⟨_, _, ok_hgS (N := 0) (k0 := 6) (by decide) F_holds_ground T kc_PLAIN_looker kt_PLAIN_looker f_is_ground f_holds_at f_has_none b0 e0 o0, PySem.W.mg_of X G a_holds_ground, k_holds_ground, b_holds_ground⟩
  have o1 : Fn l.prog w K mg base "holds_one" 9 _ (spOne K 1) := ⟨_, _, ok_hone (N := 1) (by decide) F_holds_one T f_is_ground f_is_whole_store g1, PySem.W.mg_of X G a_holds_one, k_holds_one, b_holds_one⟩
  have e1 : Fn l.prog w K mg base "holds_each" 9 _ (spEach K 1) := ⟨_, _, ok_heach (N := 1) (by decide) F_holds_each T f_is_ground g1, PySem.W.mg_of X G a_holds_each, k_holds_each, b_holds_each⟩
  have b1 : Fn l.prog w K mg base "holds_but" 9 _ (spBut K 1) := ⟨_, _, ok_hbut (N := 1) (by decide) F_holds_but T f_is_ground g1, PySem.W.mg_of X G a_holds_but, k_holds_but, b_holds_but⟩
  have g2 : Fn l.prog w K mg base "holds_ground" 10 _ (spHd K 2) := ⟨_, _, ok_hgS (N := 1) (k0 := 8) (by decide) F_holds_ground T kc_PLAIN_looker kt_PLAIN_looker f_is_ground f_holds_at f_has_none b1 e1 o1, PySem.W.mg_of X G a_holds_ground, k_holds_ground, b_holds_ground⟩
  have o2 : Fn l.prog w K mg base "holds_one" 11 _ (spOne K 2) := ⟨_, _, ok_hone (N := 2) (by decide) F_holds_one T f_is_ground f_is_whole_store g2, PySem.W.mg_of X G a_holds_one, k_holds_one, b_holds_one⟩
  have e2 : Fn l.prog w K mg base "holds_each" 11 _ (spEach K 2) := ⟨_, _, ok_heach (N := 2) (by decide) F_holds_each T f_is_ground g2, PySem.W.mg_of X G a_holds_each, k_holds_each, b_holds_each⟩
  have b2 : Fn l.prog w K mg base "holds_but" 11 _ (spBut K 2) := ⟨_, _, ok_hbut (N := 2) (by decide) F_holds_but T f_is_ground g2, PySem.W.mg_of X G a_holds_but, k_holds_but, b_holds_but⟩
  have g3 : Fn l.prog w K mg base "holds_ground" 12 _ (spHd K 3) := ⟨_, _, ok_hgS (N := 2) (k0 := 10) (by decide) F_holds_ground T kc_PLAIN_looker kt_PLAIN_looker f_is_ground f_holds_at f_has_none b2 e2 o2, PySem.W.mg_of X G a_holds_ground, k_holds_ground, b_holds_ground⟩
  have o3 : Fn l.prog w K mg base "holds_one" 13 _ (spOne K 3) := ⟨_, _, ok_hone (N := 3) (by decide) F_holds_one T f_is_ground f_is_whole_store g3, PySem.W.mg_of X G a_holds_one, k_holds_one, b_holds_one⟩
  have e3 : Fn l.prog w K mg base "holds_each" 13 _ (spEach K 3) := ⟨_, _, ok_heach (N := 3) (by decide) F_holds_each T f_is_ground g3, PySem.W.mg_of X G a_holds_each, k_holds_each, b_holds_each⟩
  have b3 : Fn l.prog w K mg base "holds_but" 13 _ (spBut K 3) := ⟨_, _, ok_hbut (N := 3) (by decide) F_holds_but T f_is_ground g3, PySem.W.mg_of X G a_holds_but, k_holds_but, b_holds_but⟩
  have g4 : Fn l.prog w K mg base "holds_ground" 14 _ (spHd K 4) := ⟨_, _, ok_hgS (N := 3) (k0 := 12) (by decide) F_holds_ground T kc_PLAIN_looker kt_PLAIN_looker f_is_ground f_holds_at f_has_none b3 e3 o3, PySem.W.mg_of X G a_holds_ground, k_holds_ground, b_holds_ground⟩
  have o4 : Fn l.prog w K mg base "holds_one" 15 _ (spOne K 4) := ⟨_, _, ok_hone (N := 4) (by decide) F_holds_one T f_is_ground f_is_whole_store g4, PySem.W.mg_of X G a_holds_one, k_holds_one, b_holds_one⟩
  have e4 : Fn l.prog w K mg base "holds_each" 15 _ (spEach K 4) := ⟨_, _, ok_heach (N := 4) (by decide) F_holds_each T f_is_ground g4, PySem.W.mg_of X G a_holds_each, k_holds_each, b_holds_each⟩
  have b4 : Fn l.prog w K mg base "holds_but" 15 _ (spBut K 4) := ⟨_, _, ok_hbut (N := 4) (by decide) F_holds_but T f_is_ground g4, PySem.W.mg_of X G a_holds_but, k_holds_but, b_holds_but⟩
  have g5 : Fn l.prog w K mg base "holds_ground" 16 _ (spHd K 5) := ⟨_, _, ok_hgS (N := 4) (k0 := 14) (by decide) F_holds_ground T kc_PLAIN_looker kt_PLAIN_looker f_is_ground f_holds_at f_has_none b4 e4 o4, PySem.W.mg_of X G a_holds_ground, k_holds_ground, b_holds_ground⟩
  have f_yes_plain : Fn l.prog w K mg base "yes_plain" _ _ _ := ⟨_, _, ok_yesp F_yes_plain T f_places_of, PySem.W.mg_of X G a_yes_plain, k_yes_plain, b_yes_plain⟩
  have f_first_of : Fn l.prog w K mg base "first_of" _ _ _ := ⟨_, _, ok_first F_first_of T, PySem.W.mg_of X G a_first_of, k_first_of, b_first_of⟩
  have f_all_of : Fn l.prog w K mg base "all_of" _ _ _ := ⟨_, _, ok_allof F_all_of T, PySem.W.mg_of X G a_all_of, k_all_of, b_all_of⟩
  have y0 : Fn l.prog w K mg base "yes_ground" 27 ["query", "page"] (spGnd K C_Page true 0) := ⟨_, _, fnok_no spGnd0, PySem.W.mg_of X G a_yes_ground, k_yes_ground, b_yes_ground⟩
  have n0 : Fn l.prog w K mg base "no_ground" 27 ["query", "page"] (spGnd K C_Page false 0) := ⟨_, _, fnok_no spGnd0, PySem.W.mg_of X G a_no_ground, k_no_ground, b_no_ground⟩
  have y1 : Fn l.prog w K mg base "yes_ground" 28 _ (spGnd K C_Page true 1) := ⟨_, _, ok_ygS (N := 0) (k0 := 27) (by decide) (by decide) F_yes_ground T kc_PLAIN_grounds kt_PLAIN_grounds f_all_of f_first_of y0 n0 f_yes_plain, PySem.W.mg_of X G a_yes_ground, k_yes_ground, b_yes_ground⟩
  have n1 : Fn l.prog w K mg base "no_ground" 28 _ (spGnd K C_Page false 1) := ⟨_, _, ok_ngS (N := 0) (k0 := 27) (by decide) (by decide) F_no_ground T kc_PLAIN_grounds kt_PLAIN_grounds f_all_of f_first_of y0 n0 f_places_of, PySem.W.mg_of X G a_no_ground, k_no_ground, b_no_ground⟩
  have y2 : Fn l.prog w K mg base "yes_ground" 29 _ (spGnd K C_Page true 2) := ⟨_, _, ok_ygS (N := 1) (k0 := 28) (by decide) (by decide) F_yes_ground T kc_PLAIN_grounds kt_PLAIN_grounds f_all_of f_first_of y1 n1 f_yes_plain, PySem.W.mg_of X G a_yes_ground, k_yes_ground, b_yes_ground⟩
  have n2 : Fn l.prog w K mg base "no_ground" 29 _ (spGnd K C_Page false 2) := ⟨_, _, ok_ngS (N := 1) (k0 := 28) (by decide) (by decide) F_no_ground T kc_PLAIN_grounds kt_PLAIN_grounds f_all_of f_first_of y1 n1 f_places_of, PySem.W.mg_of X G a_no_ground, k_no_ground, b_no_ground⟩
  have y3 : Fn l.prog w K mg base "yes_ground" 30 _ (spGnd K C_Page true 3) := ⟨_, _, ok_ygS (N := 2) (k0 := 29) (by decide) (by decide) F_yes_ground T kc_PLAIN_grounds kt_PLAIN_grounds f_all_of f_first_of y2 n2 f_yes_plain, PySem.W.mg_of X G a_yes_ground, k_yes_ground, b_yes_ground⟩
  have n3 : Fn l.prog w K mg base "no_ground" 30 _ (spGnd K C_Page false 3) := ⟨_, _, ok_ngS (N := 2) (k0 := 29) (by decide) (by decide) F_no_ground T kc_PLAIN_grounds kt_PLAIN_grounds f_all_of f_first_of y2 n2 f_places_of, PySem.W.mg_of X G a_no_ground, k_no_ground, b_no_ground⟩
  have y4 : Fn l.prog w K mg base "yes_ground" 31 _ (spGnd K C_Page true 4) := ⟨_, _, ok_ygS (N := 3) (k0 := 30) (by decide) (by decide) F_yes_ground T kc_PLAIN_grounds kt_PLAIN_grounds f_all_of f_first_of y3 n3 f_yes_plain, PySem.W.mg_of X G a_yes_ground, k_yes_ground, b_yes_ground⟩
  have n4 : Fn l.prog w K mg base "no_ground" 31 _ (spGnd K C_Page false 4) := ⟨_, _, ok_ngS (N := 3) (k0 := 30) (by decide) (by decide) F_no_ground T kc_PLAIN_grounds kt_PLAIN_grounds f_all_of f_first_of y3 n3 f_places_of, PySem.W.mg_of X G a_no_ground, k_no_ground, b_no_ground⟩
  have y5 : Fn l.prog w K mg base "yes_ground" 32 _ (spGnd K C_Page true 5) := ⟨_, _, ok_ygS (N := 4) (k0 := 31) (by decide) (by decide) F_yes_ground T kc_PLAIN_grounds kt_PLAIN_grounds f_all_of f_first_of y4 n4 f_yes_plain, PySem.W.mg_of X G a_yes_ground, k_yes_ground, b_yes_ground⟩
  have n5 : Fn l.prog w K mg base "no_ground" 32 _ (spGnd K C_Page false 5) := ⟨_, _, ok_ngS (N := 4) (k0 := 31) (by decide) (by decide) F_no_ground T kc_PLAIN_grounds kt_PLAIN_grounds f_all_of f_first_of y4 n4 f_places_of, PySem.W.mg_of X G a_no_ground, k_no_ground, b_no_ground⟩
  have f_look_query : FnY l.prog w K mg base "look_query" _ _ _ := ⟨_, _, ok_lookqX F_look_query T f_is_query, PySem.W.mg_of X G a_look_query, k_look_query, b_look_query⟩
  have f_paper_of : FnY l.prog w K mg base "paper_of" _ _ _ := ⟨_, _, ok_paperX F_paper_of T f_look_query y5 n5, PySem.W.mg_of X G a_paper_of, k_paper_of, b_paper_of⟩
  have f_holds : Fn l.prog w K mg base "holds" _ _ _ := ⟨_, _, ok_holds F_holds T f_is_ground f_is_query g5 me_Page_words, PySem.W.mg_of X G a_holds, k_holds, b_holds⟩
  have f__law_purse : Fn l.prog w K mg base "_law_purse" _ _ _ := ⟨_, _, ok_purse F_law_purse T, PySem.W.mg_of X G a_law_purse, k_law_purse, b_law_purse⟩
  have f__law_take : Fn l.prog w K mg base "_law_take" _ _ _ := ⟨_, _, ok_take F_law_take , PySem.W.mg_of X G a_law_take, k_law_take, b_law_take⟩
  have q0 : Fn l.prog w K mg base "_law_query" 8 ["_law_purse_here", "_law_deep", "_law_most"] (spQp K 0) := ⟨_, _, fnok_no spQp0, PySem.W.mg_of X G a_law_query, k_law_query, b_law_query⟩
  have q1 : Fn l.prog w K mg base "_law_query" 9 _ (spQp K 1) := ⟨_, _, ok_query5 (N := 0) (k0 := 8) (by decide) F_law_query T f__law_take (by decide) q0, PySem.W.mg_of X G a_law_query, k_law_query, b_law_query⟩
  have q2 : Fn l.prog w K mg base "_law_query" 10 _ (spQp K 2) := ⟨_, _, ok_query5 (N := 1) (k0 := 9) (by decide) F_law_query T f__law_take (by decide) q1, PySem.W.mg_of X G a_law_query, k_law_query, b_law_query⟩
  have q3 : Fn l.prog w K mg base "_law_query" 11 _ (spQp K 3) := ⟨_, _, ok_query5 (N := 2) (k0 := 10) (by decide) F_law_query T f__law_take (by decide) q2, PySem.W.mg_of X G a_law_query, k_law_query, b_law_query⟩
  have q4 : Fn l.prog w K mg base "_law_query" 12 _ (spQp K 4) := ⟨_, _, ok_query5 (N := 3) (k0 := 11) (by decide) F_law_query T f__law_take (by decide) q3, PySem.W.mg_of X G a_law_query, k_law_query, b_law_query⟩
  have q5 : Fn l.prog w K mg base "_law_query" 13 _ (spQp K 5) := ⟨_, _, ok_query5 (N := 4) (k0 := 12) (by decide) F_law_query T f__law_take (by decide) q4, PySem.W.mg_of X G a_law_query, k_law_query, b_law_query⟩
  have f__law_text : Fn l.prog w K mg base "_law_text" _ _ _ := ⟨_, _, ok_text5 F_law_text T f__law_take, PySem.W.mg_of X G a_law_text, k_law_text, b_law_text⟩
  have f__law_right_places : Fn l.prog w K mg base "_law_right_places" _ _ _ := ⟨_, _, ok_rplc F_law_right_places T, PySem.W.mg_of X G a_law_right_places, k_law_right_places, b_law_right_places⟩
  have f__law_first : Fn l.prog w K mg base "_law_first" _ _ _ := ⟨_, _, ok_lfirst F_law_first T, PySem.W.mg_of X G a_law_first, k_law_first, b_law_first⟩
  have u0 : Fn l.prog w K mg base "_law_ground" 7 ["_law_query_here", "_law_words", "_law_yes"] (spLG K 0) := ⟨_, _, fnok_no spLG0, PySem.W.mg_of X G a_law_ground, k_law_ground, b_law_ground⟩
  have u1 : Fn l.prog w K mg base "_law_ground" 8 _ (spLG K 1) := ⟨_, _, ok_lgS (N := 0) (k0 := 6) (by decide) F_law_ground T f__law_right_places f__law_first u0, PySem.W.mg_of X G a_law_ground, k_law_ground, b_law_ground⟩
  have u2 : Fn l.prog w K mg base "_law_ground" 9 _ (spLG K 2) := ⟨_, _, ok_lgS (N := 1) (k0 := 7) (by decide) F_law_ground T f__law_right_places f__law_first u1, PySem.W.mg_of X G a_law_ground, k_law_ground, b_law_ground⟩
  have u3 : Fn l.prog w K mg base "_law_ground" 10 _ (spLG K 3) := ⟨_, _, ok_lgS (N := 2) (k0 := 8) (by decide) F_law_ground T f__law_right_places f__law_first u2, PySem.W.mg_of X G a_law_ground, k_law_ground, b_law_ground⟩
  have u4 : Fn l.prog w K mg base "_law_ground" 11 _ (spLG K 4) := ⟨_, _, ok_lgS (N := 3) (k0 := 9) (by decide) F_law_ground T f__law_right_places f__law_first u3, PySem.W.mg_of X G a_law_ground, k_law_ground, b_law_ground⟩
  have u5 : Fn l.prog w K mg base "_law_ground" 12 _ (spLG K 5) := ⟨_, _, ok_lgS (N := 4) (k0 := 10) (by decide) F_law_ground T f__law_right_places f__law_first u4, PySem.W.mg_of X G a_law_ground, k_law_ground, b_law_ground⟩
  have s0 : Fn l.prog w K mg base "_law_same" 2 ["_law_one", "_law_other"] (spSame 0) := ⟨_, _, fnok_no spSame0, PySem.W.mg_of X G a_law_same, k_law_same, b_law_same⟩
  have s1 : Fn l.prog w K mg base "_law_same" 3 _ (spSame 1) := ⟨_, _, ok_same (N := 0) (k0 := 2) F_law_same T s0, PySem.W.mg_of X G a_law_same, k_law_same, b_law_same⟩
  have s2 : Fn l.prog w K mg base "_law_same" 4 _ (spSame 2) := ⟨_, _, ok_same (N := 1) (k0 := 3) F_law_same T s1, PySem.W.mg_of X G a_law_same, k_law_same, b_law_same⟩
  have s3 : Fn l.prog w K mg base "_law_same" 5 _ (spSame 3) := ⟨_, _, ok_same (N := 2) (k0 := 4) F_law_same T s2, PySem.W.mg_of X G a_law_same, k_law_same, b_law_same⟩
  have s4 : Fn l.prog w K mg base "_law_same" 6 _ (spSame 4) := ⟨_, _, ok_same (N := 3) (k0 := 5) F_law_same T s3, PySem.W.mg_of X G a_law_same, k_law_same, b_law_same⟩
  have s5 : Fn l.prog w K mg base "_law_same" 7 _ (spSame 5) := ⟨_, _, ok_same (N := 4) (k0 := 6) F_law_same T s4, PySem.W.mg_of X G a_law_same, k_law_same, b_law_same⟩
  have s6 : Fn l.prog w K mg base "_law_same" 8 _ (spSame 6) := ⟨_, _, ok_same (N := 5) (k0 := 7) F_law_same T s5, PySem.W.mg_of X G a_law_same, k_law_same, b_law_same⟩
  have s7 : Fn l.prog w K mg base "_law_same" 9 _ (spSame 7) := ⟨_, _, ok_same (N := 6) (k0 := 8) F_law_same T s6, PySem.W.mg_of X G a_law_same, k_law_same, b_law_same⟩
  have s8 : Fn l.prog w K mg base "_law_same" 10 _ (spSame 8) := ⟨_, _, ok_same (N := 7) (k0 := 9) F_law_same T s7, PySem.W.mg_of X G a_law_same, k_law_same, b_law_same⟩
  have s9 : Fn l.prog w K mg base "_law_same" 11 _ (spSame 9) := ⟨_, _, ok_same (N := 8) (k0 := 10) F_law_same T s8, PySem.W.mg_of X G a_law_same, k_law_same, b_law_same⟩
  have s10 : Fn l.prog w K mg base "_law_same" 12 _ (spSame 10) := ⟨_, _, ok_same (N := 9) (k0 := 11) F_law_same T s9, PySem.W.mg_of X G a_law_same, k_law_same, b_law_same⟩
  have f__law_refused : Fn l.prog w K mg base "_law_refused" _ _ _ := ⟨_, _, ok_refd F_law_refused T (kind2B_ok k2_NoQuery) hx_NoQuery f_paper_of f__law_kind, PySem.W.mg_of X G a_law_refused, k_law_refused, b_law_refused⟩
  exact ok_law F_law T f__law_purse f__law_take f__law_text q5 mk_Page_2 f_paper_of f_holds u5 s10 f__law_refused
end K74

open PySem PySem.W PySem.Calls PyProof.Rows
set_option maxRecDepth 100000 in
set_option maxHeartbeats 0 in
theorem PySem.Challenge.cw_blocksearch_k74_papers_told_holds : PySem.Challenge.rw_blocksearch_k74_papers_told.Holds := by
  refine topK74 ?_
  k_fill
  refine L2.walk_of (l := PySem.Challenge.rw_blocksearch_k74_papers_told) (n := 63) (k := 35) (x := "_law_script") (CX := fun _ => L2.CX0) (sp := fun w => K74.spLaw _) rfl (by decide) rfl ⟨rfl, by decide, by decide⟩ (fun w h Y => PySem.W.kIn_of Y) ?F (fun _ _ a ns hl _ hS => ⟨a, ns, rfl, hS, hl, fun _ => rfl⟩) (fun _ _ _ _ _ h => h)
  case F =>
    intro w mg fa h KX G hmg
    refine' K74.all_mk KX G hmg ?aC_Wrong ?aC_NoText ?aC_NoNumber ?aC_NoSize ?aC_NoQuery ?aC_NoPages ?aC_NoName ?aC_NoShelf ?aC_NoDeed ?aC_Taken ?aC_NoSlot ?g_LETTERS ?g_LONGEST ?g_MOST ?g_MOST_NUMBER ?g_DEEPEST ?g_MOST_WORDS ?g_FARTHEST ?z_isinstance ?z_bool ?z_int ?z_str ?z_list ?z_tuple ?z_len ?z_all ?z_any ?z_max ?z_min ?z_range ?z_abs ?z_sum ?z_enumerate ?z_zip ?z_RuntimeError ?z_OverflowError ?z_KeyError ?z_LookupError ?z_ValueError ?z_IndexError ?q_NoQuery ?kp_NoQuery ?e1_NoQuery ?e2_NoQuery ?aC_Page ?pg_Page ?hd_Page ?po_Page ?sa_Page ?na_Page_number ?na_Page_held ?na_Page_text ?na_Page_stands ?aC_Broken ?aC_Full ?aC_Gone ?aC_NoFile ?aC_Torn ?k2_NoQuery ?hx_NoQuery ?a_law_kind ?l_law_kind ?c_law_kind ?k_law_kind ?a_is_whole_words ?l_is_whole_words ?c_is_whole_words ?k_is_whole_words ?a_is_word ?l_is_word ?c_is_word ?k_is_word ?a_look_word ?l_look_word ?c_look_word ?k_look_word ?a_look_words ?l_look_words ?c_look_words ?k_look_words ?a_words_of ?l_words_of ?c_words_of ?k_words_of ?a_Page___init__ ?i_Page___init__ ?l_Page___init__ ?lT_Page___init__ ?c_Page___init__ ?k_Page___init__ ?mk_Page ?kc_Page ?a_Page_words ?i_Page_words ?l_Page_words ?c_Page_words ?k_Page_words ?a_Page_places ?i_Page_places ?l_Page_places ?c_Page_places ?k_Page_places ?a_count_word ?l_count_word ?c_count_word ?k_count_word ?a_count_phrase ?l_count_phrase ?c_count_phrase ?k_count_phrase ?a_count_near ?l_count_near ?c_count_near ?k_count_near ?a_count_joined ?l_count_joined ?c_count_joined ?k_count_joined ?a_count_but ?l_count_but ?c_count_but ?k_count_but ?a_count_words ?l_count_words ?c_count_words ?k_count_words ?a_is_query ?l_is_query ?c_is_query ?k_is_query ?a_places_of_phrase ?l_places_of_phrase ?c_places_of_phrase ?k_places_of_phrase ?a_places_of_near ?l_places_of_near ?c_places_of_near ?k_places_of_near ?a_places_in ?l_places_in ?c_places_in ?k_places_in ?a_places_of ?l_places_of ?c_places_of ?k_places_of ?a_is_whole_store ?l_is_whole_store ?c_is_whole_store ?k_is_whole_store ?a_is_ground ?l_is_ground ?c_is_ground ?k_is_ground ?a_stand ?l_stand ?c_stand ?k_stand ?a_is_near ?l_is_near ?c_is_near ?k_is_near ?a_holds_at ?l_holds_at ?c_holds_at ?k_holds_at ?a_found_at ?l_found_at ?c_found_at ?k_found_at ?a_has_none ?l_has_none ?c_has_none ?k_has_none ?a_holds_one ?l_holds_one ?c_holds_one ?k_holds_one ?a_holds_each ?l_holds_each ?c_holds_each ?k_holds_each ?a_holds_but ?l_holds_but ?c_holds_but ?k_holds_but ?a_holds_ground ?l_holds_ground ?c_holds_ground ?k_holds_ground ?a_yes_plain ?l_yes_plain ?c_yes_plain ?k_yes_plain ?a_first_of ?l_first_of ?c_first_of ?k_first_of ?a_all_of ?l_all_of ?c_all_of ?k_all_of ?a_yes_ground ?l_yes_ground ?c_yes_ground ?k_yes_ground ?a_no_ground ?l_no_ground ?c_no_ground ?k_no_ground ?a_look_query ?l_look_query ?c_look_query ?k_look_query ?a_paper_of ?l_paper_of ?c_paper_of ?k_paper_of ?a_holds ?l_holds ?c_holds ?k_holds ?a_law_purse ?l_law_purse ?c_law_purse ?k_law_purse ?a_law_take ?l_law_take ?c_law_take ?k_law_take ?a_law_query ?l_law_query ?c_law_query ?k_law_query ?a_law_text ?l_law_text ?c_law_text ?k_law_text ?a_law_right_places ?l_law_right_places ?c_law_right_places ?k_law_right_places ?a_law_first ?l_law_first ?c_law_first ?k_law_first ?a_law_ground ?l_law_ground ?c_law_ground ?k_law_ground ?a_law_same ?l_law_same ?c_law_same ?k_law_same ?a_law_refused ?l_law_refused ?c_law_refused ?k_law_refused ?a_law ?l_law ?c_law ?k_law ?a_KINDS ?l_KINDS ?lo_KINDS ?a_PLAIN_looker ?l_PLAIN_looker ?a_PLAIN_grounds ?l_PLAIN_grounds
    (case aC_Wrong => k_is); (case aC_NoText => k_is); (case aC_NoNumber => k_is); (case aC_NoSize => k_is); (case aC_NoQuery => k_is); (case aC_NoPages => k_is); (case aC_NoName => k_is); (case aC_NoShelf => k_is); (case aC_NoDeed => k_is); (case aC_Taken => k_is); (case aC_NoSlot => k_is); (case g_LETTERS => k_is); (case g_LONGEST => k_is); (case g_MOST => k_is); (case g_MOST_NUMBER => k_is); (case g_DEEPEST => k_is); (case g_MOST_WORDS => k_is); (case g_FARTHEST => k_is); (case z_isinstance => k_is); (case z_bool => k_is); (case z_int => k_is); (case z_str => k_is); (case z_list => k_is); (case z_tuple => k_is); (case z_len => k_is); (case z_all => k_is); (case z_any => k_is); (case z_max => k_is); (case z_min => k_is); (case z_range => k_is); (case z_abs => k_is); (case z_sum => k_is); (case z_enumerate => k_is); (case z_zip => k_is); (case z_RuntimeError => k_is); (case z_OverflowError => k_is); (case z_KeyError => k_is); (case z_LookupError => k_is); (case z_ValueError => k_is); (case z_IndexError => k_is); (case q_NoQuery => k_exc); (case kp_NoQuery => k_is); (case e1_NoQuery => k_is); (case e2_NoQuery => k_is); (case aC_Page => k_is); (case pg_Page => k_is); (case hd_Page => k_is); (case po_Page => k_is); (case sa_Page => k_is); (case na_Page_number => k_is); (case na_Page_held => k_is); (case na_Page_text => k_is); (case na_Page_stands => k_is); (case aC_Broken => k_is); (case aC_Full => k_is); (case aC_Gone => k_is); (case aC_NoFile => k_is); (case aC_Torn => k_is); (case k2_NoQuery => exact Eq.refl true); (case hx_NoQuery => exact Eq.refl _); (case a_law_kind => k_is); (case l_law_kind => k_is); (case c_law_kind => k_is); (case k_law_kind => k_is); (case a_is_whole_words => k_is); (case l_is_whole_words => k_is); (case c_is_whole_words => k_is); (case k_is_whole_words => k_is); (case a_is_word => k_is); (case l_is_word => k_is); (case c_is_word => k_is); (case k_is_word => k_is); (case a_look_word => k_is); (case l_look_word => k_is); (case c_look_word => k_is); (case k_look_word => k_is); (case a_look_words => k_is); (case l_look_words => k_is); (case c_look_words => k_is); (case k_look_words => k_is); (case a_words_of => k_is); (case l_words_of => k_is); (case c_words_of => k_is); (case k_words_of => k_is); (case a_Page___init__ => k_is); (case i_Page___init__ => k_is); (case l_Page___init__ => k_is); (case lT_Page___init__ => k_is); (case c_Page___init__ => k_is); (case k_Page___init__ => k_is); (case mk_Page => k_is); (case kc_Page => k_is); (case a_Page_words => k_is); (case i_Page_words => k_is); (case l_Page_words => k_is); (case c_Page_words => k_is); (case k_Page_words => k_is); (case a_Page_places => k_is); (case i_Page_places => k_is); (case l_Page_places => k_is); (case c_Page_places => k_is); (case k_Page_places => k_is); (case a_count_word => k_is); (case l_count_word => k_is); (case c_count_word => k_is); (case k_count_word => k_is); (case a_count_phrase => k_is); (case l_count_phrase => k_is); (case c_count_phrase => k_is); (case k_count_phrase => k_is); (case a_count_near => k_is); (case l_count_near => k_is); (case c_count_near => k_is); (case k_count_near => k_is); (case a_count_joined => k_is); (case l_count_joined => k_is); (case c_count_joined => k_is); (case k_count_joined => k_is); (case a_count_but => k_is); (case l_count_but => k_is); (case c_count_but => k_is); (case k_count_but => k_is); (case a_count_words => k_is); (case l_count_words => k_is); (case c_count_words => k_is); (case k_count_words => k_is); (case a_is_query => k_is); (case l_is_query => k_is); (case c_is_query => k_is); (case k_is_query => k_is); (case a_places_of_phrase => k_is); (case l_places_of_phrase => k_is); (case c_places_of_phrase => k_is); (case k_places_of_phrase => k_is); (case a_places_of_near => k_is); (case l_places_of_near => k_is); (case c_places_of_near => k_is); (case k_places_of_near => k_is); (case a_places_in => k_is); (case l_places_in => k_is); (case c_places_in => k_is); (case k_places_in => k_is); (case a_places_of => k_is); (case l_places_of => k_is); (case c_places_of => k_is); (case k_places_of => k_is); (case a_is_whole_store => k_is); (case l_is_whole_store => k_is); (case c_is_whole_store => k_is); (case k_is_whole_store => k_is); (case a_is_ground => k_is); (case l_is_ground => k_is); (case c_is_ground => k_is); (case k_is_ground => k_is); (case a_stand => k_is); (case l_stand => k_is); (case c_stand => k_is); (case k_stand => k_is); (case a_is_near => k_is); (case l_is_near => k_is); (case c_is_near => k_is); (case k_is_near => k_is); (case a_holds_at => k_is); (case l_holds_at => k_is); (case c_holds_at => k_is); (case k_holds_at => k_is); (case a_found_at => k_is); (case l_found_at => k_is); (case c_found_at => k_is); (case k_found_at => k_is); (case a_has_none => k_is); (case l_has_none => k_is); (case c_has_none => k_is); (case k_has_none => k_is); (case a_holds_one => k_is); (case l_holds_one => k_is); (case c_holds_one => k_is); (case k_holds_one => k_is); (case a_holds_each => k_is); (case l_holds_each => k_is); (case c_holds_each => k_is); (case k_holds_each => k_is); (case a_holds_but => k_is); (case l_holds_but => k_is); (case c_holds_but => k_is); (case k_holds_but => k_is); (case a_holds_ground => k_is); (case l_holds_ground => k_is); (case c_holds_ground => k_is); (case k_holds_ground => k_is); (case a_yes_plain => k_is); (case l_yes_plain => k_is); (case c_yes_plain => k_is); (case k_yes_plain => k_is); (case a_first_of => k_is); (case l_first_of => k_is); (case c_first_of => k_is); (case k_first_of => k_is); (case a_all_of => k_is); (case l_all_of => k_is); (case c_all_of => k_is); (case k_all_of => k_is); (case a_yes_ground => k_is); (case l_yes_ground => k_is); (case c_yes_ground => k_is); (case k_yes_ground => k_is); (case a_no_ground => k_is); (case l_no_ground => k_is); (case c_no_ground => k_is); (case k_no_ground => k_is); (case a_look_query => k_is); (case l_look_query => k_is); (case c_look_query => k_is); (case k_look_query => k_is); (case a_paper_of => k_is); (case l_paper_of => k_is); (case c_paper_of => k_is); (case k_paper_of => k_is); (case a_holds => k_is); (case l_holds => k_is); (case c_holds => k_is); (case k_holds => k_is); (case a_law_purse => k_is); (case l_law_purse => k_is); (case c_law_purse => k_is); (case k_law_purse => k_is); (case a_law_take => k_is); (case l_law_take => k_is); (case c_law_take => k_is); (case k_law_take => k_is); (case a_law_query => k_is); (case l_law_query => k_is); (case c_law_query => k_is); (case k_law_query => k_is); (case a_law_text => k_is); (case l_law_text => k_is); (case c_law_text => k_is); (case k_law_text => k_is); (case a_law_right_places => k_is); (case l_law_right_places => k_is); (case c_law_right_places => k_is); (case k_law_right_places => k_is); (case a_law_first => k_is); (case l_law_first => k_is); (case c_law_first => k_is); (case k_law_first => k_is); (case a_law_ground => k_is); (case l_law_ground => k_is); (case c_law_ground => k_is); (case k_law_ground => k_is); (case a_law_same => k_is); (case l_law_same => k_is); (case c_law_same => k_is); (case k_law_same => k_is); (case a_law_refused => k_is); (case l_law_refused => k_is); (case c_law_refused => k_is); (case k_law_refused => k_is); (case a_law => k_is); (case l_law => k_is); (case c_law => k_is); (case k_law => k_is); (case a_KINDS => k_is); (case l_KINDS => k_is); (case lo_KINDS => exact Eq.refl false); (case a_PLAIN_looker => k_is); (case l_PLAIN_looker => k_is); (case a_PLAIN_grounds => k_is); (case l_PLAIN_grounds => k_is)

