import PyProof.Rows.All
import Wide.All
import OpenK.AllK
import Wide.FinOn
import KE.OsRunLaw
import HandS.EndTab
import HandS.HeadWalk
import HandS.ForMost
import HandS.Evl
import HandS.Wide
import HandS.IsInst
import HandS.Exc
import HandS.Defaults
import HandS.TryMany
import HandS.ExcOwn
import HandS.ExcIs
import HandS.HotCalls
import HandS.ExcField
import HandS.Lambda
import HandS.ExcInit
import HandS.WordsExc
import HandS.Deep
import KE.KExcIs
import KE.DataFind
import HandS.Small
import HandS.RaiseMore
import HandS.Steps
import PyProof.CollectIter
import PyProof.WalksMore
import HandS.More
import HandS.WideBits
import HandS.Replace
import HandS.Style
import HandS.SetKeys
import HandS.MakeKwOnly
import HandS.IntHex
import HandS.StrMore
import HandS.Rindex
import PyProof.Rows.StrNews2
import PyProof.StrLawsLast
import HandS.OwnEq
import HandS.FStr
import OpenK.KOps
import KE.KCallOwn
import HandS.CallLocal
import HandS.TupAny
import HandS.NoneIn
import HandS.Zip
import HandS.List
import HandS.Iter
import HandS.WordsDict
import HandS.Flow
import PyProof.ExcFactsAll.IndexError
import HandS.Finally
import HandS.SuiteRaise
import HandS.RaiseFrom
import HandS.Hot
import HandS.Ends
import PyProof.ReprRoads
import PyProof.ReprBulk
import PyProof.AutoIntOps
import PyProof.ExcFactsAll.ZeroDivisionError
import PyProof.ExcBaseAll.ZeroDivisionError
import HandS.ExcBuiltin
import HandS.MakeKw
import PySem.Challenge.RW_blocksearch_k31_ratios_made
set_option Elab.async false
set_option linter.all false
set_option maxRecDepth 100000
set_option maxHeartbeats 4000000
set_option autoImplicit false
section HeadRun
open PySem PySem.W PySem.Calls PyProof.Rows
set_option maxRecDepth 100000 in
set_option maxHeartbeats 0 in
open_top topK31 for PySem.Challenge.rw_blocksearch_k31_ratios_made
end HeadRun

/-! The layer of this work: bundles of defs, readings as steps. -/
namespace Bw
open PySem PySem.Spec L2

/-! ### a def that lets nothing out, as its callers want it -/
structure Fn (P : Program) (w : World) (K : PySem.W.Frag) (mg : Str → Option Value) (base : Heap) (x : Str) (k : Nat) (ps : List Str) (sp : Sp) : Prop where
  ex : ∃ (f : Addr) (fd : FuncData), FnOk P w K mg base CX0 k f fd ps sp ∧ mg x = some (.ref f) ∧ PySem.W.keepIn K (.ref f) = true ∧ Binds K fd ps []
section
variable {X : Cx}
theorem pe_fn {x : Str} {k : Nat} {ps : List Str} {sp : Sp} {e : Expr} {es : List Expr} {t : TA} {p pos : Pos} (F : Fn X.prog X.w X.K X.mg X.base x k ps sp) (hr : Room k X.A) (hg : Gl X x) (ha : PA X (e :: es) t)
    (hdb : (x == ("__debug__" : Str)) = false := by decide) (he : starEach (e :: es) X.env = (false, eval e X.env) :: starEach es X.env := by rfl) (hpl : (backTo pos (starEach es X.env)).any (·.1) = false := by rfl) :
    PE X (.Call (.Name x p) (e :: es) [] pos) (tCall sp [] E0 t) := by
  obtain ⟨f, fd, G, hm, hk, hb⟩ := F.ex
  exact pe_call G hr hg hm hk hb .nil pass0 ha hdb he hpl
theorem pe_fn0 {x : Str} {k : Nat} {ps : List Str} {sp : Sp} {p pos : Pos} (F : Fn X.prog X.w X.K X.mg X.base x k ps sp) (hr : Room k X.A) (hg : Gl X x)
    (hdb : (x == ("__debug__" : Str)) = false := by decide) : PE X (.Call (.Name x p) [] [] pos) (tCall sp [] E0 tNil) := by
  obtain ⟨f, fd, G, hm, hk, hb⟩ := F.ex
  exact pe_call0 G hr hg hm hk hb .nil pass0 hdb
end
/-! ### methods and makers as their callers want them -/
structure Me (P : Program) (w : World) (K : PySem.W.Frag) (mg : Str → Option Value) (base : Heap) (C : Addr) (m : Str) (k : Nat) (ps : List Str) (sp : Sp) : Prop where
  ex : ∃ (f : Addr) (fd : FuncData), FnOk P w K mg base CX0 k f fd ps sp ∧ Meth K C m f ∧ Binds K fd ps []
structure Mkr (P : Program) (w : World) (K : PySem.W.Frag) (mg : Str → Option Value) (base : Heap) (x : Str) (C : Addr) (k : Nat) (ps : List Str) (dvs : List V) (sp : Sp) : Prop where
  ex : ∃ (f : Addr) (fd : FuncData) (ds : List Value), Mk K C f ∧ FnOk P w K mg base CX0 k f fd ps sp ∧ mg x = some (.ref C) ∧ Binds K fd ps ds ∧ Vals dvs ds
section
variable {X : Cx}
theorem pe_me {pl : Sem Bool} {C : Addr} {m : Str} {k : Nat} {ps : List Str} {sp : Sp} {o e : Expr} {es : List Expr} {t : TA} {ta : TE} {apos pos : Pos} (he : PE X o ta) (c : Cls X.K C) (M : Me X.prog X.w X.K X.mg X.base C m k ps sp) (hr : Room k X.A) (ha : PA X (e :: es) t)
    (hst : starEach (e :: es) X.env = (false, eval e X.env) :: starEach es X.env := by rfl) (hpl : (backTo pos (starEach es X.env)).any (·.1) = false := by rfl)
    (ht : eval (.Call (.Attribute o m apos) (e :: es) [] pos) X.env = (do
      let ov ← eval o X.env
      standAt apos.atName
      let (f, first) ← holding [ov] (getMethod ov m pl)
      callWith pos f first (backTo pos (starEach (e :: es) X.env)) (backToKw pos (keywordEach [] X.env))) := by rfl) :
    PE X (.Call (.Attribute o m apos) (e :: es) [] pos) (tMeth C m sp [] E0 ta t) := by
  obtain ⟨f, fd, G, hm, hb⟩ := M.ex
  exact pe_meth he c hm G hr hb .nil pass0 ha hst hpl ht
theorem pe_me0 {pl : Sem Bool} {C : Addr} {m : Str} {k : Nat} {ps : List Str} {sp : Sp} {o : Expr} {ta : TE} {apos pos : Pos} (he : PE X o ta) (c : Cls X.K C) (M : Me X.prog X.w X.K X.mg X.base C m k ps sp) (hr : Room k X.A)
    (ht : eval (.Call (.Attribute o m apos) [] [] pos) X.env = (do
      let ov ← eval o X.env
      standAt apos.atName
      let (f, first) ← holding [ov] (getMethod ov m pl)
      callWith pos f first (backTo pos (starEach [] X.env)) (backToKw pos (keywordEach [] X.env))) := by rfl) :
    PE X (.Call (.Attribute o m apos) [] [] pos) (tMeth C m sp [] E0 ta tNil) := by
  obtain ⟨f, fd, G, hm, hb⟩ := M.ex
  exact pe_meth0 he c hm G hr hb .nil pass0 ht
theorem pe_mkr {x : Str} {C : Addr} {k : Nat} {ps : List Str} {dvs : List V} {sp : Sp} {e : Expr} {es : List Expr} {t : TA} {p pos : Pos} (M : Mkr X.prog X.w X.K X.mg X.base x C k ps dvs sp) (hr : Room (k + 1) X.A) (hg : Gl X x) (ha : PA X (e :: es) t)
    (hdb : (x == ("__debug__" : Str)) = false := by decide) (he : starEach (e :: es) X.env = (false, eval e X.env) :: starEach es X.env := by rfl) (hpl : (backTo pos (starEach es X.env)).any (·.1) = false := by rfl) :
    PE X (.Call (.Name x p) (e :: es) [] pos) (tMake C sp dvs E0 t) := by
  obtain ⟨f, fd, ds, M, G, hm, hb, hd⟩ := M.ex
  exact pe_make M G hr hg hm hb hd pass0 ha hdb he hpl
theorem pe_gint {x : Str} {n : Int} {p : Pos} (h : ∃ t, X.mg x = some (.int n t)) (hg : Gl X x) (hd : (x == ("__debug__" : Str)) = false := by decide) : PE X (.Name x p) (tC (.int n)) := by
  obtain ⟨t, h⟩ := h
  exact pe_glob hg h ⟨t, rfl⟩ hd
theorem pe_gstr {x : Str} {z : Str} {p : Pos} (h : ∃ t, X.mg x = some (.str z t)) (hg : Gl X x) (hd : (x == ("__debug__" : Str)) = false := by decide) : PE X (.Name x p) (tC (.str z)) := by
  obtain ⟨t, h⟩ := h
  exact pe_glob hg h ⟨t, rfl⟩ hd
end
section
variable {X : Cx}
/-! ### an attribute as a target -/
def gFld (K : PySem.W.Frag) (to : TE) (f : Str) : TG := fun v σ H Q => to σ H fun x H1 => ∃ a C dx fs, x = .ref a ∧ H1 a = some (.ins C dx fs) ∧ Cls K C ∧ NoAttr K C f ∧ fs.length < 1000 ∧ Q σ (upd H1 a (.ins C dx (putF f v fs)))
theorem pg_fld {o : Expr} {f : Str} {pos : Pos} {to : TE} (ho : PE X o to) : PG X (.Attribute o f pos) (gFld X.K to f) := by
  refine ⟨fun pins s σ H v u Q I r h => ?_⟩
  rw [assign_Attribute]
  refine wpAny_bind (wpAny_holding (thn (ho.run pins s σ H _ I h) fun ov s1 ⟨x, H1, I1, r1, a, C, dx, fs, ex, ea, c, n, l, q1⟩ => ?_))
  subst ex
  obtain rfl : ov = Value.ref a := r1
  refine wpAny_bind (wpAny_standAt (wpAny_bind (wpAny_holding (setattr_ok I1 ea c n l r fun s3 I3 => ?_))))
  exact wpAny_release ⟨σ, _, I3, q1⟩

/-! ### ints of any size -/
def CDivU (_ j : Int) : Prop := j ≠ 0 ∧ j.natAbs.log2 < 9000
theorem op_fdivU : OpR X (binaryOp .FloorDiv) (rI CDivU fun i j => .int (i.fdiv j)) := opI fun i j _ _ _ _ _ hc q =>
  PyProof.Rows.floordiv_int hc.1 q (.inl (PyProof.noPylong_of_log2 hc.2))
def CMulU (i j : Int) : Prop := IntMulOk i j
theorem op_mulU : OpR X (binaryOp .Mult) (rI CMulU fun i j => .int (i * j)) := opI fun _ _ _ _ _ _ _ hc q => PyProof.Rows.mul_int q hc
def CPowU (i j : Int) : Prop := 0 ≤ j ∧ (Builtin.Int.intBits i : Int) * j ≤ 2 ^ 27
theorem op_powU : OpR X (binaryOp .Pow) (rI CPowU fun i j => .int (i ^ j.toNat)) := opI fun _ _ _ _ _ _ _ hc q => PyProof.Rows.pow_int hc.1 hc.2 q
end
theorem bits_le {x : Int} {a : Nat} (h : x.natAbs < 2 ^ a) (h0 : 0 < a) : Builtin.Int.intBits x ≤ a := by
  unfold Builtin.Int.intBits
  split
  · omega
  · exact PySem.Flt.log2_lt_of h0 h
theorem powU {i j : Int} {a : Nat} (h : i.natAbs < 2 ^ a) (h0 : 0 < a) (hj : 0 ≤ j) (hs : (a : Int) * j ≤ 2 ^ 27) : CPowU i j := by
  refine ⟨hj, Int.le_trans (Int.mul_le_mul_of_nonneg_right (Int.ofNat_le.mpr (bits_le h h0)) hj) hs⟩
theorem divU {i j : Int} {b : Nat} (h : j ≠ 0) (hb : j.natAbs < 2 ^ b) (h0 : 0 < b) (h9 : b ≤ 9000) : CDivU i j := ⟨h, Nat.lt_of_lt_of_le (PySem.Flt.log2_lt_of h0 hb) h9⟩

/-! ### named readings of calls -/
section
variable {X : Cx}
theorem callR_imp {f : Value} {r r' : List V → Hp → VK → Prop} (h : CallR X f r) (i : ∀ xs H Q, r' xs H Q → r xs H Q) : CallR X f r' :=
  fun pins s σ H xs us Q I rv q => h pins s σ H xs us Q I rv (i _ _ _ q)
theorem opR_imp {f : Value → Value → Sem Value} {r r' : R2} (h : OpR X f r) (i : ∀ x y H Q, r' x y H Q → r x y H Q) : OpR X f r' :=
  fun pins s σ H x y v u Q I rx ry q => h pins s σ H x y v u Q I rx ry (i _ _ _ _ q)
def rAbs : List V → Hp → VK → Prop := fun xs H Q => ∃ i : Int, xs = [.int i] ∧ Q (.int i.natAbs) H
theorem cl_abs : CallR X (.builtin "abs") rAbs := callR_imp call_abs fun xs H Q ⟨i, e, q⟩ => ⟨i, e, by
  have : (if i < 0 then -i else i) = (i.natAbs : Int) := by split <;> omega
  rw [this]; exact q⟩
def rMaxI : List V → Hp → VK → Prop := fun xs H Q => ∃ i j : Int, xs = [.int i, .int j] ∧ Q (.int (max i j)) H
def rMinI : List V → Hp → VK → Prop := fun xs H Q => ∃ i j : Int, xs = [.int i, .int j] ∧ Q (.int (min i j)) H
theorem cl_max (hc : X.calm = true) : CallR X (.builtin "max") rMaxI := callR_imp (call_max2 hc) fun xs H Q ⟨i, j, e, q⟩ => ⟨i, j, e, by
  have : (if j > i then j else i) = max i j := by split <;> omega
  rw [this]; exact q⟩
theorem cl_min (hc : X.calm = true) : CallR X (.builtin "min") rMinI := callR_imp (call_min2 hc) fun xs H Q ⟨i, j, e, q⟩ => ⟨i, j, e, by
  have : (if j < i then j else i) = min i j := by split <;> omega
  rw [this]; exact q⟩
def rIntOf : List V → Hp → VK → Prop := fun xs H Q => (∃ i, xs = [.int i] ∧ Q (.int i) H) ∨ ∃ k : Bool, xs = [.bl k] ∧ Q (.int (if k then 1 else 0)) H
theorem cl_int : CallR X (.type "int") rIntOf := call_int1
def rLen (K : PySem.W.Frag) : List V → Hp → VK → Prop := fun xs H Q => ∃ x n, xs = [x] ∧ LenV K x H n ∧ Q (.int n) H
theorem cl_len : CallR X (.builtin "len") (rLen X.K) := call_len
def rStrI : List V → Hp → VK → Prop := fun xs H Q => ∃ i : Int, xs = [.int i] ∧ i.natAbs.log2 < 1920 ∧ Q (.str (toString i)) H
theorem cl_str : CallR X (.type "str") rStrI := call_str_int
def rOrd : List V → Hp → VK → Prop := fun xs H Q => ∃ x, xs = [.str x] ∧ x.length = 1 ∧ Q (.int (x.cps.getD 0 0 : Nat)) H
theorem cl_ord : CallR X (.builtin "ord") rOrd := call_ord
def rAddS : R2 := fun x y H Q => ∃ i j, x = .str i ∧ y = .str j ∧ i.length + j.length ≤ sizeLine ∧ Q (.str (i ++ j)) H
theorem op_addS : OpR X (binaryOp .Add) rAddS := op_add_str
def rIs0 : R2 := fun x y H Q => y = .non ∧ Q (.bl (decide (x = .non))) H
def rIsNot0 : R2 := fun x y H Q => y = .non ∧ Q (.bl (!decide (x = .non))) H
theorem op_is0 : OpR X (compareOp .Is) rIs0 := op_isN
theorem op_isnot0 : OpR X (compareOp .IsNot) rIsNot0 := op_notN
end

/-! ### readings, step by step -/
section
variable {σ : St} {H H' : Hp} {i : Nat} {v x y z : V} {ta tb te tv tc : TE} {b : Bool} {K : PySem.W.Frag} {Q : VK} {QB : Bool → Hp → Prop} {D : Ends} {t u : TS} {tt tu : TT} {a : Addr} {r r' : R2}
theorem w_seq (h : t { D with nx := u D } σ H) : tSeq t u D σ H := h
theorem w_next (h : D.nx σ H) : tNext D σ H := h
theorem w_set (h : te σ H fun x H1 => D.nx (σ.set i (some x)) H1) : tAsg te (gName i) D σ H := h
theorem w_asg {g : TG} (h : te σ H fun x H1 => g x σ H1 D.nx) : tAsg te g D σ H := h
theorem w_par {j : Nat} {tA : TA} (h : tA σ H fun vs H1 => ∃ v w, vs = [v, w] ∧ D.nx ((σ.set i (some v)).set j (some w)) H1) : tPar i j tA D σ H := h
theorem w_ret (h : te σ H D.rt) : tRet te D σ H := h
theorem w_retN (h : D.rt .non H) : tRetN D σ H := h
theorem w_drop (h : te σ H fun _ H1 => D.nx σ H1) : tDrop te D σ H := h
theorem w_if (h : tt σ H fun b H1 => if b = true then t D σ H1 else u D σ H1) : tIfS tt t u D σ H := h
theorem w_ifE (h : tt σ H fun b H1 => if b = true then ta σ H1 Q else tb σ H1 Q) : tIf tt ta tb σ H Q := h
theorem w_var (h : σ[i]? = some (some v)) (q : Q v H) : tVar i σ H Q := ⟨v, h, q⟩
theorem w_c (q : Q v H) : tC v σ H Q := q
theorem w_op (h : ta σ H fun x H1 => tb σ H1 fun y H2 => r x y H2 Q) : tOp r ta tb σ H Q := h
theorem w_un {r : V → Hp → VK → Prop} (h : ta σ H fun x H1 => r x H1 Q) : tUn r ta σ H Q := h
theorem w_I0 {g : Int → Int → V} {m n : Int} (q : Q (g m n) H) : rI0 g (.int m) (.int n) H Q := ⟨m, n, rfl, rfl, q⟩
theorem w_I {C : Int → Int → Prop} {g : Int → Int → V} {m n : Int} (hc : C m n) (q : Q (g m n) H) : rI C g (.int m) (.int n) H Q := ⟨m, n, rfl, rfl, hc, q⟩
theorem w_U {g : Int → V} {m : Int} (q : Q (g m) H) : rU g (.int m) H Q := ⟨m, rfl, q⟩
theorem w_eq (h : scal x y = true) (q : Q (.bl (decide (x = y))) H) : rEq x y H Q := ⟨h, q⟩
theorem w_ne (h : scal x y = true) (q : Q (.bl (!decide (x = y))) H) : rNe x y H Q := ⟨h, q⟩
theorem w_is0 (q : Q (.bl (decide (x = .non))) H) : rIs0 x .non H Q := ⟨rfl, q⟩
theorem w_isnot0 (q : Q (.bl (!decide (x = .non))) H) : rIsNot0 x .non H Q := ⟨rfl, q⟩
theorem w_test (h : te σ H fun x H' => ∃ k, x = .bl k ∧ QB k H') : tTest te σ H QB := h
theorem w_tB (h : te σ H fun x H' => ∃ k, x = .bl k ∧ QB k H') : tB te σ H QB := h
theorem w_bl {R : Bool → Prop} (q : R b) : ∃ k, V.bl b = .bl k ∧ R k := ⟨b, rfl, q⟩
theorem w_and (h : tt σ H fun c H1 => if c = true then tu σ H1 QB else QB false H1) : tAnd tt tu σ H QB := h
theorem w_or (h : tt σ H fun c H1 => if c = true then QB true H1 else tu σ H1 QB) : tOr tt tu σ H QB := h
theorem w_not (h : tt σ H fun c H1 => QB (!c) H1) : tNot tt σ H QB := h
theorem w_andV (h : ta σ H fun x H1 => ∃ c, x = .bl c ∧ if c = true then tb σ H1 Q else Q (.bl false) H1) : tAndV ta tb σ H Q := h
theorem w_orV (h : ta σ H fun x H1 => ∃ c, x = .bl c ∧ if c = true then Q (.bl true) H1 else tb σ H1 Q) : tOrV ta tb σ H Q := h
theorem w_notV (h : ta σ H fun x H1 => ∃ c, x = .bl c ∧ Q (.bl (!c)) H1) : tNotV ta σ H Q := h
theorem w_chain (h : ta σ H fun x H1 => tb σ H1 fun y H2 => r x y H2 fun z H3 => ∃ k, z = .bl k ∧ (if k = true then tc σ H3 fun w' H4 => r' y w' H4 Q else Q (.bl false) H3)) : tChain r r' ta tb tc σ H Q := h
theorem w_cons {tr : TA} {QA : List V → Hp → Prop} (h : ta σ H fun x H1 => tr σ H1 fun xs H2 => QA (x :: xs) H2) : tCons ta tr σ H QA := h
theorem w_nil {QA : List V → Hp → Prop} (q : QA [] H) : tNil σ H QA := q
theorem w_call {sp : Sp} {tA : TA} {E : XK} (h : tA σ H fun vs H1 => sp (vs ++ []) H1 Q E) : tCall sp [] E tA σ H Q := h
theorem w_cb {r : List V → Hp → VK → Prop} {tA : TA} (h : tA σ H fun vs H1 => r vs H1 Q) : tCB r tA σ H Q := h

/-! ### new objects: the heap as a letter -/
theorem same_new {p : Addr} {o : HO} (h : H p = none) : Same H (upd H p o) := fun c w e => by
  rw [upd_ne (ne_of_none e h)]
  exact e
theorem w_tup {tA : TA} (h : tA σ H fun xs H1 => xs.length ≤ sizeLine ∧ ∀ p H2, H1 p = none → Same H1 H2 → H2 p = some (.tup xs) → Q (.ref p) H2) (mono : ∀ σ H (Q Q' : List V → Hp → Prop), (∀ xs H, Q xs H → Q' xs H) → tA σ H Q → tA σ H Q') : tTup tA σ H Q :=
  mono _ _ _ _ (fun xs H1 ⟨l, k⟩ => ⟨l, fun p hp => k p _ hp (same_new hp) upd_same⟩) h
theorem w_newT {xs : List V} {H1 : Hp} (hl : xs.length ≤ sizeLine) (k : ∀ p H2, H1 p = none → Same H1 H2 → H2 p = some (.tup xs) → Q (.ref p) H2) : xs.length ≤ sizeLine ∧ ∀ p, H1 p = none → Q (.ref p) (upd H1 p (.tup xs)) :=
  ⟨hl, fun p hp => k p _ hp (same_new hp) upd_same⟩
theorem w_newL {xs : List V} {H1 : Hp} (hl : xs.length ≤ sizeLine) (k : ∀ p H2, H1 p = none → Same H1 H2 → H2 p = some (.lst xs) → Q (.ref p) H2) : xs.length ≤ sizeLine ∧ ∀ p, H1 p = none → Q (.ref p) (upd H1 p (.lst xs)) :=
  ⟨hl, fun p hp => k p _ hp (same_new hp) upd_same⟩
theorem w_tupE {tA : TA} (h : tA σ H fun xs H1 => xs.length ≤ sizeLine ∧ ∀ p, H1 p = none → Q (.ref p) (upd H1 p (.tup xs))) : tTup tA σ H Q := h
theorem w_lstE {tA : TA} (h : tA σ H fun xs H1 => xs.length ≤ sizeLine ∧ ∀ p, H1 p = none → Q (.ref p) (upd H1 p (.lst xs))) : tLst tA σ H Q := h
/-! ### calls of built-ins, subscripts -/
theorem w_abs {m : Int} (q : Q (.int m.natAbs) H) : rAbs [.int m] H Q := ⟨m, rfl, q⟩
theorem w_max {m n : Int} (q : Q (.int (max m n)) H) : rMaxI [.int m, .int n] H Q := ⟨m, n, rfl, q⟩
theorem w_min {m n : Int} (q : Q (.int (min m n)) H) : rMinI [.int m, .int n] H Q := ⟨m, n, rfl, q⟩
theorem w_intI {m : Int} (q : Q (.int m) H) : rIntOf [.int m] H Q := .inl ⟨m, rfl, q⟩
theorem w_intB {k : Bool} (q : Q (.int (if k then 1 else 0)) H) : rIntOf [.bl k] H Q := .inr ⟨k, rfl, q⟩
theorem w_lenL {p : Addr} {xs : List V} (h : SqL K H p xs) (q : Q (.int xs.length) H) : rLen K [.ref p] H Q := ⟨_, _, rfl, .inl ⟨xs, h, rfl⟩, q⟩
theorem w_lenT {p : Addr} {xs : List V} (h : SqT K H p xs) (q : Q (.int xs.length) H) : rLen K [.ref p] H Q := ⟨_, _, rfl, .inr ⟨xs, h, rfl⟩, q⟩
theorem w_lenS {w : Str} (h : w.length ≤ sizeLine) (q : Q (.int w.length) H) : rLen K [.str w] H Q := ⟨_, _, rfl, ⟨h, rfl⟩, q⟩
theorem w_ixL {p : Addr} {xs : List V} {m : Int} (h : SqL K H p xs) (ha : atI xs m = some v) (q : Q v H) : rIxL K (.ref p) (.int m) H Q := ⟨p, xs, m, v, rfl, rfl, h, ha, q⟩
theorem w_ixT {p : Addr} {xs : List V} {m : Int} (h : SqT K H p xs) (ha : atI xs m = some v) (q : Q v H) : rIxT K (.ref p) (.int m) H Q := ⟨p, xs, m, v, rfl, rfl, h, ha, q⟩
theorem w_ixS {w : Str} {m : Int} {c : Nat} (h : w.length ≤ sizeLine) (ha : atI w.cps.toList m = some c) (q : Q (.str ⟨#[c]⟩) H) : rIxS (.str w) (.int m) H Q := ⟨w, m, c, rfl, rfl, h, ha, q⟩
theorem w_isi {c : V} {tv cv : Value} {k : Bool} (hc : ClsV c cv) (ht : TyX K H x tv) (hk : PySem.W.kitOne K tv cv = some k) (q : Q (.bl k) H) : rIsi K [x, c] H Q := ⟨x, c, tv, cv, k, rfl, hc, ht, hk, q⟩
theorem w_gname {Q2 : L2.St → Hp → Prop} (q : Q2 (σ.set i (some v)) H) : gName i v σ H Q2 := q
theorem w_gsub {to ti : TE} {ts : TSet} {Q2 : L2.St → Hp → Prop} (h : to σ H fun o H1 => ti σ H1 fun i H2 => ts o i v H2 fun H3 => Q2 σ H3) : gSub to ti ts v σ H Q2 := h
theorem w_fld {C dx : Addr} {fs : List (Str × V)} {f : Str} {R : V → Prop} (ho : H a = some (.ins C dx fs)) (hc : Cls K C) (hn : NoAttr K C f) (hl : fs.lookup f = some v) (q : R v) : ∃ a' C dx fs v, V.ref a = .ref a' ∧ H a' = some (.ins C dx fs) ∧ Cls K C ∧ NoAttr K C f ∧ fs.lookup f = some v ∧ R v := ⟨a, C, dx, fs, v, rfl, ho, hc, hn, hl, q⟩
theorem w_fldE {f : Str} (h : ta σ H fun x H1 => ∃ a C dx fs v, x = .ref a ∧ H1 a = some (.ins C dx fs) ∧ Cls K C ∧ NoAttr K C f ∧ fs.lookup f = some v ∧ Q v H1) : tFld K ta f σ H Q := h
end

section
variable {σ : L2.St} {H H' : Hp} {i : Nat} {v x y z : V} {ta tb te tv tc : TE} {b : Bool} {K : PySem.W.Frag} {Q : VK} {QB : Bool → Hp → Prop} {D : Ends} {a C dx : Addr} {fs : List (Str × V)} {f m : Str}
theorem w_two {R : V → V → Prop} (q : R x y) : ∃ v w, [x, y] = [v, w] ∧ R v w := ⟨x, y, rfl, q⟩
theorem w_methE {sp : Sp} {dvs : List V} {E : XK} {t : TA} (h : ta σ H fun x H1 => ∃ a dx fs, x = .ref a ∧ H1 a = some (.ins C dx fs) ∧ fs.lookup m = none ∧ t σ H1 fun vs H2 => sp (x :: (vs ++ dvs)) H2 Q E) : tMeth C m sp dvs E ta t σ H Q := h
theorem w_meth {R : Prop} (ho : H a = some (.ins C dx fs)) (hl : fs.lookup m = none) (q : R) : ∃ a' dx fs, V.ref a = .ref a' ∧ H a' = some (.ins C dx fs) ∧ fs.lookup m = none ∧ R := ⟨a, dx, fs, rfl, ho, hl, q⟩
theorem w_makeE {sp : Sp} {dvs : List V} {E : XK} {t : TA} (h : t σ H fun vs H1 => ∀ x dx, H1 x = none → H1 dx = none → dx ≠ x →
  sp (.ref x :: (vs ++ dvs)) (upd (upd H1 dx (.own x)) x (.ins C dx [])) (fun v H2 => v = .non ∧ Q (.ref x) H2) E) : tMake C sp dvs E t σ H Q := h
theorem w_make {sp : Sp} {vs : List V} {E : XK} {H1 : Hp} (k : ∀ r dr H2, H1 r = none → H1 dr = none → Same H1 H2 → H2 r = some (.ins C dr []) → sp (.ref r :: vs) H2 (fun v H3 => v = .non ∧ Q (.ref r) H3) E) :
    ∀ x dx, H1 x = none → H1 dx = none → dx ≠ x → sp (.ref x :: vs) (upd (upd H1 dx (.own x)) x (.ins C dx [])) (fun v H2 => v = .non ∧ Q (.ref x) H2) E := by
  intro r dr nr nd ne
  refine k r dr _ nr nd (fun c o e => ?_) upd_same
  rw [upd_ne (ne_of_none e nr), upd_ne (ne_of_none e nd)]
  exact e
theorem w_isiB {tx tn : String} {k : Bool} (ht : TyX K H x (.type tx)) (hk : kitB tx tn = some k) (q : Q (.bl k) H) : rIsi K [x, .ty tn] H Q := ⟨x, .ty tn, _, _, k, rfl, .ty tn, ht, kit_ty hk, q⟩
theorem w_sfld {D : Ends} (h : tv σ H fun y H1 => ta σ H1 fun x H2 => ∃ a C dx fs, x = .ref a ∧ H2 a = some (.ins C dx fs) ∧ Cls K C ∧ NoAttr K C f ∧ fs.length < 1000 ∧ D.nx σ (upd H2 a (.ins C dx (putF f y fs)))) : sFld K ta tv f D σ H := h
theorem w_gfldE {to : TE} {Q2 : L2.St → Hp → Prop} (h : to σ H fun x H1 => ∃ a C dx fs, x = .ref a ∧ H1 a = some (.ins C dx fs) ∧ Cls K C ∧ NoAttr K C f ∧ fs.length < 1000 ∧ Q2 σ (upd H1 a (.ins C dx (putF f v fs)))) : gFld K to f v σ H Q2 := h
/-- a store to an attribute: the heap as a letter -/
def KB (p : Addr) (H H' : Hp) : Prop := ∀ c o, H c = some o → c ≠ p → H' c = some o
theorem KB.refl {p : Addr} : KB p H H := fun _ _ h _ => h
theorem KB.trans {p : Addr} {H1 H2 : Hp} (e : KB p H H1) (e' : KB p H1 H2) : KB p H H2 := fun c o h n => e' c o (e c o h n) n
theorem KB.of {p : Addr} (e : Same H H') : KB p H H' := fun c o h _ => e c o h
theorem KB.same {p : Addr} {H0 : Hp} (e : KB p H H') (e0 : Same H0 H) (n : H0 p = none) : Same H0 H' := fun c o h => e c o (e0 c o h) (ne_of_none h n)
theorem kb_upd {p : Addr} {o : HO} : KB p H (upd H p o) := fun c u h n => by rw [upd_ne n]; exact h
theorem w_st {R : Addr → Addr → Addr → List (Str × V) → Prop} (ho : H a = some (.ins C dx fs)) (hc : Cls K C) (hn : NoAttr K C f) (hl : fs.length < 1000) (q : R a C dx fs) :
    ∃ a' C dx fs, V.ref a = .ref a' ∧ H a' = some (.ins C dx fs) ∧ Cls K C ∧ NoAttr K C f ∧ fs.length < 1000 ∧ R a' C dx fs := ⟨a, C, dx, fs, rfl, ho, hc, hn, hl, q⟩
theorem w_setL {p : Addr} {xs : List V} {m : Int} {j : Nat} {QH : Hp → Prop} (h : H p = some (.lst xs)) (hj : ixN xs.length m = some j) (k : ∀ H2, KB p H H2 → H2 p = some (.lst (xs.set j v)) → QH H2) : rSetL (.ref p) (.int m) v H QH := ⟨p, xs, m, j, rfl, rfl, h, hj, k _ kb_upd upd_same⟩
theorem w_gtup {n : Nat} {t : TGs} {xs : List V} {Q2 : L2.St → Hp → Prop} (h : SqT K H a xs) (hn : xs.length = n) (q : t xs σ H Q2) : gTup K n t (.ref a) σ H Q2 := ⟨a, xs, rfl, h, hn, q⟩
theorem w_gcons {g : TG} {t : TGs} {r : List V} {Q2 : L2.St → Hp → Prop} (q : g v σ H fun σ' H' => t r σ' H' Q2) : gCons g t (v :: r) σ H Q2 := ⟨v, r, rfl, q⟩
theorem w_gnil {Q2 : L2.St → Hp → Prop} (q : Q2 σ H) : gNil [] σ H Q2 := ⟨rfl, q⟩
theorem lk_hit {r : List (Str × V)} : List.lookup f ((f, x) :: r) = some x := by simp [List.lookup]
theorem lk_miss {g : Str} {r : List (Str × V)} {o : Option V} (h : (f == g) = false) (e : List.lookup f r = o) : List.lookup f ((g, x) :: r) = o := by simp only [List.lookup, h]; exact e
theorem pf_hit {r : List (Str × V)} : putF f v ((f, x) :: r) = (f, v) :: r := by simp [putF]
theorem pf_miss {g : Str} {r : List (Str × V)} (h : (g == f) = false) : putF f v ((g, x) :: r) = (g, x) :: putF f v r := by
  have : ¬ g = f := beq_eq_false_iff_ne.mp h
  simp [putF, this]
theorem pf_nil : putF f v [] = [(f, v)] := rfl
/-- kept at another place -/
theorem kb_at {p q : Addr} {o : HO} (e : KB p H H') (h : H q = some o) (n : q ≠ p) : H' q = some o := e q o h n
end

/-- while, by a word that falls -/
theorem w_while {σ : L2.St} {H : Hp} {D : Ends} {c : TT} {tb : TS} (W : Nat → L2.St → Hp → Prop) (m0 : Nat) (h0 : W m0 σ H)
    (hs : ∀ m σ H, W m σ H → c σ H fun b H1 => if b = true then tb { D with nx := fun σ' H' => ∃ m', m' < m ∧ W m' σ' H', ct := fun σ' H' => ∃ m', m' < m ∧ W m' σ' H', bk := D.nx } σ H1 else D.nx σ H1)
    (mono : ∀ σ H (Q Q' : Bool → Hp → Prop), (∀ b H, Q b H → Q' b H) → c σ H Q → c σ H Q' ) : tWhile c tb D σ H :=
  ⟨W, ⟨m0, h0⟩, fun m σ H w => mono _ _ _ _ (fun b H1 q => by
    cases b with
    | true =>
      rw [if_pos rfl] at q ⊢
      exact ⟨_, fun _ _ h => h, q⟩
    | false =>
      rw [if_neg Bool.false_ne_true] at q ⊢
      exact q) (hs m σ H w)⟩
theorem w_loopT {D : Ends} {W : Nat → L2.St → Hp → Prop} {m : Nat} {tb : TS} {σ : L2.St} {H : Hp} (h : tb { D with nx := fun σ' H' => ∃ m', m' < m ∧ W m' σ' H', ct := fun σ' H' => ∃ m', m' < m ∧ W m' σ' H', bk := D.nx } σ H) :
    ∃ N : L2.St → Hp → Prop, (∀ σ' H', N σ' H' → ∃ m', m' < m ∧ W m' σ' H') ∧ tb { D with nx := N, ct := N, bk := D.nx } σ H := ⟨_, fun _ _ h => h, h⟩

theorem same_gen {H H2 : Hp} {p : Addr} {o : HO} (n : H p = none) (e : upd H p o = H2) : Same H H2 := e ▸ same_new n
theorem at_gen {H H2 : Hp} {p : Addr} {o : HO} (e : upd H p o = H2) : H2 p = some o := e ▸ upd_same
theorem kb_gen {H H2 : Hp} {p : Addr} {o : HO} (e : upd H p o = H2) : KB p H H2 := e ▸ kb_upd
theorem same_make {H H2 : Hp} {x dx : Addr} {o u : HO} (nx : H x = none) (nd : H dx = none) (e : upd (upd H dx u) x o = H2) : Same H H2 := fun c w h => by
  rw [← e, upd_ne (ne_of_none h nx), upd_ne (ne_of_none h nd)]
  exact h
theorem makeG {H1 : Hp} {R : Addr → Addr → Prop} (k : ∀ x dx, H1 x = none → H1 dx = none → dx ≠ x → R x dx) : ∀ x dx, H1 x = none → H1 dx = none → dx ≠ x → R x dx := k
theorem newL {n : Nat} {R : Addr → Prop} {H : Hp} (hl : n ≤ sizeLine) (k : ∀ p, H p = none → R p) : n ≤ sizeLine ∧ ∀ p, H p = none → R p := ⟨hl, k⟩
theorem kit_int_int : kitB "int" "int" = some true := by decide +kernel
theorem kit_int_bool : kitB "int" "bool" = some false := by decide +kernel
theorem kit_int_str : kitB "int" "str" = some false := by decide +kernel
theorem kit_int_list : kitB "int" "list" = some false := by decide +kernel
theorem kit_int_tuple : kitB "int" "tuple" = some false := by decide +kernel
theorem kit_int_dict : kitB "int" "dict" = some false := by decide +kernel
theorem kit_bool_int : kitB "bool" "int" = some true := by decide +kernel
theorem kit_bool_bool : kitB "bool" "bool" = some true := by decide +kernel
theorem kit_bool_str : kitB "bool" "str" = some false := by decide +kernel
theorem kit_bool_list : kitB "bool" "list" = some false := by decide +kernel
theorem kit_bool_tuple : kitB "bool" "tuple" = some false := by decide +kernel
theorem kit_bool_dict : kitB "bool" "dict" = some false := by decide +kernel
theorem kit_str_int : kitB "str" "int" = some false := by decide +kernel
theorem kit_str_bool : kitB "str" "bool" = some false := by decide +kernel
theorem kit_str_str : kitB "str" "str" = some true := by decide +kernel
theorem kit_str_list : kitB "str" "list" = some false := by decide +kernel
theorem kit_str_tuple : kitB "str" "tuple" = some false := by decide +kernel
theorem kit_str_dict : kitB "str" "dict" = some false := by decide +kernel
theorem kit_list_int : kitB "list" "int" = some false := by decide +kernel
theorem kit_list_bool : kitB "list" "bool" = some false := by decide +kernel
theorem kit_list_str : kitB "list" "str" = some false := by decide +kernel
theorem kit_list_list : kitB "list" "list" = some true := by decide +kernel
theorem kit_list_tuple : kitB "list" "tuple" = some false := by decide +kernel
theorem kit_list_dict : kitB "list" "dict" = some false := by decide +kernel
theorem kit_tuple_int : kitB "tuple" "int" = some false := by decide +kernel
theorem kit_tuple_bool : kitB "tuple" "bool" = some false := by decide +kernel
theorem kit_tuple_str : kitB "tuple" "str" = some false := by decide +kernel
theorem kit_tuple_list : kitB "tuple" "list" = some false := by decide +kernel
theorem kit_tuple_tuple : kitB "tuple" "tuple" = some true := by decide +kernel
theorem kit_tuple_dict : kitB "tuple" "dict" = some false := by decide +kernel
theorem kit_NoneType_int : kitB "NoneType" "int" = some false := by decide +kernel
theorem kit_NoneType_bool : kitB "NoneType" "bool" = some false := by decide +kernel
theorem kit_NoneType_str : kitB "NoneType" "str" = some false := by decide +kernel
theorem kit_NoneType_list : kitB "NoneType" "list" = some false := by decide +kernel
theorem kit_NoneType_tuple : kitB "NoneType" "tuple" = some false := by decide +kernel
theorem kit_NoneType_dict : kitB "NoneType" "dict" = some false := by decide +kernel
theorem kit_dict_int : kitB "dict" "int" = some false := by decide +kernel
theorem kit_dict_bool : kitB "dict" "bool" = some false := by decide +kernel
theorem kit_dict_str : kitB "dict" "str" = some false := by decide +kernel
theorem kit_dict_list : kitB "dict" "list" = some false := by decide +kernel
theorem kit_dict_tuple : kitB "dict" "tuple" = some false := by decide +kernel
theorem kit_dict_dict : kitB "dict" "dict" = some true := by decide +kernel

section
variable {σ : L2.St} {H : Hp} {K : PySem.W.Frag} {D : Ends} {a : Addr}
theorem w_forE {wi : TI} {g : TG} {tb : TS} (h : wi σ H fun J H1 => ∃ W : Nat → Nat → L2.St → Hp → Prop, (∃ m, W 0 m σ H1) ∧ ∀ i m σ H, W i m σ H →
  (J.stop i H ∧ D.nx σ H) ∨ (J.go i H ∧ ∃ N : L2.St → Hp → Prop, (∀ σ' H', N σ' H' → ∃ m', m' < m ∧ W (i + 1) m' σ' H') ∧ ∀ x H', J.yld i H x H' → g x σ H' fun σ2 H2 => tb { D with nx := N, ct := N, bk := D.nx } σ2 H2)) : tFor wi g tb D σ H := h
theorem w_iTup {tl : TE} {R : It → Hp → Prop} (h : tl σ H fun x H1 => ∃ a, x = .ref a ∧ (∃ xs, SqT K H1 a xs) ∧ R (Itt K a) H1) : iTup K tl σ H R := h
theorem w_iList {tl : TE} {R : It → Hp → Prop} (h : tl σ H fun x H1 => ∃ a, x = .ref a ∧ (∃ xs, SqL K H1 a xs) ∧ R (Itl K a) H1) : iList K tl σ H R := h
theorem w_iRng1 {ta : TA} {R : It → Hp → Prop} (h : ta σ H fun vs H1 => ∃ j : Int, vs = [.int j] ∧ -(2 ^ 62) ≤ j ∧ j < 2 ^ 62 ∧ R (Itr 0 j.toNat) H1) : iRng1 ta σ H R := h
theorem w_iRng2 {ta : TA} {R : It → Hp → Prop} (h : ta σ H fun vs H1 => ∃ i j : Int, vs = [.int i, .int j] ∧ (-(2 ^ 62) ≤ i ∧ i < 2 ^ 62 ∧ -(2 ^ 62) ≤ j ∧ j < 2 ^ 62) ∧ R (Itr i (j - i).toNat) H1) : iRng2 ta σ H R := h
theorem w_itT {R : Addr → Prop} {xs : List V} (h : SqT K H a xs) (q : R a) : ∃ a', V.ref a = .ref a' ∧ (∃ xs, SqT K H a' xs) ∧ R a' := ⟨a, rfl, ⟨xs, h⟩, q⟩
theorem w_itL {R : Addr → Prop} {xs : List V} (h : SqL K H a xs) (q : R a) : ∃ a', V.ref a = .ref a' ∧ (∃ xs, SqL K H a' xs) ∧ R a' := ⟨a, rfl, ⟨xs, h⟩, q⟩
/-- == of data -/
theorem w_eqD {x y : V} {Q : VK} {d e : PyData} {k : Bool} (hx : Dp K H x d) (hy : Dp K H y e) (sd : SeqAt.shaped d = true) (se : SeqAt.shaped e = true) (hk : PyData.eqv d e = k) (q : Q (.bl k) H) : rEqD K x y H Q := ⟨d, e, hx, hy, sd, se, hk ▸ q⟩
theorem w_neD {x y : V} {Q : VK} {d e : PyData} {k : Bool} (hx : Dp K H x d) (hy : Dp K H y e) (sd : SeqAt.shaped d = true) (se : SeqAt.shaped e = true) (hk : PyData.eqv d e = k) (q : Q (.bl (!k)) H) : rNeD K x y H Q := ⟨d, e, hx, hy, sd, se, hk ▸ q⟩
theorem dp_t2 {p : Addr} {m n : Int} (h : SqT K H p [.int m, .int n]) : Dp K H (.ref p) (.tuple [.int m, .int n]) := .tup h (.cons (.int m) (.cons (.int n) .nil))
end
theorem mulW {i j : Int} {a b : Nat} (ha : i.natAbs < 2 ^ a) (hb : j.natAbs < 2 ^ b) (h0 : 0 < a) (h1 : 0 < b) (h : a + b ≤ 1000000) : CMulU i j := (wide_mul ha hb h0 h1 h).ok
theorem mulL {i j : Int} (h : i.natAbs < 2 ^ 64) : CMulU i j := CMul.ok (.inl ⟨by omega, by omega⟩)
theorem mulR {i j : Int} (h : j.natAbs < 2 ^ 64) : CMulU i j := CMul.ok (.inr ⟨by omega, by omega⟩)
theorem w_pow10_5 {H : Hp} {Q : VK} (q : Q (.int 100000) H) : rI CPowU (fun i j => .int (i ^ j.toNat)) (.int 10) (.int 5) H Q := ⟨10, 5, rfl, rfl, powU (a := 4) (by decide) (by decide) (by decide) (by decide), q⟩
theorem w_pow10_8 {H : Hp} {Q : VK} (q : Q (.int 100000000) H) : rI CPowU (fun i j => .int (i ^ j.toNat)) (.int 10) (.int 8) H Q := ⟨10, 8, rfl, rfl, powU (a := 4) (by decide) (by decide) (by decide) (by decide), q⟩
theorem w_pow10_9 {H : Hp} {Q : VK} (q : Q (.int 1000000000) H) : rI CPowU (fun i j => .int (i ^ j.toNat)) (.int 10) (.int 9) H Q := ⟨10, 9, rfl, rfl, powU (a := 4) (by decide) (by decide) (by decide) (by decide), q⟩
theorem w_pow10_10 {H : Hp} {Q : VK} (q : Q (.int 10000000000) H) : rI CPowU (fun i j => .int (i ^ j.toNat)) (.int 10) (.int 10) H Q := ⟨10, 10, rfl, rfl, powU (a := 4) (by decide) (by decide) (by decide) (by decide), q⟩
theorem w_pow10_11 {H : Hp} {Q : VK} (q : Q (.int 100000000000) H) : rI CPowU (fun i j => .int (i ^ j.toNat)) (.int 10) (.int 11) H Q := ⟨10, 11, rfl, rfl, powU (a := 4) (by decide) (by decide) (by decide) (by decide), q⟩
theorem w_pow10_12 {H : Hp} {Q : VK} (q : Q (.int 1000000000000) H) : rI CPowU (fun i j => .int (i ^ j.toNat)) (.int 10) (.int 12) H Q := ⟨10, 12, rfl, rfl, powU (a := 4) (by decide) (by decide) (by decide) (by decide), q⟩
theorem w_pow10_18 {H : Hp} {Q : VK} (q : Q (.int 1000000000000000000) H) : rI CPowU (fun i j => .int (i ^ j.toNat)) (.int 10) (.int 18) H Q := ⟨10, 18, rfl, rfl, powU (a := 4) (by decide) (by decide) (by decide) (by decide), q⟩
/-! ### small facts -/
theorem sz {n : Nat} (h : n ≤ 100000) : n ≤ sizeLine := Nat.le_trans h (by decide)
theorem w_iteP {c : Bool} {A B : Prop} (h1 : c = true → A) (h2 : c = false → B) : if c = true then A else B := by
  cases c with
  | true => exact iteT (h1 rfl)
  | false => exact iteF (h2 rfl)
theorem w_dec {c A B : Prop} {dc : Decidable c} (h1 : c → A) (h2 : ¬ c → B) : if decide c = true then A else B := by
  by_cases h : c
  · rw [if_pos (decide_eq_true h)]
    exact h1 h
  · rw [if_neg (fun e => h (of_decide_eq_true e))]
    exact h2 h
theorem same_at {H H' : Hp} {a : Addr} {o : HO} (e : Same H H') (h : H a = some o) : H' a = some o := e a o h
theorem same_t {K : PySem.W.Frag} {H H' : Hp} {a : Addr} {xs : List V} (e : Same H H') (h : SqT K H a xs) : SqT K H' a xs := by
  rcases h with (h | ⟨o, h⟩) | h
  · exact .inl (.inl (e _ _ h))
  · exact .inl (.inr ⟨o, e _ _ h⟩)
  · exact .inr h
section
variable {K : PySem.W.Frag} {H : Hp}
theorem tyx_int {i : Int} : TyX K H (.int i) (.type "int") := .base (.int _)
theorem tyx_bl {b : Bool} : TyX K H (.bl b) (.type "bool") := .base (.bl _)
theorem tyx_str {x : Str} : TyX K H (.str x) (.type "str") := .base (.str _)
theorem tyx_non : TyX K H .non (.type "NoneType") := .base .non
theorem tyx_lst {a : Addr} {xs : List V} (h : H a = some (.lst xs)) : TyX K H (.ref a) (.type "list") := .base (.lst h)
theorem tyx_tup {a : Addr} {xs : List V} (h : H a = some (.tup xs)) : TyX K H (.ref a) (.type "tuple") := .base (.tup h)
end
end Bw

/-! Except clauses: tuples of classes of any length. -/
namespace PySem.W
open PySem PySem.Spec PySem.Calls
section
variable {M : Model} {K : Frag}
theorem forIn_stay {β : Type} {A : Around} {E : Value → Shared → Prop} {s : Shared} {b : β} {f : Value → β → Sem (ForInStep β)} {Q : β → Shared → Prop} : ∀ {cs : List Value}, (∀ c ∈ cs, ∀ (Q : ForInStep β → Shared → Prop), Q (.yield b) s → wpAny M A (f c b) Q E s) → Q b s → wpAny M A (forIn cs b f) Q E s
  | [], _, q => by
    rw [List.forIn_nil]
    exact wpAny_pure q
  | c :: r, hf, q => by
    rw [List.forIn_cons]
    refine wpAny_bind (hf c List.mem_cons_self _ ?_)
    exact forIn_stay (fun c hc => hf c (List.mem_cons_of_mem _ hc)) q
theorem exmAny_mem {cls : Value} : ∀ {cs : List Value} {b : Bool}, exmAny K cls cs = some b → ∀ c ∈ cs, ∃ b1, exmOne K cls c = some b1
  | c :: r, b, h, x, hx => by
    obtain ⟨b1, d1, h1, h2, _⟩ := exmAny_cons h
    rcases List.mem_cons.mp hx with rfl | hx
    · exact ⟨_, h1⟩
    · exact exmAny_mem h2 x hx
theorem exm_tupN {cs : List Value} {cls : Value} {tp e : Addr} {b : Bool} {h : Heap} {n : Nat} {dd : Option Addr} {sl : Array (Option Value)} (X : K.In h) (LT : Looks M h (typeOf (.ref e)) cls) (hp : h.get? tp = some { cls := .type "tuple", dict := dd, data := .seq cs.toArray n, slots := sl }) (hx : exmAny K cls cs = some b) :
    Looks M h (excMatches (.ref e) (.ref tp)) b := by
  intro A Q E s k₀ q
  obtain ⟨hh, g, d, tk, os⟩ := s
  have k : ∀ b o, h.get? b = some o → hh.get? b = some o := k₀
  have LT0 : Looks M h (isInstance (.ref tp) (.type "tuple")) true := ((Looks.ld hp).andThen .now).andThen (Looks.of_pure isSubtype_tuple_tuple)
  have LT := LT.keeps k
  have LT0 := LT0.keeps k
  have hp' := k _ _ hp
  have hk := X.keeps k
  unfold excMatches
  refine wpAny_bind (LT0.at ?_)
  dsimp only
  rw [if_pos rfl]
  first
    | refine wpAny_bind (wpAny_seqItems hp' rfl ?_)
    | refine wpAny_bind (wpAny_bind (wpAny_seqItems hp' rfl (wpAny_pure ?_)))
  dsimp only [Option.getD_some, Option.getD]
  refine wpAny_bind (wpAny_pure ?_)
  refine wpAny_bind (forIn_stay (fun c hc Q q => ?_) ?_)
  · obtain ⟨b1, h1⟩ := exmAny_mem hx c hc
    refine wpAny_bind ((exm_cls (M := M) hk h1).1.here ?_)
    exact wpAny_pure q
  · refine wpAny_bind (LT.here ?_)
    have loop : ∀ (cs : List Value) (b : Bool), exmAny K cls cs = some b → ∀ (Q : Option Bool × Unit → Shared → Prop), Q (if b then some true else none, ()) { heap := hh, gens := g, drawn := d, toks := tk, os := os } →
        wpAny M A (forIn cs ((none : Option Bool), ()) fun c __s => do
            let __do_lift ← isSubtype cls c
            if __do_lift = true then pure (ForInStep.done (some true, ())) else pure (ForInStep.yield (none, ()))) Q E { heap := hh, gens := g, drawn := d, toks := tk, os := os } := by
      intro cs
      induction cs with
      | nil =>
        intro b hb Q q
        have w2 : some false = some b := hb
        cases w2
        rw [List.forIn_nil]
        exact wpAny_pure q
      | cons c r ih =>
        intro b hb Q q
        obtain ⟨b1, d1, h1, h2, rfl⟩ := exmAny_cons hb
        rw [List.forIn_cons]
        refine wpAny_bind (wpAny_bind ((exm_cls (M := M) hk h1).2.here ?_))
        cases b1 with
        | true =>
          rw [if_pos rfl]
          exact wpAny_pure (wpAny_pure q)
        | false =>
          rw [if_neg Bool.false_ne_true]
          exact wpAny_pure (ih d1 h2 Q q)
    refine wpAny_bind (loop cs b hx _ ?_)
    cases b with
    | true => exact wpAny_pure q
    | false => exact wpAny_pure q
end
end PySem.W

namespace Bw
open PySem PySem.Spec L2
/-! ### try with several clauses, classes or tuples of classes, each with a name -/
/-- a clause's class expression, read where the exception is handled -/
def wMas (K : PySem.W.Frag) (Wout : WX) (D : Ends) : List (List Value × Nat × (Addr → Value → Option Addr → TS)) → WX
  | [] => Wout
  | (cs, i, ts) :: r => fun cls d σ H => ∃ b, PySem.W.exmAny K cls cs = some b ∧ (b = true → ∀ a, H a = none → ts a cls d { nx := fun σ' H' => D.nx (σ'.set i none) H', rt := D.rt, bk := fun σ' H' => D.bk (σ'.set i none) H', ct := fun σ' H' => D.ct (σ'.set i none) H' } (σ.set i (some (.ref a))) H) ∧
      (b = false → wMas K Wout D r cls d σ H)
/-- names of classes -/
inductive NamesL (X : Cx) : List Expr → List Value → Prop
  | nil : NamesL X [] []
  | cons {x : Str} {c : Value} {p : Pos} {es : List Expr} {cs : List Value} (h : Names X x c) (r : NamesL X es cs) : NamesL X (.Name x p :: es) (c :: cs)
inductive ClsE (X : Cx) : Expr → List Value → Prop
  | one {x : Str} {c : Value} {p : Pos} (h : Names X x c) : ClsE X (.Name x p) [c]
  | tup {es : List Expr} {cs : List Value} {k : Nat} {p : Pos} (h : NamesL X es cs) : ClsE X (.Tuple es k p) cs
inductive HdsA (X : Cx) : List ExceptHandler → List (List Value × Nat × (Addr → Value → Option Addr → TS)) → Prop
  | nil : HdsA X [] []
  | cons {te : Expr} {cs : List Value} {n : Str} {i : Nat} {ts : Addr → Value → Option Addr → TS} {b₀ : Stmt} {suite : List Stmt} {pos' : Pos} {hds : List ExceptHandler} {l : List (List Value × Nat × (Addr → Value → Option Addr → TS))} (hc : ClsE X te cs)
      (hi : X.N[i]? = some n) (hln : X.env.kindOf n = some .local)
      (hsu : ∀ (a : Addr) (oe : Obj) (cls : Value) (d : Option Addr) (pn : List (Addr × Obj)), Zc cls d oe → (∃ vs, oe.data = .fields vs) → PSs (X.suite a ((a, oe) :: pn)) (b₀ :: suite) (ts a cls d)) (r : HdsA X hds l) :
      HdsA X (.ExceptHandler (some te) (some n) (b₀ :: suite) pos' :: hds) ((cs, i, ts) :: l)
theorem flying_kept {B h h' : Heap} {l : List Env} {e : Addr} {Z : Obj → Prop} (f : HandSPX.FlyingZ B l e Z h) (k : ∀ b o, h.get? b = some o → h'.get? b = some o) : HandSPX.FlyingZ B l e Z h' := by
  obtain ⟨f1, f2, f3, oe, vs, T, oT, ts, a1, a2, a3, a4, a5, a6, a7, a8, a9⟩ := f
  exact ⟨fun b o q => k b o (f1 b o q), f2, f3.of_keeps fun b o q _ => ⟨o, k b o q, rfl⟩, oe, vs, T, oT, ts, k _ _ a1, a2, a3, a4, a5, a6, k _ _ a7, a8, a9⟩
section
variable {X : Cx} {body : List Stmt} {h₀ : ExceptHandler} {hds : List ExceptHandler} {l : List (List Value × Nat × (Addr → Value → Option Addr → TS))} {pos : Pos} {tb : WX → TS} {Wout : WX}
theorem eval_names {Y : Cx} {pins : List (Addr × Obj)} {σ : L2.St} {H : Hp} {s : Shared} {E : Value → Shared → Prop} (I : Inv Y pins σ H s) (pos : Pos) : ∀ {es : List Expr} {cs : List Value}, NamesL Y es cs → ∀ {Q : List Value → Shared → Prop}, Q cs s → wpAny (model Y.prog Y.w) Y.A (spliced (backTo pos (starEach es Y.env))) Q E s
  | _, _, .nil, Q, q => Calls.spliced_nil q
  | _, _, @NamesL.cons _ x c p es cs h r, Q, q => by
    show wpAny _ _ (spliced ((false, eval (.Name x p) Y.env) :: backTo pos (starEach es Y.env))) _ _ s
    refine Calls.spliced_cons ?_
    have go : wpAny (model Y.prog Y.w) Y.A (spliced (backTo pos (starEach es Y.env))) (fun vs s₂ => Q (c :: vs) s₂) E s := eval_names I pos r q
    obtain ⟨hg, hdbg, hm | ⟨hm, hv, hnn⟩⟩ := h
    · exact ld_glob I hg hm go hdbg
    · exact ld_blt I hg hm hv go hnn hdbg
theorem NamesL.suite {a : Addr} {pn : List (Addr × Obj)} : ∀ {es : List Expr} {cs : List Value}, NamesL X es cs → NamesL (X.suite a pn) es cs
  | _, _, .nil => .nil
  | _, _, .cons h r => .cons h (NamesL.suite r)
theorem NamesL.length : ∀ {es : List Expr} {cs : List Value}, NamesL X es cs → cs.length = es.length
  | _, _, .nil => rfl
  | _, _, .cons _ r => congrArg Nat.succ (NamesL.length r)
theorem ps_try_mas (hs : X.stack = X.env :: X.outer) (hf : X.env.frame = some X.env.locals) (hN : X.N.Nodup) (tk : Takes X Wout) (hsz : ∀ x ∈ l, x.1.length ≤ 1000)
    (hb : ∀ (W : WX) (pn : List (Addr × Obj)) (xe : Value → Shared → Prop), Takes (X.tr pn xe) W → PassesOwn (model X.prog X.w) X.A X.env xe → PSs (X.tr pn xe) body (tb W))
    (hh : HdsA X (h₀ :: hds) l) : PS X (.Try body (h₀ :: hds) [] [] pos) (fun D σ H => tb (wMas X.K Wout D l) D σ H) := by
  refine ⟨fun pins s σ H D I h => ?_⟩
  have ok := I.ok
  have hfr : X.A.frames = some (X.env :: X.outer) := by rw [ok.frames, hs]
  refine wpAny_Try_except ?_
  refine wpAny_mono ((hb (wMas X.K Wout D l) (X.pn ++ pins) (fun e s₁ => wpAny (model X.prog X.w) X.A (noteFrame e X.env) (fun _ s₂ => wpAny (model X.prog X.w) X.A (setFlight e none) (fun _ s₃ =>
    wpAny (model X.prog X.w) X.A (handleBy e X.env (h₀ :: hds)) (SP X pins D) X.xe s₃) X.xe s₂) X.xe s₁) (fun u s' xx => ?_) PassesOwn.looking).run [] s σ H D (I.toTry _) h) (fun f s1 hsp => ?_) (fun e s1 he => he)
  · -- the catch
    obtain ⟨a, B, sI, pins', σ', H', cls, d, rfl, J', nb, up, sky, na, os, ag, w⟩ := xx
    have J : Inv X pins σ' H' sI := J'.ofTry ok
    have sky' : Sky B (X.env :: X.outer) a (Zc cls d) X.env.locals s'.heap := by rw [← hs]; exact sky
    show wpAny (model X.prog X.w) X.A (noteFrame (.ref a) X.env) _ _ _
    refine Sky.land Zc.steady hfr hf sky' fun h3 fl3 up3 => ?_
    have notFr : ∀ {h : Heap} {o : Obj} {vs : Array Value}, h.FunFrames B (X.env :: X.outer) → h.get? a = some o → o.data = .fields vs → a ∉ frs (X.env :: X.outer) := fun {h o vs} ff e dd hm => by
      obtain ⟨_, o', e', hnf⟩ := ff.mem hm
      rw [e] at e'; cases e'
      exact hnf _ dd
    have nfr : a ∉ frs (X.env :: X.outer) := by
      obtain ⟨oe3, vs3, he3, hz3, hd3⟩ := fl3.there
      exact notFr fl3.2.2.1 he3 hd3
    have nL : a ≠ X.env.locals := fun z => nfr (List.mem_filterMap.mpr ⟨X.env, List.mem_cons_self, by rw [hf, z]⟩)
    have nF : a ∉ X.fs := fun hm => by
      obtain ⟨e, he, q⟩ := List.mem_filterMap.mp hm
      exact nfr (List.mem_filterMap.mpr ⟨e, List.mem_cons_of_mem _ he, q⟩)
    have go : ∀ {hds' : List ExceptHandler} {l' : List (List Value × Nat × (Addr → Value → Option Addr → TS))}, HdsA X hds' l' → (∀ x ∈ l', x.1.length ≤ 1000) → wMas X.K Wout D l' cls d σ' H' → ∀ h3, HandSPX.FlyingZ B (X.env :: X.outer) a (Zc cls d) h3 → sI.heap.UpToSlots h3 →
        wpAny (model X.prog X.w) X.A (handleBy (.ref a) X.env hds') (SP X pins D) X.xe { s' with heap := h3 } := by
      intro hds' l' hk
      induction hk with
      | nil =>
        intro _ w h3 fl3 up3
        refine wpAny_handleBy_nil ?_
        obtain ⟨k1, k2, k3, oe, vs, T, oT, ts', he, hz, hd, h1, hr⟩ := id fl3
        unfold PySem.passOn
        refine wpAny_bind (wpAny_field he hd h1 ?_)
        rw [if_neg (show ¬ ((Value.ref T == Value.none) = true) from by simp)]
        have fin : wpAny (model X.prog X.w) X.A (setFlight (.ref a) X.env.frame) (fun _ s4 => wpAny (model X.prog X.w) X.A (throw (.ref a) : Sem Flow) (SP X pins D) X.xe s4) X.xe { s' with heap := h3 } := by
          rw [hf]
          refine HandSPX.setFlight_upZ fl3 fun h4 hh4 up4 => wpAny_throw (tk _ _ ?_)
          exact ⟨a, B, sI, pins, σ', H', cls, d, rfl, J, nb, up3.trans up4, .inr (.inr (by rw [hs]; exact hh4)), na, os, ag, w⟩
        first
          | exact wpAny_bind (wpAny_pure (wpAny_bind fin))
          | exact wpAny_bind fin
      | @cons te cs n i ts b₀ suite pos' hds2 l2 hc hi hln hsu r ih =>
        intro hz0 w h3 fl3 up3
        obtain ⟨b, hb1, hyes, hno⟩ := w
        have J3 : Inv X pins σ' H' { s' with heap := h3 } := J.landed nb fl3.1 up3 os ag
        obtain ⟨oe3, vs3, he3, hz3, hd3⟩ := fl3.there
        have S3 := J3.suite he3 hd3 na nL nF
        refine wpAny_handleBy_cons (codeAny_handlers_test ?_) (by intro q; cases q)
        -- the classes, then the match, in a heap that is kept
        have test : ∀ {R : Bool → Shared → Prop} {E : Value → Shared → Prop}, (∀ h4, (∀ b o, h3.get? b = some o → h4.get? b = some o) → R b { s' with heap := h4 }) →
            wpAny (model X.prog X.w) (X.A.mark (some (.ref a))) (eval te X.env) (fun c s₁ => wpAny (model X.prog X.w) (X.A.mark (some (.ref a))) (excMatches (.ref a) c) R E s₁) E { s' with heap := h3 } := fun {R E} q => by
          cases hc with
          | one hn =>
            rename_i x c np
            have LT : PySem.W.Looks (model X.prog X.w) h3 (typeOf (.ref a)) cls := fun A Q E s k q => wpAny_typeOf_ref (k _ _ he3) (by rw [hz3.1]; exact q)
            obtain ⟨b1, d1, h1, h2, eb⟩ := PySem.W.exmAny_cons hb1
            have w2 : some false = some d1 := h2
            cases w2
            rw [Bool.or_false] at eb
            subst eb
            have LM := PySem.W.exm_one (M := model X.prog X.w) (J3.kIn) LT h1
            obtain ⟨hg, hdbg, hm | ⟨hm, hv, hnn⟩⟩ := hn
            · exact ld_glob (X := X.suite a ((a, oe3) :: (X.pn ++ pins))) S3 hg hm (LM.here (q h3 fun _ _ z => z)) hdbg
            · exact ld_blt (X := X.suite a ((a, oe3) :: (X.pn ++ pins))) S3 hg hm hv (LM.here (q h3 fun _ _ z => z)) hnn hdbg
          | tup hn =>
            rename_i es kk np
            refine wpAny_Tuple_spliced (eval_names (Y := X.suite a ((a, oe3) :: (X.pn ++ pins))) S3 _ hn.suite ⟨?_, ?_⟩)
            · exact Nat.le_trans (hz0 _ List.mem_cons_self) (by decide)
            · have kp : ∀ b o, h3.get? b = some o → (h3.push { cls := .type "tuple", data := .seq cs.toArray }).get? b = some o := fun b o e => Heap.get?_push_of_some _ e
              have LT : PySem.W.Looks (model X.prog X.w) (h3.push { cls := .type "tuple", data := .seq cs.toArray }) (typeOf (.ref a)) cls := fun A Q E s k q => wpAny_typeOf_ref (k _ _ (kp _ _ he3)) (by rw [hz3.1]; exact q)
              have LM := PySem.W.exm_tupN (M := model X.prog X.w) (J3.kIn.keeps kp) LT (Heap.get?_push_size _ rfl) hb1
              exact LM.here (q _ kp)
        refine test fun h4 kp => ?_
        have fl4 := flying_kept fl3 kp
        have up4 : sI.heap.UpToSlots h4 := up3.trans (.of_keeps kp)
        cases b with
        | true =>
          refine codeAny_handlers_suite_as ?_
          refine HandSPX.lands_againZ fl4 fun h5 fl5 up5 => ?_
          have J5 : Inv X pins σ' H' { s' with heap := h5 } := J.landed nb fl5.1 (up4.trans up5) os ag
          obtain ⟨oe5, vs5, he5, hz5, hd5⟩ := fl5.there
          have S5 := J5.suite he5 hd5 na nL nF
          refine store_ok (X := X.suite a ((a, oe5) :: (X.pn ++ pins))) (v := .ref a) S5 hN hi (.inl hln) rfl (fun s6 S6 => ?_) (.inr hln)
          refine wpAny_mono ((hsu a oe5 cls d (X.pn ++ pins) hz5 ⟨_, hd5⟩).run [] s6 _ H' _ S6 (hyes rfl a na)) (fun f s6 hsp => ?_) (fun _ _ z => False.elim z)
          have end_ : ∀ {σ6 : L2.St} {H6 : Hp} {Q : Shared → Prop}, Inv (X.suite a ((a, oe5) :: (X.pn ++ pins))) [] σ6 H6 s6 → (∀ s7, Inv X pins (σ6.set i none) H6 s7 → Q s7) →
              wpAny (model X.prog X.w) X.A (do bindName X.env n .none; unbindBehindTheSuite X.env n pos') (fun _ s7 => Q s7) X.xe s6 := fun {σ6 H6 Q} S6 hq => gone_ok (S6.unsuite ok) hN hi hln hq
          cases f with
          | next =>
            obtain ⟨σ6, H6, S6, q6⟩ := hsp
            exact end_ S6 fun s7 J7 => ⟨_, _, J7, q6⟩
          | brk =>
            obtain ⟨σ6, H6, S6, q6⟩ := hsp
            exact end_ S6 fun s7 J7 => ⟨_, _, J7, q6⟩
          | cont =>
            obtain ⟨σ6, H6, S6, q6⟩ := hsp
            exact end_ S6 fun s7 J7 => ⟨_, _, J7, q6⟩
          | ret u =>
            obtain ⟨v6, σ6, H6, S6, r6, q6⟩ := hsp
            exact end_ S6 fun s7 J7 => ⟨_, _, _, J7, r6, q6⟩
        | false =>
          show wpAny _ X.A (handleBy (.ref a) X.env hds2) _ _ _
          exact ih (fun x hx => hz0 x (List.mem_cons_of_mem _ hx)) (hno rfl) h4 fl4 up4
    exact go hh hsz w h3 fl3 (up.trans up3)
  · cases f with
    | next =>
      obtain ⟨σ', H', J', q⟩ := hsp
      exact wpAny_execs_nil ⟨σ', H', J'.ofTry ok, q⟩
    | brk =>
      obtain ⟨σ', H', J', q⟩ := hsp
      exact ⟨σ', H', J'.ofTry ok, q⟩
    | cont =>
      obtain ⟨σ', H', J', q⟩ := hsp
      exact ⟨σ', H', J'.ofTry ok, q⟩
    | ret u =>
      obtain ⟨v, σ', H', J', r, q⟩ := hsp
      exact ⟨v, σ', H', J'.ofTry ok, r, q⟩
end
end Bw

namespace Bw
open PySem PySem.Spec PyProof.Rows L2
/-! ### raise of own classes -/
section
variable {X : Cx}
/-- X(), X an own exception class without own __init__ -/
theorem pmk_own0 {C : Addr} {bmB : List Value} {B newId initId : String} {x : Str} {p pos : Pos} (F : ExcBaseFacts B newId initId bmB) (q : PySem.W.excIn X.K C bmB newId = true) (gC : X.mg x = some (.ref C))
    (kC : PySem.W.keepIn X.K (.ref C) = true) (r : Raises X (.ref C)) (hg : Gl X x) (hdb : (x == ("__debug__" : Str)) = false := by decide) : PMk X (.Call (.Name x p) [] [] pos) (fun _ H Q => Q (.ref C) none H) := by
  intro pins s σ H Q I h
  refine wpAny_Call_Name_kw (ld_glob I hg gC ?_ hdb)
  refine PySem.W.callWith_K0 I.kIn kC ?_
  show wpAny _ _ (call (.ref C) []) _ _ _
  obtain ⟨bm, N, nm, qn, bs, hdct, sn, sub, ab, col, dd, k0, k1, k2, k3, k5, mN, hC, hN, hni, T⟩ := exc_obj I.kIn q
  refine wpAny_call_exc_subT F T hC hN hni (fun h' e hm => ?_) (by show 0 ≤ sizeLine; exact Nat.zero_le _)
  exact mk_of I hm r h (I.hok.gone hm.new)
/-- D.__init__(self, ..), D an own class above which stands ValueError -/
theorem pe_wrinit {pl : Sem Bool} {D : Addr} {x : Str} {e : Expr} {es : List Expr} {ta : TA} {p1 p2 pos : Pos} (hg : Gl X x) (hm : X.mg x = some (.ref D)) (hga : PySem.W.specialIn X.K (.ref D) "__getattribute__" = some (some (.builtin "type.__getattribute__")))
    (hrd : PySem.W.readsIn X.K D (.type "type") = true) (vV : PySem.W.findCls X.K (.ref D) (.type "type") "__init__" = some (.val (.builtin "ValueError.__init__"))) (ha : PA X (e :: es) ta)
    (hdb : (x == ("__debug__" : Str)) = false := by decide)
    (hc : eval (.Call (.Attribute (.Name x p1) "__init__" p2) (e :: es) [] pos) X.env = (do
      let ov ← eval (.Name x p1) X.env
      standAt p2.atName
      let (f, first) ← holding [ov] (getMethod ov "__init__" pl)
      callWith pos f first (backTo pos (starEach (e :: es) X.env)) (backToKw pos (keywordEach [] X.env))) := by rfl)
    (he : starEach (e :: es) X.env = (false, eval e X.env) :: starEach es X.env := by rfl) (hpl : (backTo pos (starEach es X.env)).any (·.1) = false := by rfl) :
    PE X (.Call (.Attribute (.Name x p1) "__init__" p2) (e :: es) [] pos) (tVeI X.K ta) := by
  refine ⟨fun pins s σ H Q I h => ?_⟩
  refine PySem.W.methodCall_KW (ld_glob I hg hm ?_ hdb) hc
  refine PySem.W.method_cls I.kIn hga (PySem.W.cls_value I.kIn hrd vV rfl ?_)
  show wpAny _ _ (callWith pos (Value.builtin "ValueError.__init__") [] (backTo pos (starEach (e :: es) X.env)) []) _ _ _
  refine PyProof.Rows.callWith_method1 (thn (ha.run pos pins _ σ H _ (I.tok _) h) fun us s1 ⟨vs, H1, I1, r1, a, C, ws, ev, hl, T, ea, q⟩ => ?_) he hpl
  subst ev
  cases r1 with
  | @cons _ u0 _ ur ra rw' =>
    obtain rfl : u0 = Value.ref a := ra
    have hlen : ur.length ≤ sizeLine := by
      rw [← Paired.length rw', sizeLine_eq]
      omega
    exact oinit_ok T I1 ea hlen fun s' J => ⟨.non, H1, J, rfl, q⟩
/-- C(), C's own __init__ -/
theorem pmk_oex0 {CX : CXT} {x : Str} {C fI : Addr} {k : Nat} {fd : FuncData} {ps : List Str} {sp : Sp} {ds : List Value} {dvs : List V} {p pos : Pos} (T : OexC X.K C) (iC : PySem.W.findIn X.K (.ref C) "__init__" = some (some (.ref fI))) (tI : PySem.W.typeIn X.K (.ref fI) = some (.type "function"))
    (F1 : FnOk X.prog X.w X.K X.mg X.base CX k fI fd ps sp) (hr : Room (k + 1) X.A) (hb : Binds X.K fd ps ds) (hd : Vals dvs ds) (hx : Passes CX X (fun _ _ _ => False)) (hg : Gl X x) (hm : X.mg x = some (.ref C))
    (hdb : (x == ("__debug__" : Str)) = false := by decide) :
    PMk X (.Call (.Name x p) [] [] pos) (tMkO C sp dvs tNil) := by
  intro pins s σ H Q I h
  obtain ⟨nm, q, N, bs, bm, sn, sub, ab, col, dd, k0, k1, k2, k3, k5, hC, hbm⟩ := T.cls
  refine wpAny_Call_Name_kw (ld_glob I hg hm ?_ hdb)
  obtain ⟨hz, q1⟩ := h
  refine PySem.W.callWith_K0 I.kIn T.kC ?_
  show wpAny _ _ (call (.ref C) []) _ _ _
  obtain ⟨hp, g, dr, tk, os⟩ := s
  have hsz : hp.objs.size ≤ hp.objs.size + 1 := Nat.le_succ _
  have hn : H (hp.objs.size + 1) = none := I.hok.fresh hsz
  have hq := q1 (hp.objs.size + 1) hn
  have kk : ∀ b o, hp.get? b = some o → ((hp.push (PySem.W.kdv_tup [])).push (PySem.HandSPX.excO C hp.objs.size)).get? b = some o := fun b o e => Heap.get?_push_of_some _ (Heap.get?_push_of_some _ e)
  have hget : ((hp.push (PySem.W.kdv_tup [])).push (PySem.HandSPX.excO C hp.objs.size)).get? (hp.objs.size + 1) = some (PySem.HandSPX.excO C hp.objs.size) := by heap_get
  have I2 : Inv X pins σ (upd H (hp.objs.size + 1) (exo (hp.objs.size + 1) C none)) ⟨(hp.push (PySem.W.kdv_tup [])).push (PySem.HandSPX.excO C hp.objs.size), g, dr, tk, os⟩ :=
    I.laid (t' := tk) (a := hp.objs.size + 1) (o := exo (hp.objs.size + 1) C none) (h' := (hp.push (PySem.W.kdv_tup [])).push (PySem.HandSPX.excO C hp.objs.size)) kk hsz (exo_ok hget)
  have r2 : Vals (V.ref (hp.objs.size + 1) :: ([] ++ dvs)) (Value.ref (hp.objs.size + 1) :: ([] ++ ds)) := .cons rfl (Vals.append .nil hd)
  have hl : (Value.ref (hp.objs.size + 1) :: [] ++ ds).length = ps.length := by
    have e := r2.length
    rw [F1.len _ _ _ _ hq] at e
    exact e.symm
  refine wpAny_call (PySem.HandSPX.call_own F.excBase_ValueError (fun Y => PySem.HandSPX.refsVE_contains Y bm hbm) (I.kIn _ _ hC) (PySem.W.looks_findIn I.kIn iC) (fun self => PySem.W.bind_fn I.kIn self tI) (Nat.zero_le _)
    (codeAny_mono (F1.run _ X.stack _ _ ⟨Value.ref (hp.objs.size + 1) :: [], []⟩ (Value.ref (hp.objs.size + 1) :: ([] ++ ds)) _ _ (fun _ _ _ => False) (hr.make C [] []) (I2.env0.make C [] []) (show BindsTo _ _ _ (ps.zip (Value.ref (hp.objs.size + 1) :: ([] ++ ds))) from hb _ (Value.ref (hp.objs.size + 1) :: []) I2.kIn hl) r2 hq) fun r s' hq' => ?_))
  cases r with
  | error er => exact hx pins σ _ _ er s' I2 hq'
  | ok fl =>
    cases fl with
    | ret u =>
      obtain ⟨v, H2, os2, bare2, un2, hok2, rv, ev, d, fs, ea, ed, hd1, q2⟩ := hq'
      subst ev
      obtain ⟨h2, g2, d2, t2, os'⟩ := s'
      exact ⟨rv, mk_end (raises_own T.exC T.tyC) I hsz kk un2 hok2 os2 bare2 ea ed hd1 q2⟩
    | next => exact False.elim hq'
    | brk => exact False.elim hq'
    | cont => exact False.elim hq'
end
/-! ### own exceptions with one field -/
/-- what such an __init__(self, v) does -/
def spXi (K : PySem.W.Frag) (f : Str) : Sp := fun vs H Q _ => ∃ (a C : Addr) (v : V), vs = [.ref a, v] ∧ OexC K C ∧ PySem.W.findIn K (.ref C) f = some none ∧ H a = some (exo a C none) ∧ ∀ dx, H dx = none → dx ≠ a → Q .non (upd (upd H dx (exd dx [(f, v)])) a (exo a C (some dx)))
/-- an own exception class x, its __init__ puts one field f; dvs: what is told by default -/
structure Xcl (P : Program) (w : World) (K : PySem.W.Frag) (mg : Str → Option Value) (base : Heap) (x : Str) (C : Addr) (k : Nat) (f : Str) (dvs : List V) : Prop where
  T : OexC K C
  no : PySem.W.findIn K (.ref C) f = some none
  hm : mg x = some (.ref C)
  ex : ∃ (fI : Addr) (fd : FuncData) (ds : List Value) (ps : List Str), PySem.W.findIn K (.ref C) "__init__" = some (some (.ref fI)) ∧ PySem.W.typeIn K (.ref fI) = some (.type "function") ∧ FnOk P w K mg base CX0 k fI fd ps (spXi K f) ∧ Binds K fd ps ds ∧ Vals dvs ds
def tXmk (C : Addr) (f : Str) (dvs : List V) (ta : TA) : L2.St → Hp → XK → Prop := fun σ H Q => ta σ H fun vs H1 => ∃ v, vs ++ dvs = [v] ∧ ∀ d H2, H1 d = none → Same H1 H2 → H2 d = some (.xd [(f, v)]) → Q (.ref C) (some d) H2
theorem xi_end {K : PySem.W.Frag} {H1 : Hp} {C : Addr} {f : Str} {v : V} {Q : XK} (T : OexC K C) (no : PySem.W.findIn K (.ref C) f = some none) (h : ∀ d H2, H1 d = none → Same H1 H2 → H2 d = some (.xd [(f, v)]) → Q (.ref C) (some d) H2) (a : Addr) (na : H1 a = none) :
    spXi K f [.ref a, v] (upd H1 a (exo a C none)) (fun v H2 => v = .non ∧ ∃ (d : Addr) (fs : List (Str × V)), H2 a = some (exo a C (some d)) ∧ H2 d = some (exd d fs) ∧ H1 d = none ∧ Q (.ref C) (some d) (upd (del H2 a) d (.xd fs))) (fun _ _ _ => False) := by
  refine ⟨a, C, v, rfl, T, no, upd_same, fun dx n ne => ⟨rfl, dx, [(f, v)], upd_same, by rw [upd_ne ne, upd_same], by rw [upd_ne ne] at n; exact n, ?_⟩⟩
  rw [upd_ne ne] at n
  refine h dx _ n (fun c o e => ?_) upd_same
  have c1 := ne_of_none e n
  have c2 := ne_of_none e na
  rw [upd_ne c1, del_ne c2, upd_ne c2, upd_ne c1, upd_ne c2]
  exact e
section
variable {X : Cx}
theorem pmk_x {x f : Str} {C : Addr} {k : Nat} {dvs : List V} {e : Expr} {es : List Expr} {ta : TA} {p pos : Pos} (Z : Xcl X.prog X.w X.K X.mg X.base x C k f dvs) (hr : Room (k + 1) X.A) (hg : Gl X x) (ha : PA X (e :: es) ta) (mono : ∀ σ H (Q Q' : List V → Hp → Prop), (∀ vs H, Q vs H → Q' vs H) → ta σ H Q → ta σ H Q')
    (hdb : (x == ("__debug__" : Str)) = false := by decide) (he : starEach (e :: es) X.env = (false, eval e X.env) :: starEach es X.env := by rfl) (hpl : (backTo pos (starEach es X.env)).any (·.1) = false := by rfl) :
    PMk X (.Call (.Name x p) (e :: es) [] pos) (tXmk C f dvs ta) := by
  obtain ⟨fI, fd, ds, ps, iC, tI, F, hb, hd⟩ := Z.ex
  have M := pmk_oex (p := p) (pos := pos) Z.T iC tI F hr hb hd pass0 hg Z.hm ha hdb he hpl
  intro pins s σ H Q I h
  refine M pins s σ H Q I (mono _ _ _ _ (fun vs H1 ⟨v, ev, q⟩ => ⟨?_, fun a na => ?_⟩) h)
  · have := congrArg List.length ev
    simp only [List.length_append, List.length_cons, List.length_nil] at this
    omega
  · rw [ev]
    exact xi_end Z.T Z.no q a na
theorem pmk_x0 {x f : Str} {C : Addr} {k : Nat} {dvs : List V} {p pos : Pos} (Z : Xcl X.prog X.w X.K X.mg X.base x C k f dvs) (hr : Room (k + 1) X.A) (hg : Gl X x) (hdb : (x == ("__debug__" : Str)) = false := by decide) :
    PMk X (.Call (.Name x p) [] [] pos) (tXmk C f dvs tNil) := by
  obtain ⟨fI, fd, ds, ps, iC, tI, F, hb, hd⟩ := Z.ex
  have M := pmk_oex0 (p := p) (pos := pos) Z.T iC tI F hr hb hd pass0 hg Z.hm hdb
  intro pins s σ H Q I h
  obtain ⟨v, ev, q⟩ := h
  refine M pins s σ H Q I ⟨Nat.zero_le _, fun a na => ?_⟩
  rw [ev]
  exact xi_end Z.T Z.no q a na
/-- such an __init__ -/
theorem ok_xinit {P : Program} {w : World} {K : PySem.W.Frag} {mg : Str → Option Value} {base : Heap} {fI D : Addr} {fd : FuncData} {k : Nat} {qual x f par m : Str} {pa : Arguments} {sc : Scope} {dfl : List V} {kws : List (Str × V)} {j : Nat} {p1 p2 p3 p4 p5 p6 p7 p8 p9 p10 : Pos}
    (F : FunD K "__init__" qual pa [.Expr (.Call (.Attribute (.Name x p1) "__init__" p2) [.Name "self" p3, .Constant (.str m) j p4] [] p5) p6, .Assign [.Attribute (.Name "self" p7) f p8] (.Name par p9) p10] sc dfl kws fI fd) (S : FnScope ["self", par] ["self", par] sc)
    (hm : mg x = some (.ref D)) (hga : PySem.W.specialIn K (.ref D) "__getattribute__" = some (some (.builtin "type.__getattribute__"))) (hrd : PySem.W.readsIn K D (.type "type") = true) (vV : PySem.W.findCls K (.ref D) (.type "type") "__init__" = some (.val (.builtin "ValueError.__init__")))
    (hgl : sc.names.lookup x = some .globalImplicit) (v0 : Vis sc "self") (v1 : Vis sc par)
    (hc : ∀ (L g : Addr) (cd : Value), ∃ pl : Sem Bool, eval (.Call (.Attribute (.Name x p1) "__init__" p2) [.Name "self" p3, .Constant (.str m) j p4] [] p5) (envOfC qual sc L g cd) = (do
      let ov ← eval (.Name x p1) (envOfC qual sc L g cd)
      standAt p2.atName
      let (f, first) ← holding [ov] (getMethod ov "__init__" pl)
      callWith p5 f first (backTo p5 (starEach [.Name "self" p3, .Constant (.str m) j p4] (envOfC qual sc L g cd))) (backToKw p5 (keywordEach [] (envOfC qual sc L g cd)))))
    (hs : ∀ (L g : Addr) (cd : Value), swapsWith (.Name par p9) (some (.Attribute (.Name "self" p7) f p8)) p10.line (envOfC qual sc L g cd) = pure false)
    (hdb : (x == ("__debug__" : Str)) = false) (hd1 : (par == ("__debug__" : Str)) = false) (hcd1 : (par == ("__classdict__" : Str)) = false) : FnOk P w K mg base CX0 (k + 1) fI fd ["self", par] (spXi K f) := by
  refine F.ok S (fun vs H Q E ⟨a, C, v, e, _⟩ => by rw [e]; rfl) (fun cdv A outer s H vs Q E hr h => ?_)
  obtain ⟨pl, hc⟩ := hc s.heap.objs.size fI cdv
  refine ⟨_, pss_cons (ps_expr (pe_wrinit (D := D) (pl := pl) hgl hm hga hrd vV (pa_cons (pe_var (i := 0) rfl v0 (by decide) (by decide)) (pa_cons pe_str pa_nil)) hdb hc)) (pss_one (ps_ost (pe_var (i := 0) rfl v0 (by decide) (by decide)) (pe_var (i := 1) rfl v1 hd1 hcd1) (hs _ _ _))), ?_⟩
  obtain ⟨a, C, v, rfl, T, no, ha, q⟩ := h
  exact ⟨.ref a, rfl, a, C, [.str m], rfl, (by simp), T, ha, v, rfl, .ref a, rfl, a, C, rfl, T, no, .inl ⟨ha, q⟩⟩
end
end Bw

namespace Bw
open PySem PySem.Spec PyProof.Rows L2
/-! ### defs that may raise, as their callers want them -/
structure FnX (P : Program) (w : World) (K : PySem.W.Frag) (mg : Str → Option Value) (base : Heap) (x : Str) (k : Nat) (ps : List Str) (sp : Sp) : Prop where
  ex : ∃ (f : Addr) (fd : FuncData), FnOk P w K mg base (L2.CX P w) k f fd ps sp ∧ mg x = some (.ref f) ∧ PySem.W.keepIn K (.ref f) = true ∧ Binds K fd ps []
structure MeX (P : Program) (w : World) (K : PySem.W.Frag) (mg : Str → Option Value) (base : Heap) (C : Addr) (m : Str) (k : Nat) (ps : List Str) (sp : Sp) : Prop where
  ex : ∃ (f : Addr) (fd : FuncData), FnOk P w K mg base (L2.CX P w) k f fd ps sp ∧ Meth K C m f ∧ Binds K fd ps []
structure MkrX (P : Program) (w : World) (K : PySem.W.Frag) (mg : Str → Option Value) (base : Heap) (x : Str) (C : Addr) (k : Nat) (ps : List Str) (dvs : List V) (sp : Sp) : Prop where
  ex : ∃ (f : Addr) (fd : FuncData) (ds : List Value), Mk K C f ∧ FnOk P w K mg base (L2.CX P w) k f fd ps sp ∧ mg x = some (.ref C) ∧ Binds K fd ps ds ∧ Vals dvs ds
section
variable {X : Cx}
/-- what a callee lets out is let out -/
abbrev Lets (X : Cx) (E : XK) : Prop := Passes (L2.CX X.prog X.w) X E
theorem pe_fx {E : XK} {x : Str} {k : Nat} {ps : List Str} {sp : Sp} {e : Expr} {es : List Expr} {t : TA} {p pos : Pos} (F : FnX X.prog X.w X.K X.mg X.base x k ps sp) (hx : Lets X E) (hr : Room k X.A) (hg : Gl X x) (ha : PA X (e :: es) t)
    (hdb : (x == ("__debug__" : Str)) = false := by decide) (he : starEach (e :: es) X.env = (false, eval e X.env) :: starEach es X.env := by rfl) (hpl : (backTo pos (starEach es X.env)).any (·.1) = false := by rfl) :
    PE X (.Call (.Name x p) (e :: es) [] pos) (tCall sp [] E t) := by
  obtain ⟨f, fd, G, hm, hk, hb⟩ := F.ex
  exact pe_call G hr hg hm hk hb .nil hx ha hdb he hpl
theorem pe_mex {E : XK} {pl : Sem Bool} {C : Addr} {m : Str} {k : Nat} {ps : List Str} {sp : Sp} {o e : Expr} {es : List Expr} {t : TA} {ta : TE} {apos pos : Pos} (he : PE X o ta) (c : Cls X.K C) (M : MeX X.prog X.w X.K X.mg X.base C m k ps sp) (hx : Lets X E) (hr : Room k X.A) (ha : PA X (e :: es) t)
    (hst : starEach (e :: es) X.env = (false, eval e X.env) :: starEach es X.env := by rfl) (hpl : (backTo pos (starEach es X.env)).any (·.1) = false := by rfl)
    (ht : eval (.Call (.Attribute o m apos) (e :: es) [] pos) X.env = (do
      let ov ← eval o X.env
      standAt apos.atName
      let (f, first) ← holding [ov] (getMethod ov m pl)
      callWith pos f first (backTo pos (starEach (e :: es) X.env)) (backToKw pos (keywordEach [] X.env))) := by rfl) :
    PE X (.Call (.Attribute o m apos) (e :: es) [] pos) (tMeth C m sp [] E ta t) := by
  obtain ⟨f, fd, G, hm, hb⟩ := M.ex
  exact pe_meth he c hm G hr hb .nil hx ha hst hpl ht
theorem pe_mex0 {E : XK} {pl : Sem Bool} {C : Addr} {m : Str} {k : Nat} {ps : List Str} {sp : Sp} {o : Expr} {ta : TE} {apos pos : Pos} (he : PE X o ta) (c : Cls X.K C) (M : MeX X.prog X.w X.K X.mg X.base C m k ps sp) (hx : Lets X E) (hr : Room k X.A)
    (ht : eval (.Call (.Attribute o m apos) [] [] pos) X.env = (do
      let ov ← eval o X.env
      standAt apos.atName
      let (f, first) ← holding [ov] (getMethod ov m pl)
      callWith pos f first (backTo pos (starEach [] X.env)) (backToKw pos (keywordEach [] X.env))) := by rfl) :
    PE X (.Call (.Attribute o m apos) [] [] pos) (tMeth C m sp [] E ta tNil) := by
  obtain ⟨f, fd, G, hm, hb⟩ := M.ex
  exact pe_meth0 he c hm G hr hb .nil hx ht
theorem pe_mkx {E : XK} {x : Str} {C : Addr} {k : Nat} {ps : List Str} {dvs : List V} {sp : Sp} {e : Expr} {es : List Expr} {t : TA} {p pos : Pos} (M : MkrX X.prog X.w X.K X.mg X.base x C k ps dvs sp) (hx : Lets X E) (hr : Room (k + 1) X.A) (hg : Gl X x) (ha : PA X (e :: es) t)
    (hdb : (x == ("__debug__" : Str)) = false := by decide) (he : starEach (e :: es) X.env = (false, eval e X.env) :: starEach es X.env := by rfl) (hpl : (backTo pos (starEach es X.env)).any (·.1) = false := by rfl) :
    PE X (.Call (.Name x p) (e :: es) [] pos) (tMake C sp dvs E t) := by
  obtain ⟨f, fd, ds, M, G, hm, hb, hd⟩ := M.ex
  exact pe_make M G hr hg hm hb hd hx ha hdb he hpl
theorem pe_gcls {x : Str} {C : Addr} {p : Pos} (h : X.mg x = some (.ref C)) (hg : Gl X x) (hd : (x == ("__debug__" : Str)) = false := by decide) : PE X (.Name x p) (tC (.ref C)) := pe_glob (v := .ref C) hg h rfl hd
/-- X(), X an own exception class without own __init__ that stands above ValueError -/
structure XpV (K : PySem.W.Frag) (C : Addr) : Prop where
  q : PySem.W.excIn K C PySem.HandSPX.veTail "ValueError.__new__" = true
  kp : PySem.W.keepIn K (.ref C) = true
  h1 : PySem.W.subIn K (.ref C) (.type "BaseException") = some true
  h2 : PySem.W.typeIn K (.ref C) = some (.type "type")
theorem pmk_ownV {C : Addr} {x : Str} {p pos : Pos} (h : XpV X.K C) (gC : X.mg x = some (.ref C)) (hg : Gl X x) (hdb : (x == ("__debug__" : Str)) = false := by decide) : PMk X (.Call (.Name x p) [] [] pos) (fun _ H Q => Q (.ref C) none H) :=
  pmk_own0 F.excBase_ValueError h.q gC h.kp (raises_own h.h1 h.h2) hg hdb
theorem huH {k : Nat} {A : Around} (r : L2H.RoomH k A) : A.units + 65 < cLine := by have := r.un; omega
theorem lets0 : Lets X E0 := passL
theorem lets_of {E : XK} (tk : Takes X (fun cls d _ H => E cls d H)) : Lets X E := passes_call tk fun _ _ _ _ h => h
end
/-- a def's own wish -/
theorem takesX {P : Program} {w : World} {K : PySem.W.Frag} {mg : Str → Option Value} {base : Heap} {N : List Str} {qual : Str} {scope : Scope} {f : Addr} {cdv : Value} {A : Around} {outer : List Env} {s : Shared} {H : Hp} {E : XK} :
    Takes (cxOf (L2.CX P w) P w K mg base N qual scope f cdv A outer s H E) (fun cls d _ H => E cls d H) := takes_of rfl rfl rfl rfl
theorem takesLam {X : Cx} {A : Around} {outer : List Env} {s : Shared} {H : Hp} {E : XK} {scope : Scope} {f c' : Addr} : Takes (LamX.lamCx X A outer s H E scope f c') (fun cls d _ H => E cls d H) := takes_of rfl rfl rfl rfl
/-- what is never reached -/
theorem pss_no {X : Cx} {b : List Stmt} : PSs X b (fun _ _ _ => False) := ⟨fun _ _ _ _ _ _ h => h.elim⟩
/-! ### l.count(x) -/
section
variable {X : Cx}
def rCountD (K : PySem.W.Frag) : V → List V → Hp → VK → Prop := fun x xs H Q => ∃ (a : Addr) (y : V) (d : PyData) (ds : List PyData), x = V.ref a ∧ xs = [y] ∧ Dp K H (V.ref a) (.list ds) ∧ Dp K H y d ∧
  SeqAt.shaped (.list ds) = true ∧ SeqAt.shaped d = true ∧ Q (.int ((ds.countP fun z => PyData.eqv z d : Nat) : Int)) H
theorem mt_countD (hu : X.A.units + 65 < cLine) : MtR X "list.count" (rCountD X.K) := by
  intro pins s σ H x xs v us Q I rx rxs h
  obtain ⟨a, y, d, ds, rfl, rfl, hl, hy, sl, sd, q⟩ := h
  cases rx
  cases rxs with
  | cons ry rt =>
    rename_i uy ut
    cases rt
    obtain ⟨bs, r1⟩ := Dp.reads I d y uy hy ry
    have hroom : X.A.units + 1 + min (PyData.depthAll ds) d.depth < cLine := room_in_shaped sd hu
    have cl : PyData.canLayAll0 ds = true := SeqAt.canLay_of_shaped sl
    cases hl with
    | lst hs ha =>
      obtain ⟨its, rv, ⟨⟨cls, dd, data, sls⟩, n, ho, hc, hdn, hdt⟩, hlen⟩ := I.list hs
      simp only at hc hdt
      subst hc hdt
      obtain ⟨as, h4⟩ := Dp.readsAll I ds _ its ha rv
      have hmap : its.map (SeqAt.readOf s.heap) = ds := SeqAt.readsAll_map ds its as cl h4
      have ec : (ds.countP fun z => PyData.eqv z d) = its.toArray.toList.countP (fun u => PyData.eqv (SeqAt.readOf s.heap u) d) := by
        rw [← hmap, List.countP_map]
        rfl
      rw [ec] at q
      exact call_meets PySem.F.slot_list_count ⟨_, ho, rfl⟩ PySem.F.entry_list_count (PySem.F.args_list_count_2 _ _) (SeqAt.list_countAt a its.toArray n dd sls uy (fun u => PyData.eqv (SeqAt.readOf s.heap u) d))
        ⟨ho, SeqAt.items_eqAt (vs := its.toArray) (show ReadsAll s.heap its.toArray.toList ds as from h4) r1 cl (SeqAt.canLay_of_shaped sd) hroom, ⟨.int _, H, I.tok _, ⟨_, rfl⟩, q⟩⟩
end
/-! ### the caught exception within an except suite and the defs that are called there -/
/-- its dict, where it has one, is known -/
def XdOk (d : Option Addr) (H : Hp) : Prop := ∀ dd, d = some dd → ∃ fs, H dd = some (.xd fs)
section
variable {X : Cx}
theorem inst_pin {pins : List (Addr × Obj)} {σ : L2.St} {H : Hp} {s : Shared} {a D : Addr} {d : Option Addr} {oe : Obj} (I : Inv X pins σ H s) (hp : (a, oe) ∈ X.pn) (hz : Zc (.ref D) d oe) (hf : ∃ vs, oe.data = .fields vs) (hd : XdOk d H) : ∃ od, PySem.W.InstAt s.heap a oe D od := by
  obtain ⟨hget, _⟩ := I.pin (a, oe) (List.mem_append.mpr (.inl hp))
  obtain ⟨vs, hv⟩ := hf
  obtain ⟨z1, z2⟩ := hz
  have nc : PySem.W.notCls oe = true := by unfold PySem.W.notCls; rw [hv] <;> rfl
  cases d with
  | none => exact ⟨none, hget, z1, nc, by rw [z2]; trivial⟩
  | some dd =>
    obtain ⟨fs, e⟩ := hd dd rfl
    have hx : ObjOk X.prog X.w H s.heap dd (.xd fs) := I.hok dd _ e
    obtain ⟨mA, hns, hr⟩ := hx
    obtain ⟨od, ho, hl⟩ := lookIn_ns hns
    exact ⟨some od, hget, z1, nc, by rw [z2]; exact ho⟩
/-- isinstance(e, C) -/
def rIsP (K : PySem.W.Frag) (a : Addr) (cls : Value) (d : Option Addr) : List V → Hp → VK → Prop := fun xs H Q => ∃ (D : Addr) (c : V) (cv : Value) (b : Bool), cls = .ref D ∧ ExcC K D ∧ xs = [.ref a, c] ∧ ClsV c cv ∧ PySem.W.kitOne K (.ref D) cv = some b ∧ XdOk d H ∧ Q (.bl b) H
theorem kit_pin {a D : Addr} {oe : Obj} {od : Option Obj} (C : ExcC X.K D) : PySem.W.KitX X.K (.ref a) (.ref D) (fun h => PySem.W.InstAt h a oe D od) :=
  PySem.W.kitx_exc (by obtain ⟨cd, hc, _⟩ := PySem.W.any_some C.hd; rw [hc]; rfl) C.hg C.hk C.hs C.ha C.hn C.ht C.hm
theorem call_isP {a : Addr} {cls : Value} {d : Option Addr} {oe : Obj} (hp : (a, oe) ∈ X.pn) (hz : Zc cls d oe) (hf : ∃ vs, oe.data = .fields vs) : CallR X (.builtin "isinstance") (rIsP X.K a cls d) := by
  intro pins s σ H xs us Q I r h
  obtain ⟨D, c, cv, b, rfl, C, rfl, hcv, e, hx, q⟩ := h
  obtain ⟨od, J⟩ := inst_pin I hp hz hf hx
  obtain ⟨u1, u2, rfl, r1, r2⟩ := vals2 r
  cases (show u1 = Value.ref a from r1)
  have ec := hcv.eq r2
  subst ec
  exact PySem.W.kia_one (kit_pin C) I.kIn J e (fun z => nomatch z) fun tk => ⟨.bl b, H, I.tok tk, rfl, q⟩
/-- isinstance(e, (C1, C2, ..)) -/
def rIsPT (K : PySem.W.Frag) (a : Addr) (cls : Value) (d : Option Addr) : List V → Hp → VK → Prop := fun xs H Q => ∃ (D tp : Addr) (cs : List V) (us : List Value) (b : Bool), cls = .ref D ∧ ExcC K D ∧ xs = [.ref a, .ref tp] ∧ H tp = some (.tup cs) ∧ Paired ClsV cs us ∧ PySem.W.kitAny K (.ref D) us = some b ∧ XdOk d H ∧ Q (.bl b) H
theorem call_isPT {a : Addr} {cls : Value} {d : Option Addr} {oe : Obj} (hp : (a, oe) ∈ X.pn) (hz : Zc cls d oe) (hf : ∃ vs, oe.data = .fields vs) : CallR X (.builtin "isinstance") (rIsPT X.K a cls d) := by
  intro pins s σ H xs us Q I r h
  obtain ⟨D, tp, cs, ws, b, rfl, C, rfl, hT, k, e, hx, q⟩ := h
  obtain ⟨od, J⟩ := inst_pin I hp hz hf hx
  obtain ⟨u1, u2, rfl, r1, r2⟩ := vals2 r
  cases (show u1 = Value.ref a from r1)
  cases (show u2 = Value.ref tp from r2)
  obtain ⟨_, its, rv, o, h1, h2, n, h3⟩ := (show ObjOk X.prog X.w H s.heap tp (.tup cs) from I.hok tp _ hT)
  have e3 := ClsV.all k rv
  subst e3
  obtain ⟨oc, od', dt, sl⟩ := o
  simp only at h2 h3
  subst h2 h3
  exact PySem.W.kia_tup (kit_pin C) I.kIn J h1 e (fun z => nomatch z) fun tk => ⟨.bl b, H, I.tok tk, rfl, q⟩
/-- e.f -/
def tXfc (K : PySem.W.Frag) (a : Addr) (cls : Value) (d : Option Addr) (f : Str) (te : TE) : TE := fun σ H Q => te σ H fun x H1 => ∃ (D dd : Addr) (fs : List (Str × V)) (v : V), x = .ref a ∧ cls = .ref D ∧ ExcC K D ∧ PySem.W.findIn K (.ref D) f = some none ∧ d = some dd ∧ H1 dd = some (.xd fs) ∧ fs.lookup f = some v ∧ Q v H1
theorem pe_xfc {a : Addr} {oe : Obj} {cls : Value} {d : Option Addr} {e : Expr} {te : TE} {pos : Pos} {n : Str} (hp : (a, oe) ∈ X.pn) (hz : Zc cls d oe) (hf : ∃ vs, oe.data = .fields vs) (he : PE X e te) (hb : attributeBase e n X.env (eval e X.env) = eval e X.env := by rfl) :
    PE X (.Attribute e n pos) (tXfc X.K a cls d n te) := by
  refine ⟨fun pins s σ H Q I h => ?_⟩
  refine attr_of hb (thn (he.run pins s σ H _ I h) fun u s1 hh => ?_)
  obtain ⟨x, H1, I1, rx, D, dd, fs, v, ex, ec, C, no, ed, ea, l, q⟩ := hh
  subst ex ec ed
  cases (show u = Value.ref a from rx)
  obtain ⟨ha, _⟩ := I1.pin (a, oe) (List.mem_append_left _ hp)
  obtain ⟨vs, hd⟩ := hf
  obtain ⟨mA, hns, hr⟩ := (show ObjOk X.prog X.w H1 s1.heap dd (.xd fs) from I1.hok dd _ ea)
  obtain ⟨od, ho, hl⟩ := lookIn_ns hns
  obtain ⟨u, hu, ru⟩ := RelO.some_of (v := v) (o := mA n) (by rw [← l]; exact hr n)
  have J : PySem.W.InstAt s1.heap a oe D (some od) := ⟨ha, hz.1, by unfold PySem.W.notCls; rw [hd] <;> rfl, by rw [hz.2]; exact ho⟩
  exact HandSPX.exc_get I1.kIn J C.hg C.hk C.hs (PySem.W.findObj_own C.hd no rfl (by rw [hl, hu])) (handed_of ru) ⟨v, H1, I1.tok _, ru, q⟩
end
/-! ### a def that is called with the caught exception -/
abbrev SpP := Addr × Obj → List V → Hp → VK → Prop
structure FnP0 (P : Program) (w : World) (K : PySem.W.Frag) (mg : Str → Option Value) (base : Heap) (k : Nat) (f : Addr) (fd : FuncData) (ps : List Str) (sp : SpP) : Prop where
  len : ∀ p vs H Q, sp p vs H Q → vs.length = ps.length
  run : ∀ (A : Around) (outer : List Env) (s : Shared) (H : Hp) (args : Args) (us : List Value) (vs : List V) (Q : VK) (p : Addr × Obj), L2H.RoomH k A → L2H.PinOk outer H s p → Env0 P w K mg base A outer s H → BindsTo s fd args (ps.zip us) → Vals vs us → sp p vs H Q →
    codeAny (model P w) A (.call (.ref f) args) (CR CX0 outer P w H s Q E0) s
theorem Fun.okP {P : Program} {w : World} {K : PySem.W.Frag} {mg : Str → Option Value} {base : Heap} {x qual : Str} {st : Stmt} {f : Addr} {fd : FuncData} {N ps : List Str} {k : Nat} {sp : SpP} (F : Fun K x qual st f fd) (S : FnScope N ps (defScope st)) (len : ∀ p vs H Q, sp p vs H Q → vs.length = ps.length)
    (hbody : ∀ (cdv : Value) (A : Around) (outer : List Env) (s : Shared) (H : Hp) (vs : List V) (Q : VK) (p : Addr × Obj), L2H.RoomH k (A.deeper (envOfC qual (defScope st) s.heap.objs.size f cdv)) → sp p vs H Q →
      ∃ t, PSs (L2H.cxH CX0 P w K mg base N qual (defScope st) f cdv A outer s H E0 p).nox (defBody st) t ∧ t { nx := fun _ H' => Q .non H', rt := Q } (L2.start N vs) H) : FnP0 P w K mg base (k + 1) f fd ps sp := by
  obtain ⟨oc, od, kV, doc, pm, an, cdv, ct, osl, rfl, lk, hcd⟩ := F.ex
  refine ⟨len, fun A outer s H args us vs Q p hr hpin e0 hb r hsp => ?_⟩
  have hl := len _ _ _ _ hsp
  have KX : K.In s.heap := e0.mod.kin.keeps fun b o e => (e0.bs b o e).1
  refine codeAny_call_function hr.depth (KX _ _ lk) rfl S.co S.gen rfl (PySem.W.codeRec_of KX hcd) (hb _ _ _ _ ?_)
  have hkind : ∀ y ∈ ps.zip us, (defScope st).names.lookup y.1 = some .local ∨ ((defScope st).names.lookup y.1 = some .cell ∧ ((cellsFrom (s.heap.objs.size + 1) (defScope st).names []).lookup y.1).isSome = true) := by
    intro y hy
    obtain ⟨n, v⟩ := y
    exact (S.par n (List.of_mem_zip hy).1).imp id fun q => ⟨q, PySem.W.cellsFrom_some _ _ _ (.inl q)⟩
  refine wpAny_newFunctionEnv_cells S.kind hkind fun env he s1 x => ?_
  subst he
  refine ⟨(e0.mod.nolimit.keeps fun b o e => (e0.bs b o e).1).keeps x.toInCall.keep, codeAny_func ?_⟩
  obtain ⟨t, ht, hq⟩ := hbody cdv A outer s H vs Q p (hr.deeper _) hsp
  refine wpAny_mono (ht.nox.run [] s1 (L2.start N vs) H _ (L2H.inv_startH S hpin e0 hl r x) hq) (fun fl s' hs => ?_) fun e s' hs => hs
  have fin : ∀ {σ' : L2.St} {H' : Hp} {v : V} {u : Value}, Inv (L2H.cxH CX0 P w K mg base N qual (defScope st) f cdv A outer s H E0 p) [] σ' H' s' → RelV v u → Q v H' → CE outer P w H s Q u s' :=
    fun {σ' H' v u} J rv q => ⟨v, H', J.os, J.bare, J.base, J.hok, rv, q⟩
  match fl, hs with
  | .ret u, ⟨v, σ', H', J, rv, q⟩ => exact fin J rv q
  | .next, ⟨σ', H', J, q⟩ => exact fin (v := V.non) (u := Value.none) J rfl q
  | .brk, ⟨_, _, _, q⟩ => exact q.elim
  | .cont, ⟨_, _, _, q⟩ => exact q.elim
structure FnP (P : Program) (w : World) (K : PySem.W.Frag) (mg : Str → Option Value) (base : Heap) (x : Str) (k : Nat) (ps : List Str) (sp : SpP) : Prop where
  ex : ∃ (f : Addr) (fd : FuncData), FnP0 P w K mg base k f fd ps sp ∧ mg x = some (.ref f) ∧ PySem.W.keepIn K (.ref f) = true ∧ Binds K fd ps []
def tCallP (sp : SpP) (a : Addr) (cls : Value) (d : Option Addr) (t : TA) : TE := fun σ H Q => t σ H fun vs H1 => ∀ oe : Obj, Zc cls d oe → (∃ vs, oe.data = .fields vs) → sp (a, oe) vs H1 Q
theorem pe_fp {X : Cx} {x : Str} {k : Nat} {ps : List Str} {sp : SpP} {e : Expr} {es : List Expr} {t : TA} {q pos : Pos} {a : Addr} {oe : Obj} {cls : Value} {d : Option Addr} (F : FnP X.prog X.w X.K X.mg X.base x k ps sp) (hp : (a, oe) ∈ X.pn) (hz : Zc cls d oe) (hf : ∃ vs, oe.data = .fields vs) (hr : L2H.RoomH k X.A) (hg : Gl X x) (ha : PA X (e :: es) t)
    (hdb : (x == ("__debug__" : Str)) = false := by decide) (he : starEach (e :: es) X.env = (false, eval e X.env) :: starEach es X.env := by rfl) (hpl : (backTo pos (starEach es X.env)).any (·.1) = false := by rfl) :
    PE X (.Call (.Name x q) (e :: es) [] pos) (tCallP sp a cls d t) := by
  obtain ⟨f, fd, G, hm, hk, hb⟩ := F.ex
  refine ⟨fun pins s σ H Q I h => ?_⟩
  refine wpAny_Call_Name_kw (ld_glob I hg hm ?_ hdb)
  refine PySem.W.callWith_K (h₀ := X.base) I.ok.mod.kin hk (thn (ha.run pos pins s σ H _ I h) fun us s1 ⟨vs, H1, I1, r, q⟩ => ⟨I1.kIn, ?_⟩) he hpl
  have q := q oe hz hf
  have hl : us.length = ps.length := by rw [← r.length]; exact G.len _ _ _ _ q
  have b := hb s1 us I1.kIn (by rw [List.append_nil]; exact hl)
  rw [List.append_nil] at b
  have P1 := I1.pin (a, oe) (List.mem_append_left _ hp)
  have hpin : L2H.PinOk X.stack H1 s1 (a, oe) := ⟨P1.1, P1.2.1, fun hm => (List.mem_cons.mp (I1.stkSub a hm)).elim P1.2.2.1 P1.2.2.2.1, P1.2.2.2.2⟩
  show wpAny _ _ (call (.ref f) us) _ _ _
  refine wpAny_call (codeAny_mono (G.run X.A X.stack s1 H1 ⟨us, []⟩ us vs Q (a, oe) hr hpin I1.env0 b r q) fun r s' hq => ?_)
  match r, hq with
  | .error e, hq => exact False.elim hq
  | .ok (.ret u), hq => exact I1.after hq
  | .ok .next, hq => exact False.elim hq
  | .ok .brk, hq => exact False.elim hq
  | .ok .cont, hq => exact False.elim hq
theorem roomH_mark {k : Nat} {A : Around} {v : Option Value} (r : L2.Room k A) : L2H.RoomH k (A.mark v) := ⟨r.dp, r.un⟩
end Bw

namespace Bw
open PySem PySem.Spec PyProof.Rows L2
/-! ### the classes of the errors; what is told of one -/
structure Zs where
  (Wrong NoWord NoText NoNumber NoSize NoLengths NoQuery NoCode NoRow NoEntries NoQueryText NoPages NoName NoQueries NoShelf NoDeed Taken NoPlace NoSlot : Addr)
def Zs.sixteen (Z : Zs) : List Addr := [Z.NoCode, Z.NoDeed, Z.NoEntries, Z.NoLengths, Z.NoName, Z.NoNumber, Z.NoPages, Z.NoQueries, Z.NoQuery, Z.NoQueryText, Z.NoRow, Z.NoShelf, Z.NoSize, Z.NoText, Z.NoWord, Z.Taken]
def kindNames : List Str := ["code", "deed", "entries", "lengths", "name", "number", "pages", "queries", "query", "text of query", "row", "shelf", "size", "text", "word", "taken"]
def Zs.five (Z : Zs) : List Value := [.ref Z.NoCode, .ref Z.NoEntries, .ref Z.NoPages, .ref Z.NoQueryText, .ref Z.NoRow]
def excB (K : PySem.W.Frag) (D : Addr) : Bool :=
  decide (PySem.W.findIn K (.ref D) "__getattribute__" = some (some (.builtin "BaseException.__getattribute__"))) && (decide (PySem.W.findIn K (.ref D) "__getattr__" = some none) && (decide (PySem.W.subIn K (.ref D) (.type "BaseException") = some true) && (PySem.W.hasDictIn K D && (
  decide (PySem.W.findIn K (.ref D) "__class__" = some (some (.builtin "object.__class__"))) && (decide (PySem.W.specialIn K (.builtin "object.__class__") "__get__" = some (some (.builtin "getset_descriptor.__get__"))) && (decide (PySem.W.takesIn K (.builtin "object.__class__") = some true) && decide (PySem.W.mroIn K D (.type "object") = some true)))))))
theorem excB_ok {K : PySem.W.Frag} {D : Addr} (h : excB K D = true) : ExcC K D := by
  unfold excB at h
  simp only [Bool.and_eq_true, decide_eq_true_eq] at h
  obtain ⟨h1, h2, h3, h4, h5, h6, h7, h8⟩ := h
  exact ⟨h1, h2, h3, h4, h5, h6, h7, h8⟩
/-- one of the sixteen, and which -/
def kindB (K : PySem.W.Frag) (Z : Zs) (D : Addr) (i : Nat) : Bool :=
  excB K D && ((Z.sixteen.zipIdx.all fun x => decide (PySem.W.kitOne K (.ref D) (.ref x.1) = some (decide (x.2 = i)))) && (decide (PySem.W.kitOne K (.ref D) (.type "ValueError") = some true) && decide (PySem.W.kitAny K (.ref D) [.ref Z.NoPlace, .ref Z.NoSlot] = some false)))
structure KindOk (K : PySem.W.Frag) (Z : Zs) (D : Addr) (i : Nat) : Prop where
  ex : ExcC K D
  is : ∀ (j : Nat) (C : Addr), Z.sixteen[j]? = some C → PySem.W.kitOne K (.ref D) (.ref C) = some (decide (j = i))
  ve : PySem.W.kitOne K (.ref D) (.type "ValueError") = some true
  ix : PySem.W.kitAny K (.ref D) [.ref Z.NoPlace, .ref Z.NoSlot] = some false
theorem kindB_ok {K : PySem.W.Frag} {Z : Zs} {D : Addr} {i : Nat} (h : kindB K Z D i = true) : KindOk K Z D i := by
  unfold kindB at h
  simp only [Bool.and_eq_true, decide_eq_true_eq, List.all_eq_true] at h
  obtain ⟨h1, h2, h3, h4⟩ := h
  refine ⟨excB_ok h1, fun j C e => ?_, h3, h4⟩
  exact h2 (C, j) (by
    rw [List.mem_iff_getElem?]
    exact ⟨j, by simp [List.getElem?_zipIdx, e]⟩)
/-- by the first clause: with its place -/
def howAtB (K : PySem.W.Frag) (Z : Zs) (D : Addr) (i : Nat) : Bool := kindB K Z D i && (decide (PySem.W.findIn K (.ref D) "at" = some none) && decide (PySem.W.exmAny K (.ref D) Z.five = some true))
structure HowAt (K : PySem.W.Frag) (Z : Zs) (D : Addr) (i : Nat) : Prop where
  k : KindOk K Z D i
  no : PySem.W.findIn K (.ref D) "at" = some none
  c1 : PySem.W.exmAny K (.ref D) Z.five = some true
theorem howAtB_ok {K : PySem.W.Frag} {Z : Zs} {D : Addr} {i : Nat} (h : howAtB K Z D i = true) : HowAt K Z D i := by
  unfold howAtB at h
  simp only [Bool.and_eq_true, decide_eq_true_eq] at h
  exact ⟨kindB_ok h.1, h.2.1, h.2.2⟩
/-- by the second clause -/
def howPlB (K : PySem.W.Frag) (Z : Zs) (D : Addr) (i : Nat) : Bool := kindB K Z D i && (decide (PySem.W.exmAny K (.ref D) Z.five = some false) && decide (PySem.W.exmAny K (.ref D) [.ref Z.Wrong] = some true))
structure HowPl (K : PySem.W.Frag) (Z : Zs) (D : Addr) (i : Nat) : Prop where
  k : KindOk K Z D i
  c1 : PySem.W.exmAny K (.ref D) Z.five = some false
  c2 : PySem.W.exmAny K (.ref D) [.ref Z.Wrong] = some true
theorem howPlB_ok {K : PySem.W.Frag} {Z : Zs} {D : Addr} {i : Nat} (h : howPlB K Z D i = true) : HowPl K Z D i := by
  unfold howPlB at h
  simp only [Bool.and_eq_true, decide_eq_true_eq] at h
  exact ⟨kindB_ok h.1, h.2.1, h.2.2⟩
/-- by the third clause: no place (b), no slot (not b) -/
def howIxB (K : PySem.W.Frag) (Z : Zs) (D : Addr) (b : Bool) : Bool := excB K D && (decide (PySem.W.exmAny K (.ref D) Z.five = some false) && (decide (PySem.W.exmAny K (.ref D) [.ref Z.Wrong] = some false) && (decide (PySem.W.exmAny K (.ref D) [.ref Z.NoPlace, .ref Z.NoSlot] = some true) &&
  (decide (PySem.W.kitOne K (.ref D) (.type "IndexError") = some true) && (decide (PySem.W.kitOne K (.ref D) (.ref Z.NoPlace) = some b) && decide (PySem.W.kitOne K (.ref D) (.ref Z.NoSlot) = some (!b)))))))
structure HowIx (K : PySem.W.Frag) (Z : Zs) (D : Addr) (b : Bool) : Prop where
  ex : ExcC K D
  c1 : PySem.W.exmAny K (.ref D) Z.five = some false
  c2 : PySem.W.exmAny K (.ref D) [.ref Z.Wrong] = some false
  c3 : PySem.W.exmAny K (.ref D) [.ref Z.NoPlace, .ref Z.NoSlot] = some true
  ie : PySem.W.kitOne K (.ref D) (.type "IndexError") = some true
  np : PySem.W.kitOne K (.ref D) (.ref Z.NoPlace) = some b
  ns : PySem.W.kitOne K (.ref D) (.ref Z.NoSlot) = some (!b)
theorem howIxB_ok {K : PySem.W.Frag} {Z : Zs} {D : Addr} {b : Bool} (h : howIxB K Z D b = true) : HowIx K Z D b := by
  unfold howIxB at h
  simp only [Bool.and_eq_true, decide_eq_true_eq] at h
  obtain ⟨h1, h2, h3, h4, h5, h6, h7⟩ := h
  exact ⟨excB_ok h1, h2, h3, h4, h5, h6, h7⟩
/-! ### what the teller of the kind promises -/
def spKind (K : PySem.W.Frag) (Z : Zs) : SpP := fun p vs H Q => ∃ (D : Addr) (d : Option Addr) (i : Nat) (nm : Str), vs = [.ref p.1] ∧ Zc (.ref D) d p.2 ∧ (∃ vs, p.2.data = .fields vs) ∧ KindOk K Z D i ∧ XdOk d H ∧ kindNames[i]? = some nm ∧ ∀ H', Same H H' → Q (.str nm) H'
/-- what the asker makes of a raised one -/
def howE (K : PySem.W.Frag) (Z : Zs) (Q : VK) : XK := fun cls d H => ∃ D : Addr, cls = .ref D ∧
  ((∃ (i : Nat) (nm : Str), HowPl K Z D i ∧ kindNames[i]? = some nm ∧ XdOk d H ∧ ∀ H', Same H H' → Q (.str nm) H') ∨
   (∃ (i : Nat) (nm : Str) (dd : Addr) (v : V) (tv : String), HowAt K Z D i ∧ kindNames[i]? = some nm ∧ d = some dd ∧ H dd = some (.xd [("at", v)]) ∧ TyX K H v (.type tv) ∧ kitB tv "bool" = some false ∧ ∀ p H', H p = none → Same H H' → H' p = some (.tup [.str nm, v]) → Q (.ref p) H') ∨
   (∃ b : Bool, HowIx K Z D b ∧ XdOk d H ∧ ∀ H', Same H H' → Q (.str (if b then "no place" else "no slot")) H'))
def TTHow (K : PySem.W.Frag) (Z : Zs) : (XK → Hp → VK → Prop) → Hp → VK → Prop := fun tl H Q => tl (howE K Z Q) H (fun _ H' => Q (.str "told") H')
theorem cnt16 {i : Nat} (h : i < 16) : ((([decide (0 = i), decide (1 = i), decide (2 = i), decide (3 = i), decide (4 = i), decide (5 = i), decide (6 = i), decide (7 = i), decide (8 = i), decide (9 = i), decide (10 = i), decide (11 = i), decide (12 = i), decide (13 = i), decide (14 = i), decide (15 = i)] : List Bool).count true : Nat) : Int) = 1 := by
  have : ∀ i, i < 16 → ((([decide (0 = i), decide (1 = i), decide (2 = i), decide (3 = i), decide (4 = i), decide (5 = i), decide (6 = i), decide (7 = i), decide (8 = i), decide (9 = i), decide (10 = i), decide (11 = i), decide (12 = i), decide (13 = i), decide (14 = i), decide (15 = i)] : List Bool).count true : Nat) : Int) = 1 := by decide
  exact this i h
theorem idx16 {i : Nat} (h : i < 16) : ([decide (0 = i), decide (1 = i), decide (2 = i), decide (3 = i), decide (4 = i), decide (5 = i), decide (6 = i), decide (7 = i), decide (8 = i), decide (9 = i), decide (10 = i), decide (11 = i), decide (12 = i), decide (13 = i), decide (14 = i), decide (15 = i)] : List Bool)[i]? = some true := by
  have : ∀ i, i < 16 → ([decide (0 = i), decide (1 = i), decide (2 = i), decide (3 = i), decide (4 = i), decide (5 = i), decide (6 = i), decide (7 = i), decide (8 = i), decide (9 = i), decide (10 = i), decide (11 = i), decide (12 = i), decide (13 = i), decide (14 = i), decide (15 = i)] : List Bool)[i]? = some true := by decide
  exact this i h
theorem bef16 {i : Nat} (h : i < 16) (m : Nat) (hm : m < i) : ([decide (0 = i), decide (1 = i), decide (2 = i), decide (3 = i), decide (4 = i), decide (5 = i), decide (6 = i), decide (7 = i), decide (8 = i), decide (9 = i), decide (10 = i), decide (11 = i), decide (12 = i), decide (13 = i), decide (14 = i), decide (15 = i)] : List Bool)[m]? ≠ some true := by
  have : ∀ i, i < 16 → ∀ m, m < i → ([decide (0 = i), decide (1 = i), decide (2 = i), decide (3 = i), decide (4 = i), decide (5 = i), decide (6 = i), decide (7 = i), decide (8 = i), decide (9 = i), decide (10 = i), decide (11 = i), decide (12 = i), decide (13 = i), decide (14 = i), decide (15 = i)] : List Bool)[m]? ≠ some true := by decide
  exact this i h m hm
theorem nam16 {i : Nat} {nm : Str} (h : kindNames[i]? = some nm) : atI (kindNames.map V.str) (i : Int) = some (.str nm) := atI_nat (by rw [List.getElem?_map, h]; rfl)
theorem takes_len {X : Cx} {W : WX} (tk : Takes X W) : Takes X (fun cls d σ H => σ.length = X.N.length → W cls d σ H) := fun u s' x => by
  obtain ⟨a, B, sI, pins, σ, H, cls, d, e, I, nb, up, sky, na, os, ag, w⟩ := x
  exact tk u s' ⟨a, B, sI, pins, σ, H, cls, d, e, I, nb, up, sky, na, os, ag, w I.len⟩
theorem two_of {σ : L2.St} (h : σ.length = 2) : ∃ x y, σ = [x, y] := by
  match σ, h with
  | [x, y], _ => exact ⟨x, y, rfl⟩
/-- a suite, by any reading of it -/
def tAny (X : Cx) (b : List Stmt) (a : Addr) (cls : Value) (d : Option Addr) : TS := fun D σ H => ∀ (oe : Obj) (pn : List (Addr × Obj)), Zc cls d oe → (∃ vs, oe.data = .fields vs) → ∃ t : TS, PSs (X.suite a ((a, oe) :: pn)) b t ∧ t D σ H
theorem pss_any {X : Cx} {b : List Stmt} (a : Addr) (oe : Obj) (cls : Value) (d : Option Addr) (pn : List (Addr × Obj)) (hz : Zc cls d oe) (hf : ∃ vs, oe.data = .fields vs) : PSs (X.suite a ((a, oe) :: pn)) b (tAny X b a cls d) :=
  ⟨fun pins s σ H D I h => by
    obtain ⟨t, ht, hq⟩ := h oe pn hz hf
    exact ht.run pins s σ H D I hq⟩
theorem same_free {H H' : Hp} {p : Addr} (e : Same H H') (n : H' p = none) : H p = none := by
  cases h : H p with
  | none => rfl
  | some o => rw [e p o h] at n; cases n
theorem iteT' {A B : Prop} {b : Bool} (hb : b = true) (h : A) : if b = true then A else B := by rw [if_pos hb]; exact h
theorem iteF' {A B : Prop} {b : Bool} (hb : b = false) (h : B) : if b = true then A else B := by rw [if_neg (by rw [hb]; exact Bool.false_ne_true)]; exact h
/-! ### steps -/
section
variable {K : PySem.W.Frag} {H H' : Hp} {Q : VK} {σ : L2.St} {a : Addr} {cls : Value} {d : Option Addr}
theorem XdOk.same (h : XdOk d H) (e : Same H H') : XdOk d H' := fun dd q => by
  obtain ⟨fs, w⟩ := h dd q
  exact ⟨fs, e dd _ w⟩
theorem xdOk_at {dd : Addr} {fs : List (Str × V)} (h : H dd = some (.xd fs)) : XdOk (some dd) H := fun d' q => by
  cases q
  exact ⟨fs, h⟩
theorem xdOk_none : XdOk none H := fun d' q => by cases q
theorem w_isP {D C : Addr} {b : Bool} (hE : ExcC K D) (hk : PySem.W.kitOne K (.ref D) (.ref C) = some b) (hx : XdOk d H) (q : Q (.bl b) H) : rIsP K a (.ref D) d [.ref a, .ref C] H Q := ⟨D, .ref C, .ref C, b, rfl, hE, rfl, .own C, hk, hx, q⟩
theorem w_isPt {D : Addr} {n : String} {b : Bool} (hE : ExcC K D) (hk : PySem.W.kitOne K (.ref D) (.type n) = some b) (hx : XdOk d H) (q : Q (.bl b) H) : rIsP K a (.ref D) d [.ref a, .ty n] H Q := ⟨D, .ty n, .type n, b, rfl, hE, rfl, .ty n, hk, hx, q⟩
theorem w_isPT {D tp C1 C2 : Addr} {b : Bool} (hE : ExcC K D) (hT : H tp = some (.tup [.ref C1, .ref C2])) (hk : PySem.W.kitAny K (.ref D) [.ref C1, .ref C2] = some b) (hx : XdOk d H) (q : Q (.bl b) H) : rIsPT K a (.ref D) d [.ref a, .ref tp] H Q :=
  ⟨D, tp, _, _, b, rfl, hE, rfl, hT, .cons (.own C1) (.cons (.own C2) .nil), hk, hx, q⟩
theorem w_bmL {T : String} {r : V → List V → Hp → VK → Prop} {to : TE} {t : TA} (h : to σ H fun x H1 => tyV K T x H1 ∧ t σ H1 fun xs H2 => r x xs H2 Q) : tBM K T r to t σ H Q := h
theorem w_bm0 {T : String} {r : V → List V → Hp → VK → Prop} {to : TE} (h : to σ H fun x H1 => tyV K T x H1 ∧ r x [] H1 Q) : tBM0 K T r to σ H Q := h
theorem w_tyL {R : Prop} {xs : List V} (h : SqL K H a xs) (q : R) : tyV K "list" (.ref a) H ∧ R := ⟨.inl ⟨rfl, xs, h⟩, q⟩
theorem dpAll_bl : ∀ bs : List Bool, DpAll K H (bs.map V.bl) (bs.map PyData.bool)
  | [] => .nil
  | b :: r => .cons (.bl b) (dpAll_bl r)
theorem depth_bl : ∀ bs : List Bool, PyData.depthAll (bs.map PyData.bool) = 0
  | [] => rfl
  | b :: r => by simp [PyData.depthAll, PyData.depth, depth_bl r]
theorem lay_bl : ∀ bs : List Bool, PyData.canLayAll0 (bs.map PyData.bool) = true
  | [] => by simp [PyData.canLayAll0]
  | b :: r => by simp [PyData.canLayAll0, PyData.canLay0, lay_bl r]
theorem shaped_bl (bs : List Bool) : SeqAt.shaped (.list (bs.map PyData.bool)) = true := by
  simp [SeqAt.shaped, PyData.canLay0, lay_bl, PyData.depth, depth_bl]
theorem count_bl : ∀ bs : List Bool, (bs.map PyData.bool).countP (fun z => PyData.eqv z (.bool true)) = bs.count true
  | [] => rfl
  | b :: r => by
    rw [List.map_cons, List.countP_cons, List.count_cons, count_bl r]
    cases b <;> simp [PyData.eqv]
theorem w_countT {xs : List V} {n : Int} (bs : List Bool) (e : xs = bs.map V.bl) (h : SqL K H a xs) (hn : ((bs.count true : Nat) : Int) = n) (q : Q (.int n) H) : rCountD K (.ref a) [.bl true] H Q := by
  subst e
  refine ⟨a, .bl true, .bool true, bs.map PyData.bool, rfl, rfl, .lst h (dpAll_bl bs), .bl true, shaped_bl bs, by simp [SeqAt.shaped, PyData.canLay0, PyData.depth], ?_⟩
  rw [count_bl, hn]
  exact q
theorem w_indexT {xs : List V} {j : Nat} (bs : List Bool) (e : xs = bs.map V.bl) (h : SqL K H a xs) (hj : bs[j]? = some true) (hm : ∀ m, m < j → bs[m]? ≠ some true) (q : Q (.int j) H) : rIndexD K (.ref a) [.bl true] H Q := by
  subst e
  refine ⟨a, .bl true, .bool true, bs.map PyData.bool, j, .bool true, rfl, rfl, .lst h (dpAll_bl bs), .bl true, shaped_bl bs, by simp [SeqAt.shaped, PyData.canLay0, PyData.depth], by simp [hj], by simp [PyData.eqv], fun m z hlt hz => ?_, q⟩
  rw [List.getElem?_map] at hz
  cases eb : bs[m]? with
  | none => rw [eb] at hz; cases hz
  | some b =>
    rw [eb] at hz
    cases hz
    have := hm m hlt
    rw [eb] at this
    cases b <;> simp_all [PyData.eqv]
theorem w_cat {p1 p2 : Addr} {xs zs : List V} (h1 : H p1 = some (.lst xs)) (h2 : H p2 = some (.lst zs)) (hl : xs.length + zs.length ≤ sizeLine) (k : ∀ p H2, H p = none → Same H H2 → H2 p = some (.lst (xs ++ zs)) → Q (.ref p) H2) : rCat (.ref p1) (.ref p2) H Q :=
  ⟨p1, p2, xs, zs, rfl, rfl, h1, h2, hl, fun p n => k p _ n (same_new n) upd_same⟩
theorem w_callP {sp : SpP} {t : TA} (h : t σ H fun vs H1 => ∀ oe : Obj, Zc cls d oe → (∃ vs, oe.data = .fields vs) → sp (a, oe) vs H1 Q) : tCallP sp a cls d t σ H Q := h
theorem w_xfE {f : Str} {te : TE} (h : te σ H fun x H1 => ∃ (D dd : Addr) (fs : List (Str × V)) (v : V), x = .ref a ∧ cls = .ref D ∧ ExcC K D ∧ PySem.W.findIn K (.ref D) f = some none ∧ d = some dd ∧ H1 dd = some (.xd fs) ∧ fs.lookup f = some v ∧ Q v H1) : tXfc K a cls d f te σ H Q := h
theorem w_xf {D dd : Addr} {f : Str} {fs : List (Str × V)} {v : V} {R : V → Prop} (hE : ExcC K D) (no : PySem.W.findIn K (.ref D) f = some none) (hd : H dd = some (.xd fs)) (hl : fs.lookup f = some v) (q : R v) :
    ∃ (D' dd' : Addr) (fs : List (Str × V)) (v : V), V.ref a = .ref a ∧ Value.ref D = .ref D' ∧ ExcC K D' ∧ PySem.W.findIn K (.ref D') f = some none ∧ some dd = some dd' ∧ H dd' = some (.xd fs) ∧ fs.lookup f = some v ∧ R v := ⟨D, dd, fs, v, rfl, rfl, hE, no, rfl, hd, hl, q⟩
end
end Bw

namespace Bw
open PySem PySem.Spec PyProof.Rows L2
/-! ### loops and comprehensions over a known number of things -/
structure Fini (J : It) (n : Nat) (ok : Hp → Prop) (it : Nat → V → Hp → Hp → Prop) : Prop where
  go : ∀ i H, i < n → ok H → J.go i H
  yl : ∀ i H x H', i < n → ok H → J.yld i H x H' → it i x H H'
  st : ∀ H, ok H → J.stop n H
section
variable {K : PySem.W.Frag}
theorem fin_rng {lo : Int} {n : Nat} : Fini (Itr lo n) n (fun _ => True) (fun i x H H' => H' = H ∧ x = .int (lo + i)) := ⟨fun _ _ h _ => h, fun _ _ _ _ _ _ h => h, fun _ _ => Nat.le_refl _⟩
theorem fin_list {a : Addr} {xs : List V} : Fini (Itl K a) xs.length (fun H => SqL K H a xs) (fun i x H H' => H' = H ∧ xs[i]? = some x) :=
  ⟨fun i H h o => ⟨xs, xs[i], o, by simp [h]⟩, fun i H x H' h o y => ⟨y.1, y.2 xs o⟩, fun H o => ⟨xs, o, Nat.le_refl _⟩⟩
theorem fin_tup {a : Addr} {xs : List V} : Fini (Itt K a) xs.length (fun H => SqT K H a xs) (fun i x H H' => H' = H ∧ xs[i]? = some x) :=
  ⟨fun i H h o => ⟨xs, xs[i], o, by simp [h]⟩, fun i H x H' h o y => ⟨y.1, y.2 xs o⟩, fun H o => ⟨xs, o, Nat.le_refl _⟩⟩
theorem fin_str {x : Str} : Fini (Its x) x.cps.size (fun _ => True) (fun i v H H' => H' = H ∧ ∃ c, x.cps[i]? = some c ∧ v = .str ⟨#[c]⟩) := ⟨fun _ _ h _ => h, fun _ _ _ _ _ _ h => h, fun _ _ => Nat.le_refl _⟩
theorem fin_enum {a : Addr} {xs : List V} : Fini (Ite K a) xs.length (fun H => SqL K H a xs) (fun i v H H' => ∃ T x, v = .ref T ∧ H T = none ∧ Same H H' ∧ H' T = some (.tup [.int (i : Nat), x]) ∧ xs[i]? = some x) :=
  ⟨fun i H h o => ⟨xs, xs[i], o, by simp [h]⟩, fun i H v H' h o y => by
    obtain ⟨T, x, e, n, e', q⟩ := y
    subst e'
    exact ⟨T, x, e, n, same_new n, upd_same, q xs o⟩, fun H o => ⟨xs, o, Nat.le_refl _⟩⟩
/-- a for loop -/
theorem for_fin {J : It} {n : Nat} {ok : Hp → Prop} {it : Nat → V → Hp → Hp → Prop} {g : TG} {tb : TS} {D : Ends} {σ : L2.St} {H : Hp} (F : Fini J n ok it) (Pv : Nat → L2.St → Hp → Prop) (h0 : Pv 0 σ H) (hl : ∀ i σ H, i ≤ n → Pv i σ H → ok H)
    (hs : ∀ i x σ H H1, i < n → Pv i σ H → it i x H H1 → g x σ H1 fun σ2 H2 => tb { D with nx := Pv (i + 1), ct := Pv (i + 1), bk := D.nx } σ2 H2) (hd : ∀ σ H, Pv n σ H → D.nx σ H) :
    ∃ W : Nat → Nat → L2.St → Hp → Prop, (∃ m, W 0 m σ H) ∧ ∀ i m σ H, W i m σ H →
      (J.stop i H ∧ D.nx σ H) ∨ (J.go i H ∧ ∃ N : L2.St → Hp → Prop, (∀ σ' H', N σ' H' → ∃ m', m' < m ∧ W (i + 1) m' σ' H') ∧ ∀ x H', J.yld i H x H' → g x σ H' fun σ2 H2 => tb { D with nx := N, ct := N, bk := D.nx } σ2 H2) := by
  refine ⟨fun i m σ H => m = n - i ∧ i ≤ n ∧ Pv i σ H, ⟨n, by simp, Nat.zero_le _, h0⟩, ?_⟩
  rintro i m σ H ⟨rfl, hi, p⟩
  have o := hl i σ H hi p
  rcases Nat.lt_or_ge i n with hlt | hge
  · exact .inr ⟨F.go i H hlt o, Pv (i + 1), fun σ' H' p' => ⟨n - (i + 1), by omega, rfl, hlt, p'⟩, fun x H' y => hs i x σ H H' hlt p (F.yl i H x H' hlt o y)⟩
  · obtain rfl : i = n := Nat.le_antisymm hi hge
    exact .inl ⟨F.st H o, hd σ H p⟩
/-- the next turn of a comprehension -/
def NxI (D : Addr) (i : Nat) (Iv : Nat → List V → Hp → Prop) : Hp → Prop := fun H' => ∃ acc', acc'.length ≤ i + 1 ∧ H' D = some (.lst acc') ∧ Iv (i + 1) acc' H'
theorem take_succ {α : Type} {xs : Array α} {i : Nat} {c : α} (h : xs[i]? = some c) : xs.toList.take (i + 1) = xs.toList.take i ++ [c] := by
  rw [List.take_add_one]
  congr 1
  rw [Array.getElem?_toList, h]
  rfl
theorem take_succL {α : Type} {xs : List α} {i : Nat} {c : α} (h : xs[i]? = some c) : xs.take (i + 1) = xs.take i ++ [c] := by
  rw [List.take_add_one, h]
  rfl
theorem take_size {α : Type} {xs : Array α} : xs.toList.take xs.size = xs.toList := by
  rw [← Array.length_toList, List.take_length]
theorem w_acc {D : Addr} {i n : Nat} {Iv : Nat → List V → Hp → Prop} {acc : List V} {y : V} {H4 : Hp} (hD : H4 D = some (.lst acc)) (ha : acc.length ≤ i) (hi : i < n) (hn : n ≤ sizeLine) (k : ∀ H5, KB D H4 H5 → H5 D = some (.lst (acc ++ [y])) → Iv (i + 1) (acc ++ [y]) H5) :
    ∃ acc, H4 D = some (.lst acc) ∧ acc.length < sizeLine ∧ NxI D i Iv (upd H4 D (.lst (acc ++ [y]))) :=
  ⟨acc, hD, by omega, acc ++ [y], by rw [List.length_append]; simp; omega, upd_same, k _ kb_upd upd_same⟩
theorem w_skip {D : Addr} {i : Nat} {Iv : Nat → List V → Hp → Prop} {acc : List V} {H3 : Hp} (hD : H3 D = some (.lst acc)) (ha : acc.length ≤ i) (k : Iv (i + 1) acc H3) : NxI D i Iv H3 := ⟨acc, by omega, hD, k⟩
/-- a comprehension: Iv by the turn, what is gathered and the heap -/
theorem lc_fin {J : It} {n : Nat} {ok : Hp → Prop} {it : Nat → V → Hp → Hp → Prop} {g : TG} {tt : TT} {te : TE} {vs : List Nat} {σ : L2.St} {H1 : Hp} {Qd : Addr → Hp → Prop} (F : Fini J n ok it) (Iv : Nat → List V → Hp → Prop)
    (h0 : ∀ D H2, H1 D = none → Same H1 H2 → H2 D = some (.lst []) → Iv 0 [] H2) (hl : ∀ i acc H, i ≤ n → Iv i acc H → ok H)
    (hs : ∀ D i x acc H H', H1 D = none → i < n → acc.length ≤ i → Iv i acc H → H D = some (.lst acc) → it i x H H' → g x (wipe σ vs) H' fun σ2 H2 => wipe σ2 vs = wipe σ vs ∧ tt σ2 H2 fun b H3 =>
      if b = true then te σ2 H3 fun y H4 => ∃ acc, H4 D = some (.lst acc) ∧ acc.length < sizeLine ∧ NxI D i Iv (upd H4 D (.lst (acc ++ [y]))) else NxI D i Iv H3)
    (hd : ∀ D acc H, H1 D = none → Iv n acc H → acc.length ≤ n → H D = some (.lst acc) → Qd D H) :
    ∀ D, H1 D = none → ∃ W : Nat → Nat → Hp → Prop, (∃ m, W 0 m (upd H1 D (.lst []))) ∧ ∀ i m H, W i m H →
      (J.stop i H ∧ Qd D H) ∨ (J.go i H ∧ ∃ Nx : Hp → Prop, (∀ H', Nx H' → ∃ m', m' < m ∧ W (i + 1) m' H') ∧ ∀ x H', J.yld i H x H' → g x (wipe σ vs) H' fun σ2 H2 => wipe σ2 vs = wipe σ vs ∧ tt σ2 H2 fun b H3 =>
        if b = true then te σ2 H3 fun y H4 => ∃ acc, H4 D = some (.lst acc) ∧ acc.length < sizeLine ∧ Nx (upd H4 D (.lst (acc ++ [y]))) else Nx H3) := by
  intro D nD
  refine ⟨fun i m H => m = n - i ∧ i ≤ n ∧ ∃ acc, acc.length ≤ i ∧ H D = some (.lst acc) ∧ Iv i acc H, ⟨n, by simp, Nat.zero_le _, [], Nat.le_refl _, upd_same, h0 D _ nD (same_new nD) upd_same⟩, ?_⟩
  rintro i m H ⟨rfl, hi, acc, hacc, hD, p⟩
  have o := hl i acc H hi p
  rcases Nat.lt_or_ge i n with hlt | hge
  · exact .inr ⟨F.go i H hlt o, NxI D i Iv, fun H' p' => ⟨n - (i + 1), by omega, rfl, hlt, p'⟩, fun x H' y => hs D i x acc H H' nD hlt hacc p hD (F.yl i H x H' hlt o y)⟩
  · obtain rfl : i = n := Nat.le_antisymm hi hge
    exact .inl ⟨F.st H o, hd D acc H nD p hacc hD⟩
theorem w_lcE {wi : TI} {g : TG} {tt : TT} {te : TE} {vs : List Nat} {σ : L2.St} {H : Hp} {Q : VK} (h : wi σ H fun J H1 => ∀ D, H1 D = none → ∃ W : Nat → Nat → Hp → Prop, (∃ m, W 0 m (upd H1 D (.lst []))) ∧ ∀ i m H, W i m H →
  (J.stop i H ∧ Q (.ref D) H) ∨ (J.go i H ∧ ∃ Nx : Hp → Prop, (∀ H', Nx H' → ∃ m', m' < m ∧ W (i + 1) m' H') ∧ ∀ x H', J.yld i H x H' → g x (wipe σ vs) H' fun σ2 H2 => wipe σ2 vs = wipe σ vs ∧ tt σ2 H2 fun b H3 =>
    if b = true then te σ2 H3 fun y H4 => ∃ acc, H4 D = some (.lst acc) ∧ acc.length < sizeLine ∧ Nx (upd H4 D (.lst (acc ++ [y]))) else Nx H3)) : tLc wi g tt te vs σ H Q := h
theorem w_iStr {te : TE} {σ : L2.St} {H : Hp} {R : It → Hp → Prop} (h : te σ H fun v H1 => ∃ x, v = .str x ∧ R (Its x) H1) : iStr te σ H R := h
theorem w_strE {x : Str} {R : Str → Prop} (q : R x) : ∃ y, V.str x = .str y ∧ R y := ⟨x, rfl, q⟩
theorem w_iEnum {ta : TA} {σ : L2.St} {H : Hp} {R : It → Hp → Prop} (h : ta σ H fun vs H1 => ∃ a xs, vs = [.ref a] ∧ SqL K H1 a xs ∧ R (Ite K a) H1) : iEnum K ta σ H R := h
theorem w_enum {a : Addr} {xs : List V} {H : Hp} {R : Addr → Prop} (h : SqL K H a xs) (q : R a) : ∃ (a' : Addr) (xs : List V), [V.ref a] = [.ref a'] ∧ SqL K H a' xs ∧ R a' := ⟨a, xs, rfl, h, q⟩
theorem w_yes {σ : L2.St} {H : Hp} {QB : Bool → Hp → Prop} (q : QB true H) : tYes σ H QB := q
theorem w_inS {c : Nat} {z : Str} {H : Hp} {Q : VK} (q : Q (.bl (decide (c ∈ z.cps.toList))) H) : rInS (.str ⟨#[c]⟩) (.str z) H Q := ⟨c, z, rfl, rfl, q⟩
theorem w_all {bs : List Bool} {a : Addr} {xs : List V} {H : Hp} {Q : VK} (e : xs = bs.map V.bl) (h : SqL K H a xs) (q : Q (.bl (bs.all id)) H) : rAll K [.ref a] H Q := ⟨a, bs, rfl, e ▸ h, q⟩
theorem w_m1 {r : V → List V → Hp → VK → Prop} {to te : TE} {σ : L2.St} {H : Hp} {Q : VK} (h : to σ H fun x H1 => (∃ a, x = .str a) ∧ te σ H1 fun y H2 => r x [y] H2 Q) : tM1 r to te σ H Q := h
theorem w_m0 {r : V → List V → Hp → VK → Prop} {to : TE} {σ : L2.St} {H : Hp} {Q : VK} (h : to σ H fun x H1 => (∃ a, x = .str a) ∧ r x [] H1 Q) : tM0 r to σ H Q := h
theorem w_append {l : Addr} {xs : List V} {y : V} {H : Hp} {Q : VK} (h : H l = some (.lst xs)) (hl : xs.length < sizeLine) (k : ∀ H2, KB l H H2 → H2 l = some (.lst (xs ++ [y])) → Q .non H2) : rAppend (.ref l) [y] H Q := ⟨l, xs, y, rfl, rfl, h, hl, k _ kb_upd upd_same⟩
theorem txt_join (y : Str) (ps : List Str) : Txt.join y ps = Str.join y ps := beq_iff_eq.mp (PyProof.Rows.join_plain_closes y ps)
theorem w_sl {r : V → Option Int → Option Int → Hp → VK → Prop} {te : TE} {tl th : TO} {σ : L2.St} {H : Hp} {Q : VK} (h : te σ H fun x H1 => tl σ H1 fun l H2 => th σ H2 fun u H3 => r x l u H3 Q) : L2.tSl r te tl th σ H Q := h
theorem w_noPart {σ : L2.St} {H : Hp} {Q : Option Int → Hp → Prop} (q : Q none H) : tNoPart σ H Q := q
theorem w_part {te : TE} {σ : L2.St} {H : Hp} {Q : Option Int → Hp → Prop} (h : te σ H fun v H1 => ∃ i, v = .int i ∧ Q (some i) H1) : tPart te σ H Q := h
theorem w_intE {i : Int} {R : Int → Prop} (q : R i) : ∃ j, V.int i = .int j ∧ R j := ⟨i, rfl, q⟩
theorem w_slS {z : Str} {lo hi : Option Int} {H : Hp} {Q : VK} (hl : z.length ≤ sizeLine) (q : Q (.str (cutS z lo hi)) H) : rSlS (.str z) lo hi H Q := ⟨z, rfl, hl, q⟩
theorem w_slL {a : Addr} {xs : List V} {lo hi : Option Int} {H : Hp} {Q : VK} (h : SqL K H a xs) (k : ∀ p H2, H p = none → Same H H2 → H2 p = some (.lst (cutV xs lo hi)) → Q (.ref p) H2) : rSlL K (.ref a) lo hi H Q := ⟨a, xs, rfl, h, fun p n => k p _ n (same_new n) upd_same⟩
theorem w_addS {x y : Str} {H : Hp} {Q : VK} (hl : x.length + y.length ≤ sizeLine) (q : Q (.str (x ++ y)) H) : rAddS (.str x) (.str y) H Q := ⟨x, y, rfl, rfl, hl, q⟩
theorem w_isS {x : Str} {R : Prop} (q : R) : (∃ a, V.str x = .str a) ∧ R := ⟨⟨x, rfl⟩, q⟩
theorem w_split {x y : Str} {H : Hp} {Q : VK} (hy : (y.length == 0) = false) (hl : x.length + 2 ≤ sizeLine) (k : ∀ p H2, H p = none → Same H H2 → H2 p = some (.lst ((Txt.split x y).map V.str)) → Q (.ref p) H2) :
    ∃ a b, V.str x = .str a ∧ [V.str y] = [.str b] ∧ (b.length == 0) = false ∧ a.length + 2 ≤ sizeLine ∧ rNewStrs (Txt.split a b) H Q := ⟨x, y, rfl, rfl, hy, hl, fun p n => k p _ n (same_new n) upd_same⟩
theorem w_join {x : Str} {p : Addr} {ys : List Str} {zs : List V} {H : Hp} {Q : VK} (e : zs = ys.map V.str) (h : SqL K H p zs) (hl : (ys.map (·.length)).sum + ys.length * x.length ≤ 16777216) (q : Q (.str (Txt.join x ys)) H) :
    ∃ a p', ∃ ys : List Str, V.str x = .str a ∧ [V.ref p] = [.ref p'] ∧ (SqL K H p' (ys.map V.str) ∨ SqT K H p' (ys.map V.str)) ∧ (ys.map (·.length)).sum + ys.length * a.length ≤ 16777216 ∧ Q (.str (Txt.join a ys)) H := ⟨x, p, ys, rfl, rfl, .inl (e ▸ h), hl, q⟩
/-! ### pieces of a text -/
theorem le_sum {x : Nat} : ∀ {l : List Nat}, x ∈ l → x ≤ l.sum
  | y :: r, h => by
    rcases List.mem_cons.mp h with rfl | h
    · simp
    · have := le_sum h
      simp
      omega
end
end Bw

namespace Bw
open PySem PySem.Spec PyProof.Rows L2 LamX
/-- a def whose code object is known -/
structure FunC (K : PySem.W.Frag) (x qual : Str) (st : Stmt) (f : Addr) (fd : FuncData) (c : Addr) : Prop where
  ex : ∃ (oc : Value) (od : Option Addr) (kV doc pm : Value) (an : Option Addr) (ct : Value) (osl : Array (Option Value)),
    fd = PySem.W.fnOf x qual (defArgs st) (defBody st) (defScope st) .none kV doc pm an (.ref c) ct ∧ K.lookup f = some ⟨oc, od, .func fd, osl⟩ ∧ PySem.W.codeIn K (.ref c) qual = true
  kp : PySem.W.keepIn K (.ref f) = true
section
variable {P : Program} {w : World} {K : PySem.W.Frag} {mg : Str → Option Value} {base : Heap}
theorem FunC.ok {x qual : Str} {st : Stmt} {f c : Addr} {fd : FuncData} {N ps : List Str} {k : Nat} {sp : Sp} (F : FunC K x qual st f fd c) (S : FnScope N ps (defScope st)) (len : ∀ vs H Q E, sp vs H Q E → vs.length = ps.length)
    (hbody : ∀ (A : Around) (outer : List Env) (s : Shared) (H : Hp) (vs : List V) (Q : VK) (E : XK), Room k (A.deeper (envOfC qual (defScope st) s.heap.objs.size f (.ref c))) → sp vs H Q E →
      ∃ t, PSs (cxOf CX0 P w K mg base N qual (defScope st) f (.ref c) A outer s H E).nox (defBody st) t ∧ t { nx := fun _ H' => Q .non H', rt := Q } (L2.start N vs) H) : FnOk P w K mg base CX0 (k + 1) f fd ps sp := by
  obtain ⟨oc, od, kV, doc, pm, an, ct, osl, rfl, lk, hcd⟩ := F.ex
  refine fn_of lk hcd S len fun A outer s H vs Q E hr hsp => ?_
  obtain ⟨t, h, q⟩ := hbody A outer s H vs Q E hr hsp
  exact ⟨t, h.nox, q⟩
theorem FunC.fun_ {x qual : Str} {st : Stmt} {f c : Addr} {fd : FuncData} (F : FunC K x qual st f fd c) : Fun K x qual st f fd := by
  obtain ⟨oc, od, kV, doc, pm, an, ct, osl, e, lk, hcd⟩ := F.ex
  exact ⟨⟨oc, od, kV, doc, pm, an, .ref c, ct, osl, e, lk, hcd⟩, F.kp⟩
theorem funC_mk {x qual : Str} {st : Stmt} {f c : Addr} {oc : Value} {od an : Option Addr} {osl : Array (Option Value)} {kV doc pm ct : Value} (l : K.lookup f = some ⟨oc, od, .func (PySem.W.fnOf x qual (defArgs st) (defBody st) (defScope st) .none kV doc pm an (.ref c) ct), osl⟩)
    (hc : PySem.W.codeIn K (.ref c) qual = true) (k : PySem.W.keepIn K (.ref f) = true) : FunC K x qual st f (PySem.W.fnOf x qual (defArgs st) (defBody st) (defScope st) .none kV doc pm an (.ref c) ct) c := ⟨⟨oc, od, kV, doc, pm, an, ct, osl, rfl, l, hc⟩, k⟩
/-- the def x is handed a lambda without parameters, and calls it -/
structure Asks (P : Program) (w : World) (K : PySem.W.Frag) (mg : Str → Option Value) (base : Heap) (x a : Str) (N : List Str) (st : Stmt) (k : Nat) (TT : (XK → Hp → VK → Prop) → Hp → VK → Prop) : Prop where
  ex : ∃ (g : Addr) (fd : FuncData), Fun K x x st g fd ∧ mg x = some (.ref g) ∧ Binds K fd [a] []
  sc : FnScope N [a] (defScope st)
  n0 : N[0]? = some a
  va : Vis (defScope st) a
  gives : ∀ X : Cx, X.prog = P → X.w = w → X.K = K → X.mg = mg → X.base = base → Room k X.A → ∀ (g : Addr) (cdg : Value) (q : Str), GivesTo X N x (defScope st) g cdg (defBody st) a q TT
end
abbrev lamN (x : Str) : Str := (x ++ ".<locals>.") ++ "<lambda>"
theorem pe_asks {X : Cx} {x a : Str} {N : List Str} {st : Stmt} {k j : Nat} {TT : (XK → Hp → VK → Prop) → Hp → VK → Prop} {T : List (Addr × Str)} {c P : Addr} {params : Arguments} {body : Expr} {scope : Scope} {t : XK → TE} {p lpos pos : Pos}
    (A : Asks X.prog X.w X.K X.mg X.base x a N st k TT) (hg : Gl X x) (TB : TabB X.base X.mg c P) (hcode : X.env.code = .ref c) {ql : Str} (hql : X.env.qual = ql) (hmT : (P, ql ++ "<lambda>") ∈ T) (hu : ∀ p ∈ T, p.1 = P → p.2 = ql ++ "<lambda>") (hr1 : Room k X.A) (hr : Room (j + 2) X.A) (L : lamSB X.env.scope scope = true) (hdef : defaultsOf params X.env = ([], []))
    (hbind : ∀ (q : Str) (cl : List (Str × Addr)) (pm cv ctv : Value), bindArgs (PySem.W.kla_fn "<lambda>" q params body scope cl pm cv ctv) ⟨[], []⟩ = pure [])
    (hbody : ∀ (A : Around) (outer : List Env) (s : Shared) (H : Hp) (E : XK) (f c' : Addr), Room j (A.deeper (lamEnv X scope s.heap.objs.size f c')) → PE (lamCx X A outer s H E scope f c') body (t E))
    (hdb : (x == ("__debug__" : Str)) = false := by decide) (hd : (a == ("__debug__" : Str)) = false := by decide) (hcd : (a == ("__classdict__" : Str)) = false := by decide) :
    PE X (.Call (.Name x p) [.Lambda params body scope lpos] [] pos) (tLam T TT t) := by
  subst hql
  obtain ⟨g, fd, F, hm, hb⟩ := A.ex
  have kp := F.kp
  obtain ⟨oc, od, kV, doc, pm, an, cdv, ct, osl, rfl, lk, hcd'⟩ := F.ex
  exact pe_lamcall hg hm kp lk hcd' hb A.sc A.n0 A.va (A.gives X rfl rfl rfl rfl rfl hr1 g cdv _) TB hcode hmT hu hr (lamS_by L) hdef hbind hbody hdb hd hcd
/-! ### steps -/
section
variable {H H' H1 : Hp} {σ : L2.St} {Q : VK} {K : PySem.W.Frag}
theorem w_lam {T : List (Addr × Str)} {TT : (XK → Hp → VK → Prop) → Hp → VK → Prop} {t : XK → TE} (hT : Tabs T H) (h : ∀ H1, ExtN H H1 → Tabs T H1 → TT (fun E H' Q' => t E σ H' Q') H1 Q) : tLam T TT t σ H Q := ⟨hT, h⟩
theorem w_how {Z : Zs} {tl : XK → Hp → VK → Prop} (h : tl (howE K Z Q) H (fun _ H' => Q (.str "told") H')) : TTHow K Z tl H Q := h
theorem extn_at {a : Addr} {o : HO} (e : ExtN H H') (h : H a = some o) (n : ∀ ps, o ≠ .tbl ps) : H' a = some o := e a o h n
theorem extn_same (e : Same H H') : ExtN H H' := fun b o h _ => e b o h
theorem extn_seq {a : Addr} {xs : List V} (e : ExtN H H') (h : SqL K H a xs) : SqL K H' a xs := by
  rcases h with (h | ⟨o, h⟩) | h
  · exact .inl (.inl (e _ _ h (fun _ z => by cases z)))
  · exact .inl (.inr ⟨o, e _ _ h (fun _ z => by cases z)⟩)
  · exact .inr h
theorem extn_tup {a : Addr} {xs : List V} (e : ExtN H H') (h : SqT K H a xs) : SqT K H' a xs := by
  rcases h with (h | ⟨o, h⟩) | h
  · exact .inl (.inl (e _ _ h (fun _ z => by cases z)))
  · exact .inl (.inr ⟨o, e _ _ h (fun _ z => by cases z)⟩)
  · exact .inr h
mutual
theorem Dp.extn (e : ExtN H H') : ∀ {v : V} {d : PyData}, Dp K H v d → Dp K H' v d
  | _, _, .non => .non
  | _, _, .bl b => .bl b
  | _, _, .int i => .int i
  | _, _, .str x => .str x
  | _, _, .lst h r => .lst (extn_seq e h) (DpAll.extn e r)
  | _, _, .tup h r => .tup (extn_tup e h) (DpAll.extn e r)
theorem DpAll.extn (e : ExtN H H') : ∀ {vs : List V} {ds : List PyData}, DpAll K H vs ds → DpAll K H' vs ds
  | _, _, .nil => .nil
  | _, _, .cons h r => .cons (Dp.extn e h) (DpAll.extn e r)
end
/-- two heaps, the tables may have grown -/
structure Grown (T : List (Addr × Str)) (H H' : Hp) : Prop where
  e : ExtN H H'
  t : Tabs T H'
theorem Grown.trans {T : List (Addr × Str)} (a : Grown T H H1) (b : Grown T H1 H') : Grown T H H' := ⟨a.e.trans b.e, b.t⟩
theorem Grown.same {T : List (Addr × Str)} (a : Grown T H H1) (b : Same H1 H') : Grown T H H' := ⟨a.e.trans (extn_same b), a.t.ext b⟩
theorem Grown.of {T : List (Addr × Str)} (t : Tabs T H) (b : Same H H') : Grown T H H' := ⟨extn_same b, t.ext b⟩
theorem tabs_kb {T : List (Addr × Str)} {p : Addr} {xs : List V} (t : Tabs T H) (hp : H p = some (.lst xs)) (e : KB p H H') : Tabs T H' := by
  intro x hx
  obtain ⟨ps, h1, h2, h3⟩ := t x hx
  have ne : ∀ {b o}, H b = some o → (o ≠ .lst xs) → b ≠ p := fun {b o} hb no z => no (Option.some.inj (hb.symm.trans (z ▸ hp)))
  refine ⟨ps, e _ _ h1 (ne h1 (fun z => by cases z)), h2, fun pos cv hc => ?_⟩
  obtain ⟨c, e1, e2⟩ := h3 pos cv hc
  exact ⟨c, e1, e _ _ e2 (ne e2 (fun z => by unfold CodeO at z; cases z))⟩
end
/-! ### things that are no texts -/
inductive Odd (H : Hp) : V → Prop
  | non : Odd H .non
  | int (i : Int) : Odd H (.int i)
  | bl (b : Bool) : Odd H (.bl b)
  | lst {a : Addr} {xs : List V} : H a = some (.lst xs) → Odd H (.ref a)
  | tup {a : Addr} {xs : List V} : H a = some (.tup xs) → Odd H (.ref a)
theorem kit_non_str : kitB "NoneType" "str" = some false := by decide +kernel
theorem kit_lst_str : kitB "list" "str" = some false := by decide +kernel
theorem kit_tup_str : kitB "tuple" "str" = some false := by decide +kernel
theorem Odd.ty {K : PySem.W.Frag} {H : Hp} {v : V} (h : Odd H v) : (∀ x, v ≠ .str x) ∧ ∃ tv, TyX K H v (.type tv) ∧ kitB tv "str" = some false := by
  cases h with
  | non => exact ⟨fun x z => (by cases z), _, tyx_non, kit_non_str⟩
  | int i => exact ⟨fun x z => (by cases z), _, tyx_int, kit_int_str⟩
  | bl b => exact ⟨fun x z => (by cases z), _, tyx_bl, kit_bool_str⟩
  | lst e => exact ⟨fun x z => (by cases z), _, tyx_lst e, kit_lst_str⟩
  | tup e => exact ⟨fun x z => (by cases z), _, tyx_tup e, kit_tup_str⟩
theorem Odd.ext {H H' : Hp} {v : V} (h : Odd H v) (e : ExtN H H') : Odd H' v := by
  cases h with
  | non => exact .non
  | int i => exact .int i
  | bl b => exact .bl b
  | lst q => exact .lst (e _ _ q (fun _ z => by cases z))
  | tup q => exact .tup (e _ _ q (fun _ z => by cases z))
/-- a text, or no text -/
def TxtV (H : Hp) (v : V) : Prop := (∃ x : Str, v = .str x ∧ x.length ≤ 100000) ∨ Odd H v
theorem TxtV.ext {H H' : Hp} {v : V} (h : TxtV H v) (e : ExtN H H') : TxtV H' v := h.imp id fun q => q.ext e
theorem TxtV.same {H H' : Hp} {v : V} (h : TxtV H v) (e : Same H H') : TxtV H' v := h.ext (extn_same e)
/-! ### lists of texts -/
section
variable {K : PySem.W.Frag} {H : Hp}
theorem dpAll_str : ∀ bs : List Str, DpAll K H (bs.map V.str) (bs.map PyData.str)
  | [] => .nil
  | b :: r => .cons (.str b) (dpAll_str r)
theorem depth_str : ∀ bs : List Str, PyData.depthAll (bs.map PyData.str) = 0
  | [] => rfl
  | b :: r => by simp [PyData.depthAll, PyData.depth, depth_str r]
theorem lay_str : ∀ {bs : List Str}, (∀ b ∈ bs, PyData.strOk b = true) → PyData.canLayAll0 (bs.map PyData.str) = true
  | [], _ => by simp [PyData.canLayAll0]
  | b :: r, h => by simp [PyData.canLayAll0, PyData.canLay0, h b List.mem_cons_self, lay_str (fun x hx => h x (List.mem_cons_of_mem _ hx))]
theorem shaped_str {bs : List Str} (h : ∀ b ∈ bs, PyData.strOk b = true) : SeqAt.shaped (.list (bs.map PyData.str)) = true := by
  simp [SeqAt.shaped, PyData.canLay0, lay_str h, PyData.depth, depth_str]
theorem eqvAll_str : ∀ bs cs : List Str, PyData.eqvAll (bs.map PyData.str) (cs.map PyData.str) = decide (bs = cs)
  | [], [] => by simp [PyData.eqvAll]
  | [], c :: s => by simp [PyData.eqvAll]
  | b :: r, [] => by simp [PyData.eqvAll]
  | b :: r, c :: s => by
    simp only [List.map_cons, PyData.eqvAll, PyData.eqv, eqvAll_str r s, List.cons.injEq]
    by_cases h1 : b = c <;> by_cases h2 : r = s <;> simp [h1, h2]
theorem eqv_strs (bs cs : List Str) : PyData.eqv (.list (bs.map PyData.str)) (.list (cs.map PyData.str)) = decide (bs = cs) := by
  simp only [PyData.eqv, eqvAll_str]
end
end Bw

/-! Starred targets: a, *b = e for a tuple or a list e. -/
namespace Bw
open PySem PySem.Spec L2
section
variable {prog : Program} {w : World} {A : Around} {E : Value → Shared → Prop} {I : Addr} {fp wr : List Addr} {G : Array GenState → Array GenState → Prop} {n : Nat} {P : Nat → Value → Prop} {St : Nat → Shared → Prop}
theorem moved_refl (hg : ∀ a, G a a) (s : Shared) : Moved wr G s s := Moved.refl hg
theorem moved_trans (ht : ∀ a b c, G a b → G b c → G a c) {s s' s'' : Shared} (x : Moved wr G s s') (y : Moved wr G s' s'') : Moved wr G s s'' :=
  ⟨fun b o hb e => y.heap b o hb (x.heap b o hb e), ht _ _ _ x.gens y.gens, y.drawn.trans x.drawn, y.os.trans x.os, Nat.le_trans x.toks y.toks⟩
theorem draw_S (W : WalksS prog w A I fp wr G n P St) : ∀ (m i : Nat) (s : Shared) (Q : List Value → Shared → Prop), St i s → i + m ≤ n →
    (∀ s' vs, Moved wr G s s' → St (i + m) s' → vs.length = m → (∀ j v, vs[j]? = some v → P (i + j) v) → Q vs s') → wpAny (model prog w) A (draw (.ref I) m) Q E s
  | 0, i, s, Q, st, _, hQ => by
    show wpAny _ _ (pure []) Q E s
    exact wpAny_pure (hQ s [] (moved_refl W.grefl s) st rfl fun j v h => by simp at h)
  | m + 1, i, s, Q, st, hle, hQ => by
    show wpAny _ _ (pyNext (.ref I) >>= _) Q E s
    refine wpAny_bind (W.item i s _ _ (by omega) st fun v s1 hP st1 mv => ?_)
    refine wpAny_bind (wpAny_holding (draw_S W m (i + 1) s1 _ st1 (by omega) fun s2 vs mv2 st2 hl hv => wpAny_pure ?_))
    refine hQ s2 (v :: vs) (moved_trans W.gtrans mv mv2) (by rw [show i + (m + 1) = i + 1 + m by omega]; exact st2) (by simp [hl]) fun j u h => ?_
    cases j with
    | zero =>
      simp at h
      subst h
      exact hP
    | succ j =>
      have := hv j u (by simpa using h)
      rw [show i + (j + 1) = i + 1 + j by omega]
      exact this
theorem shift_S (W : WalksS prog w A I fp wr G n P St) (k : Nat) (hk : k ≤ n) : WalksS prog w A I fp wr G (n - k) (fun i => P (k + i)) (fun i s => St (k + i) s) where
  sub := W.sub
  grefl := W.grefl
  gtrans := W.gtrans
  frame := fun i s h' tk st ht hb => W.frame (k + i) s h' tk st ht hb
  item := fun i s Q E hi st hQ => W.item (k + i) s Q E (by omega) st fun v s' hP st' mv => hQ v s' hP st' mv
  done := fun s Q E st hQ => W.done s Q E (by rw [show k + (n - k) = n by omega] at st; exact st) hQ
  self := fun i s Q E st hQ => W.self (k + i) s Q E st hQ
/-- the items, the starred ones as a new list at the heap's end -/
theorem star_S {v : Value} {s s0 : Shared} {T : String} {k after : Nat} {Q : List Value → Shared → Prop} (hTm : T = "list_iterator" ∨ T = "tuple_iterator")
    (W : WalksS prog w A.in1 I fp wr G n P St) (hT : ∀ i s, St i s → s.TypeIs (.ref I) T) (hn : n ≤ sizeLine) (hk : k + after ≤ n) (hI : I ∈ fp) (hfp : ∀ i s, St i s → ∀ b ∈ fp, b < s.heap.objs.size) (st0 : St 0 s0)
    (hit : ∀ (Q : Bool → Shared → Prop), Q false s → wpAny (model prog w) A (notIterableAtAll v) Q E s)
    (hiter : ∀ (Q : Value → Shared → Prop), Q (.ref I) s0 → wpAny (model prog w) A (pyIter v) Q E s)
    (hQ : ∀ (s' : Shared) (first rest : List Value), Moved wr G s0 s' → first.length = k → (∀ j u, first[j]? = some u → P j u) → rest.length = n - k → (∀ j u, rest[j]? = some u → P (k + j) u) →
      wpAny (model prog w) A (newList (rest.take (rest.length - after))) (fun l s'' => Q (first ++ [l] ++ rest.drop (rest.length - after)) s'') E s') :
    wpAny (model prog w) A (unpackItems v (k + 1 + after) (some k)) Q E s := by
  have W' : WalksS prog w A I fp wr G n P St := WalksS.of_in1 W
  unfold unpackItems
  refine wpAny_bind (hit _ ?_)
  simp only [Bool.false_eq_true, if_false]
  refine wpAny_bind (wpAny_holding (hiter _ ?_))
  refine wpAny_bind (wpAny_holding (draw_S W' k 0 s0 _ st0 (by omega) fun s1 first mv1 st1 hl1 hv1 => ?_))
  rw [if_neg (by omega)]
  rw [Nat.zero_add] at st1
  refine wpAny_bind (wpAny_holding (wpAny_collect_iter (T := T) (by rcases hTm with h | h <;> simp [h]) (shift_S W k (by omega)) (fun i s st => hT (k + i) s st) (by simpa using st1) (hfp k s1 st1) hI (fun s2 acc mv2 hacc => ?_) (by omega)))
  have hal : acc.toList.length = n - k := by rw [Array.length_toList]; exact hacc.1
  rw [show k + 1 + after - 1 - k = after by omega]
  rw [if_neg (by omega)]
  refine wpAny_bind ?_
  refine wpAny_mono (hQ s2 first acc.toList (moved_trans W.gtrans mv1 mv2) hl1 (fun j u h => by simpa using hv1 j u h) hal fun j u h => ?_) (fun l s3 q => wpAny_pure q) fun _ _ h => h
  exact hacc.2 j u (by simpa using h)
end
/-! ### over the layer -/
/-- a, .., *b, .., c = e: k ahead, after behind the star -/
def gStar (K : PySem.W.Frag) (k after : Nat) (t : TGs) : TG := fun v σ H Q => ∃ a xs, v = .ref a ∧ (SqT K H a xs ∨ SqL K H a xs) ∧ k + after ≤ xs.length ∧
  ∀ p, H p = none → t (xs.take k ++ [.ref p] ++ (xs.drop k).drop (xs.length - k - after)) σ (upd H p (.lst ((xs.drop k).take (xs.length - k - after)))) Q
section
variable {X : Cx} {pos : Pos}
theorem pgs_star {e : Expr} {es : List Expr} {t : TG} {u : TGs} {p : Pos} (h1 : PG X e t) (h2 : PGs X es u)
    (hs : (assignEach (.Starred e p :: es) X.env).map (·.2) = assign e X.env :: (assignEach es X.env).map (·.2) := by rfl) : PGs X (.Starred e p :: es) (gCons t u) := by
  refine ⟨fun pins s σ H vs us Q I r h => ?_⟩
  obtain ⟨v, vr, e1, h⟩ := h
  subst e1
  cases r with
  | cons r rr =>
    rw [hs]
    refine PyProof.Rows.assignInOrder_cons (thn (h1.run pins s σ H _ _ _ I r h) fun _ s1 ⟨σ1, H1, I1, q1⟩ => ?_)
    exact h2.run pins s1 σ1 H1 _ _ Q I1 rr q1
theorem pg_star {es : List Expr} {ky : Nat} {t : TGs} {k after : Nat} (hc : X.calm = true) (h : PGs X es t)
    (hn : (assignEach es X.env).length = k + 1 + after := by rfl) (hst : (assignEach es X.env).findIdx? (·.1) = some k := by rfl) : PG X (.Tuple es ky pos) (gStar X.K k after t) := by
  refine ⟨fun pins s σ H v u Q I r hw => ?_⟩
  obtain ⟨a, xs, e1, hq, hl, hw⟩ := hw
  subst e1
  obtain rfl : u = Value.ref a := r
  rw [PyProof.Rows.assign_Tuple]
  refine wpAny_bind (wpAny_standAt ?_)
  unfold unpack
  rw [hn, hst]
  have hh : X.A.handled = none := I.ok.hd hc
  have fin : ∀ (its : List Value) (s' : Shared) (first rest : List Value), Vals xs its → xs.length ≤ sizeLine → (∀ b o, s.heap.get? b = some o → s'.heap.get? b = some o) → s'.gens = s.gens → s'.drawn = s.drawn → s'.os = s.os → first.length = k → (∀ (j : Nat) u, first[j]? = some u → its[j]? = some u) → rest.length = its.length - k → (∀ (j : Nat) u, rest[j]? = some u → its[k + j]? = some u) →
      wpAny (model X.prog X.w) X.A (newList (rest.take (rest.length - after))) (fun l s'' => wpAny (model X.prog X.w) X.A (assignInOrder ((assignEach es X.env).map (·.2)) (first ++ [l] ++ rest.drop (rest.length - after))) (fun _ s' => ∃ σ' H', Inv X pins σ' H' s' ∧ Q σ' H') X.xe s'') X.xe s' := by
    intro its s' first rest rv z kp e1 e2 e3 l1 g1 l2 g2
    have lx := rv.length
    have hr : rest = its.drop k := by
      apply List.ext_getElem?
      intro j
      rw [List.getElem?_drop]
      cases e : rest[j]? with
      | some u => exact (g2 j u e).symm
      | none =>
        have := List.getElem?_eq_none_iff.mp e
        exact (List.getElem?_eq_none_iff.mpr (by omega)).symm
    have hf : first = its.take k := by
      apply List.ext_getElem?
      intro j
      cases e : first[j]? with
      | some u =>
        have hj := (List.getElem?_eq_some_iff.mp e).1
        rw [List.getElem?_take, if_pos (by omega)]
        exact (g1 j u e).symm
      | none =>
        have := List.getElem?_eq_none_iff.mp e
        exact (List.getElem?_eq_none_iff.mpr (by rw [List.length_take]; omega)).symm
    subst hr hf
    have I1 : Inv X pins σ H { s with heap := s'.heap, toks := s'.toks } := I.kept (t' := s'.toks) kp
    have es' : { s with heap := s'.heap, toks := s'.toks } = s' := by
      cases s'
      simp_all
    rw [es'] at I1
    have hfr : H s'.heap.objs.size = none := I1.hok.fresh (Nat.le_refl _)
    have r1 : Vals ((xs.drop k).take (xs.length - k - after)) ((its.drop k).take ((its.drop k).length - after)) := by
      rw [List.length_drop, ← lx]
      exact (rv.drop k).take _
    have z1 : ((xs.drop k).take (xs.length - k - after)).length ≤ sizeLine := by
      rw [List.length_take, List.length_drop]
      omega
    refine wpAny_newObj_type ?_ (by
      show (_ : Nat) ≤ _
      rw [List.size_toArray, ← r1.length]
      exact z1)
    have I2 : Inv X pins σ (upd H s'.heap.objs.size (.lst ((xs.drop k).take (xs.length - k - after)))) { s' with heap := s'.heap.push { cls := .type "list", dict := none, data := .seq ((its.drop k).take ((its.drop k).length - after)).toArray } } :=
      I1.laid (t' := s'.toks) (fun b u e => Heap.get?_push_of_some _ e) (Nat.le_refl _) ⟨z1, _, 0, r1, Heap.get?_push_size _ rfl⟩
    refine h.run pins _ σ _ _ _ Q I2 ?_ (hw _ hfr)
    have r2 : Vals ((xs.drop k).drop (xs.length - k - after)) ((its.drop k).drop ((its.drop k).length - after)) := by
      rw [List.length_drop, ← lx]
      exact (rv.drop k).drop _
    exact Vals.append (Vals.append (rv.take k) (.cons rfl .nil)) r2
  rcases hq with hq | hq
  · obtain ⟨its, rv, ht, hz⟩ := I.tuple hq
    have lx := rv.length
    have hlt : a ≠ s.heap.objs.size := by obtain ⟨o, ho, _⟩ := ht; exact Nat.ne_of_lt (Heap.lt_size ho)
    refine wpAny_bind (wpAny_holding (star_S (T := "tuple_iterator") (n := its.toArray.size) (P := fun i v => its.toArray[i]? = some v) (s0 := { s with heap := s.heap.push { cls := .type "tuple_iterator", data := .fields #[.ref a, .int 0 0] } })
      (.inr rfl) (Walks.toS (Walks.tuple (A := X.A.in1) hh s.heap.objs.size a hlt its.toArray)) (fun i s st => ?_) (by simp; omega) (by simp; omega) (by simp) (fun i s st b hb => ?_) ?_ (fun Q q => ?_) (fun Q q => ?_) (fun s' first rest mv l1 g1 l2 g2 => ?_)))
    · obtain ⟨o, ho, hcl, _⟩ := st.1
      exact ⟨o, ho, hcl⟩
    · simp at hb
      rcases hb with rfl | rfl
      · obtain ⟨o, ho, _⟩ := st.1
        exact Heap.lt_size ho
      · obtain ⟨o, ho, _⟩ := st.2
        exact Heap.lt_size ho
    · exact ⟨⟨_, Heap.get?_push_size _ rfl, rfl, rfl⟩, ht.push _⟩
    · unfold notIterableAtAll
      exact wpAny_bind (wpAny_specialOf ht.typeIs PyProof.Rows.slot_tuple_iter.lookup (wpAny_pure q))
    · exact wpAny_pyIter_tuple ht q
    · refine fin its s' first rest rv hz (fun b o e => mv.heap b o ?_ (Heap.get?_push_of_some _ e)) mv.gens mv.drawn mv.os l1 (fun j u e => by simpa using g1 j u e) (by simpa using l2) (fun j u e => by simpa using g2 j u e)
      simp
      exact Nat.ne_of_lt (Heap.lt_size e)
  · obtain ⟨its, rv, ht, hz⟩ := I.list hq
    have ht : s.heap.IsList a its.toArray := by
      obtain ⟨o, n, h1, h2, h3, h4⟩ := ht
      exact ⟨o, h1, h2, n, h4⟩
    have lx := rv.length
    have hlt : a ≠ s.heap.objs.size := by obtain ⟨o, ho, _⟩ := ht; exact Nat.ne_of_lt (Heap.lt_size ho)
    refine wpAny_bind (wpAny_holding (star_S (T := "list_iterator") (n := its.toArray.size) (P := fun i v => its.toArray[i]? = some v) (s0 := { s with heap := s.heap.push { cls := .type "list_iterator", data := .fields #[.ref a, .int 0 0] } })
      (.inl rfl) (Walks.toS (Walks.list (A := X.A.in1) hh s.heap.objs.size a hlt its.toArray)) (fun i s st => ?_) (by simp; omega) (by simp; omega) (by simp) (fun i s st b hb => ?_) ?_ (fun Q q => ?_) (fun Q q => ?_) (fun s' first rest mv l1 g1 l2 g2 => ?_)))
    · obtain ⟨o, ho, hcl, _⟩ := st.1
      exact ⟨o, ho, hcl⟩
    · simp at hb
      rcases hb with rfl | rfl
      · obtain ⟨o, ho, _⟩ := st.1
        exact Heap.lt_size ho
      · obtain ⟨o, ho, _⟩ := st.2
        exact Heap.lt_size ho
    · exact ⟨⟨_, Heap.get?_push_size _ rfl, rfl, rfl⟩, ht.push _⟩
    · unfold notIterableAtAll
      exact wpAny_bind (wpAny_specialOf ht.typeIs slot_list_iter.lookup (wpAny_pure q))
    · exact wpAny_pyIter_list ht q
    · refine fin its s' first rest rv hz (fun b o e => mv.heap b o ?_ (Heap.get?_push_of_some _ e)) mv.gens mv.drawn mv.os l1 (fun j u e => by simpa using g1 j u e) (by simpa using l2) (fun j u e => by simpa using g2 j u e)
      simp
      exact Nat.ne_of_lt (Heap.lt_size e)
end
end Bw

namespace Bw
open PySem PySem.Spec PyProof.Rows L2 LamX
/-! list(x), tuple(x), xs.insert -/
section
variable {X : Cx}
def rListOf (K : PySem.W.Frag) : List V → Hp → VK → Prop := fun xs H Q => ∃ p ys, xs = [.ref p] ∧ (SqL K H p ys ∨ SqT K H p ys) ∧ ∀ l, H l = none → Q (.ref l) (upd H l (.lst ys))
theorem cl_list : CallR X (.type "list") (rListOf X.K) := call_list_of
def rTupOf (K : PySem.W.Frag) : List V → Hp → VK → Prop := fun xs H Q => ∃ p ys, xs = [.ref p] ∧ ((SqL K H p ys ∧ ∀ l, H l = none → Q (.ref l) (upd H l (.tup ys))) ∨ (SqT K H p ys ∧ Q (.ref p) H))
theorem cl_tuple : CallR X (.type "tuple") (rTupOf X.K) := call_tuple_of
def rInsert : V → List V → Hp → VK → Prop := fun x vs H Q => ∃ (l : Addr) (xs : List V) (i : Int) (y : V), x = .ref l ∧ vs = [.int i, y] ∧ H l = some (.lst xs) ∧ xs.length < sizeLine ∧ 0 ≤ i ∧ i < 2 ^ 63 ∧ Q .non (upd H l (.lst (xs.take i.toNat ++ [y] ++ xs.drop i.toNat)))
theorem mt_insertN : MtR X "list.insert" rInsert := mt_insert
end
section
variable {K : PySem.W.Frag} {H : Hp} {Q : VK}
theorem w_listOf {p : Addr} {ys : List V} (h : SqL K H p ys) (k : ∀ l H2, H l = none → Same H H2 → H2 l = some (.lst ys) → Q (.ref l) H2) : rListOf K [.ref p] H Q := ⟨p, ys, rfl, .inl h, fun l n => k l _ n (same_new n) upd_same⟩
theorem w_tupOf {p : Addr} {ys : List V} (h : SqL K H p ys) (k : ∀ l H2, H l = none → Same H H2 → H2 l = some (.tup ys) → Q (.ref l) H2) : rTupOf K [.ref p] H Q := ⟨p, ys, rfl, .inl ⟨h, fun l n => k l _ n (same_new n) upd_same⟩⟩
theorem w_tupT {p : Addr} {ys : List V} (h : SqT K H p ys) (q : Q (.ref p) H) : rTupOf K [.ref p] H Q := ⟨p, ys, rfl, .inr ⟨h, q⟩⟩
theorem w_insert {l : Addr} {xs : List V} {i : Int} {y : V} (h : H l = some (.lst xs)) (hl : xs.length ≤ 60000) (h0 : 0 ≤ i) (hi : i ≤ 60000) (k : ∀ H2, KB l H H2 → H2 l = some (.lst (xs.take i.toNat ++ [y] ++ xs.drop i.toNat)) → Q .non H2) : rInsert (.ref l) [.int i, y] H Q :=
  ⟨l, xs, i, y, rfl, rfl, h, Nat.lt_of_le_of_lt hl (by decide), h0, by omega, k _ kb_upd upd_same⟩
end
/-- an if without else, what is behind it once -/
theorem w_decR {c A : Prop} {dc : Decidable c} {D : Ends} {σ : L2.St} {H : Hp} (Inv : L2.St → Hp → Prop) (h2 : ¬ c → Inv σ H) (h1 : (∀ σ H, Inv σ H → D.nx σ H) → c → A) (hi : ∀ σ H, Inv σ H → D.nx σ H) : if decide c = true then A else tNext D σ H := by
  by_cases h : c
  · rw [if_pos (decide_eq_true h)]
    exact h1 hi h
  · rw [if_neg (fun e => h (of_decide_eq_true e))]
    exact hi _ _ (h2 h)
/-! what is a list stays one -/
def Kinds (H H' : Hp) : Prop := (∀ a xs, H a = some (.lst xs) → ∃ ys, H' a = some (.lst ys)) ∧ ∀ a xs, H a = some (.tup xs) → H' a = some (.tup xs)
theorem Kinds.of {H H' : Hp} (e : Same H H') : Kinds H H' := ⟨fun a xs h => ⟨xs, e _ _ h⟩, fun a xs h => e _ _ h⟩
theorem Kinds.kb {p : Addr} {H H' : Hp} {xs ys : List V} (e : KB p H H') (h0 : H p = some (.lst xs)) (h : H' p = some (.lst ys)) : Kinds H H' := by
  refine ⟨fun a zs ha => ?_, fun a zs ha => ?_⟩
  · by_cases ea : a = p
    · exact ⟨ys, ea ▸ h⟩
    · exact ⟨zs, e _ _ ha ea⟩
  · by_cases ea : a = p
    · rw [ea, h0] at ha
      cases ha
    · exact e _ _ ha ea
theorem Kinds.trans {H H1 H' : Hp} (a : Kinds H H1) (b : Kinds H1 H') : Kinds H H' := ⟨fun p xs h => by
  obtain ⟨ys, h1⟩ := a.1 p xs h
  exact b.1 p ys h1, fun p xs h => b.2 p xs (a.2 p xs h)⟩
theorem TxtV.kinds {H H' : Hp} {v : V} (h : TxtV H v) (e : Kinds H H') : TxtV H' v := h.imp id fun q => by
  cases q with
  | non => exact .non
  | int i => exact .int i
  | bl b => exact .bl b
  | lst q => obtain ⟨ys, h1⟩ := e.1 _ _ q; exact .lst h1
  | tup q => exact .tup (e.2 _ _ q)
end Bw

namespace Bw
open PySem PySem.Spec PyProof.Rows L2 LamX
/-! ### own exceptions: the handed value -/
abbrev MonoA (ta : TA) : Prop := ∀ σ H (Q Q' : List V → Hp → Prop), (∀ vs H, Q vs H → Q' vs H) → ta σ H Q → ta σ H Q'
theorem monoV {i : Nat} : MonoA (tCons (tVar i) tNil) := fun σ H Q Q' hq h => by
  obtain ⟨v, e, q⟩ := h
  exact ⟨v, e, hq _ _ q⟩
theorem monoF {K : PySem.W.Frag} {i : Nat} {f : Str} : MonoA (tCons (tFld K (tVar i) f) tNil) := fun σ H Q Q' hq h => by
  obtain ⟨v, e, a, C, dx, fs, u, h1, h2, h3, h4, h5, q⟩ := h
  exact ⟨v, e, a, C, dx, fs, u, h1, h2, h3, h4, h5, hq _ _ q⟩
section
variable {K : PySem.W.Frag} {H : Hp} {Q : VK} {σ : L2.St} {D : Ends}
theorem w_xmk {C : Addr} {f : Str} {dvs : List V} {ta : TA} {QX : XK} (h : ta σ H fun vs H1 => ∃ v, vs ++ dvs = [v] ∧ ∀ d H2, H1 d = none → Same H1 H2 → H2 d = some (.xd [(f, v)]) → QX (.ref C) (some d) H2) : tXmk C f dvs ta σ H QX := h
theorem w_xv {v : V} {R : V → Prop} (h : R v) : ∃ v', [v] ++ [] = [v'] ∧ R v' := ⟨v, rfl, h⟩
theorem w_xv0 {v : V} {R : V → Prop} (h : R v) : ∃ v', [] ++ [v] = [v'] ∧ R v' := ⟨v, rfl, h⟩
/-! ### augmented stores -/
theorem w_aug {i : Nat} {te : TE} {ti : TIp} {x : V} (hx : σ[i]? = some (some x)) (h : te σ H fun y H1 => ti x y H1 fun z H2 => D.nx (σ.set i (some z)) H2) : tAug i te ti D σ H := ⟨x, hx, h⟩
theorem w_ipI {f : Int → Int → Int} {i j : Int} (q : Q (.int (f i j)) H) : ipI f (.int i) (.int j) H Q := ⟨i, j, rfl, rfl, q⟩
theorem w_rAdd {i j : Int} (q : Q (.int (i + j)) H) : L2.rAdd (.int i) (.int j) H Q := ⟨i, j, rfl, rfl, q⟩
theorem w_faug {ta tv : TE} {rd : V → V → Hp → VK → Prop} {f : Str} (h : ta σ H fun x H1 => ∃ a C dx fs v, x = .ref a ∧ H1 a = some (.ins C dx fs) ∧ Cls K C ∧ NoAttr K C f ∧ fs.lookup f = some v ∧
  tv σ H1 fun y H2 => rd v y H2 fun z H3 => ∃ dx' fs', H3 a = some (.ins C dx' fs') ∧ fs'.length < 1000 ∧ D.nx σ (upd H3 a (.ins C dx' (putF f z fs')))) : sFldAug K ta tv rd f D σ H := h
theorem w_faug1 {a C dx : Addr} {fs : List (Str × V)} {f : Str} {v : V} {R : Addr → Addr → V → Prop} (ho : H a = some (.ins C dx fs)) (hc : Cls K C) (hn : NoAttr K C f) (hl : fs.lookup f = some v) (q : R a C v) :
    ∃ a' C dx fs v, V.ref a = .ref a' ∧ H a' = some (.ins C dx fs) ∧ Cls K C ∧ NoAttr K C f ∧ fs.lookup f = some v ∧ R a' C v := ⟨a, C, dx, fs, v, rfl, ho, hc, hn, hl, q⟩
theorem w_faug2 {a C dx : Addr} {fs : List (Str × V)} {R : Addr → List (Str × V) → Prop} (ho : H a = some (.ins C dx fs)) (hl : fs.length < 1000) (q : R dx fs) :
    ∃ dx' fs', H a = some (.ins C dx' fs') ∧ fs'.length < 1000 ∧ R dx' fs' := ⟨dx, fs, ho, hl, q⟩
theorem w_notInS {c : Nat} {z : Str} (q : Q (.bl (!decide (c ∈ z.cps.toList))) H) : rNotInS (.str ⟨#[c]⟩) (.str z) H Q := ⟨c, z, rfl, rfl, q⟩
end
section
variable {X : Cx}
theorem ip_addS : PIp X .Add Bw.rAddS := fun pins s σ H x y v u Q I rx ry h => iop_add_str pins s σ H x y v u Q I rx ry h
theorem iop_mulU : OpR X (inplaceOp .Mult) (rI CMulU fun i j => .int (i * j)) := opI fun _ _ _ _ _ _ _ hc q => imul_int q hc
theorem ip_mulU : PIp X .Mult (rI CMulU fun i j => .int (i * j)) := fun pins s σ H x y v u Q I rx ry h => iop_mulU pins s σ H x y v u Q I rx ry h
theorem ip_modU : PIp X .Mod (rI (fun _ j => 0 < j) fun i j => .int (i % j)) := fun pins s σ H x y v u Q I rx ry h => iop_mod pins s σ H x y v u Q I rx ry h
/-! ### divmod, str.index -/
def rDivmod : List V → Hp → VK → Prop := fun xs H Q => ∃ i j, xs = [.int i, .int j] ∧ CDivP i j ∧ ∀ p, H p = none → Q (.ref p) (upd H p (.tup [.int (i / j), .int (i % j)]))
theorem cl_divmod : CallR X (.builtin "divmod") rDivmod := call_divmodW
def rSIdx : V → List V → Hp → VK → Prop := fun x xs H Q => ∃ a b i rest, x = .str a ∧ xs = [.str b] ∧ Builtin.Str.occurrences a b 0 a.length 1 = i :: rest ∧ Q (.int (i : Nat)) H
theorem mt_sidx : MtR X "str.index" rSIdx := mt_sindex
end
section
variable {H : Hp} {Q : VK}
theorem w_divmod {i j : Int} (h0 : 0 < j) (hb : j.natAbs < 2 ^ 64) (k : ∀ p H2, H p = none → Same H H2 → H2 p = some (.tup [.int (i / j), .int (i % j)]) → Q (.ref p) H2) : rDivmod [.int i, .int j] H Q :=
  ⟨i, j, rfl, ⟨h0, PyProof.noPylong_of_log2 (Nat.lt_of_lt_of_le (PySem.Flt.log2_lt_of (by decide) hb) (by decide : 64 ≤ 9000))⟩, fun p n => k p _ n (same_new n) upd_same⟩
theorem w_sidx {a b : Str} {i : Nat} {rest : List Nat} (e : Builtin.Str.occurrences a b 0 a.length 1 = i :: rest) (q : Q (.int (i : Nat)) H) : rSIdx (.str a) [.str b] H Q := ⟨a, b, i, rest, rfl, rfl, e, q⟩
end
/-! ### any thing of the plain kinds -/
inductive Thg (H : Hp) : V → Prop
  | non : Thg H .non
  | int (i : Int) : Thg H (.int i)
  | bl (b : Bool) : Thg H (.bl b)
  | str (x : Str) : Thg H (.str x)
  | lst {a : Addr} {xs : List V} : H a = some (.lst xs) → Thg H (.ref a)
  | tup {a : Addr} {xs : List V} : H a = some (.tup xs) → Thg H (.ref a)
theorem Thg.ext {H H' : Hp} {v : V} (h : Thg H v) (e : ExtN H H') : Thg H' v := by
  cases h with
  | non => exact .non
  | int i => exact .int i
  | bl b => exact .bl b
  | str x => exact .str x
  | lst q => exact .lst (e _ _ q (fun _ z => by cases z))
  | tup q => exact .tup (e _ _ q (fun _ z => by cases z))
theorem Thg.same {H H' : Hp} {v : V} (h : Thg H v) (e : Same H H') : Thg H' v := h.ext (extn_same e)
theorem Thg.kinds {H H' : Hp} {v : V} (h : Thg H v) (e : Kinds H H') : Thg H' v := by
  cases h with
  | non => exact .non
  | int i => exact .int i
  | bl b => exact .bl b
  | str x => exact .str x
  | lst q => obtain ⟨ys, h1⟩ := e.1 _ _ q; exact .lst h1
  | tup q => exact .tup (e.2 _ _ q)
/-- no list -/
inductive NoL (H : Hp) : V → Prop
  | non : NoL H .non
  | int (i : Int) : NoL H (.int i)
  | bl (b : Bool) : NoL H (.bl b)
  | str (x : Str) : NoL H (.str x)
  | tup {a : Addr} {xs : List V} : H a = some (.tup xs) → NoL H (.ref a)
theorem NoL.ty {K : PySem.W.Frag} {H : Hp} {v : V} (h : NoL H v) : ∃ tv, TyX K H v (.type tv) ∧ kitB tv "list" = some false := by
  cases h with
  | non => exact ⟨_, tyx_non, kit_NoneType_list⟩
  | int i => exact ⟨_, tyx_int, kit_int_list⟩
  | bl b => exact ⟨_, tyx_bl, kit_bool_list⟩
  | str x => exact ⟨_, tyx_str, kit_str_list⟩
  | tup e => exact ⟨_, tyx_tup e, kit_tuple_list⟩
theorem NoL.ext {H H' : Hp} {v : V} (h : NoL H v) (e : ExtN H H') : NoL H' v := by
  cases h with
  | non => exact .non
  | int i => exact .int i
  | bl b => exact .bl b
  | str x => exact .str x
  | tup q => exact .tup (e _ _ q (fun _ z => by cases z))
theorem NoL.thg {H : Hp} {v : V} (h : NoL H v) : Thg H v := by
  cases h with
  | non => exact .non
  | int i => exact .int i
  | bl b => exact .bl b
  | str x => exact .str x
  | tup q => exact .tup q
/-- refused with C, the field is v -/
def Raz (E : XK) (H : Hp) (C : Addr) (v : V) : Prop := ∀ d H', H d = none → Same H H' → H' d = some (.xd [("at", v)]) → E (.ref C) (some d) H'
theorem Raz.same {E : XK} {H H1 : Hp} {C : Addr} {v : V} (h : Raz E H C v) (s : Same H H1) : Raz E H1 C v := fun d H' n s' e => h d H' (same_free s n) (s.trans s') e
theorem kb_newD {p q : Addr} {H H' : Hp} {o : HO} (k : KB p H H') (hp : H' p = some o) (n : H' q = none) : H q = none := by
  cases e : H q with
  | none => rfl
  | some u =>
    have ne : q ≠ p := fun z => by rw [z, hp] at n; cases n
    rw [k q u e ne] at n
    cases n
theorem kb2 {p D : Addr} {H H4 H5 : Hp} (a : KB p H H4) (b : KB D H4 H5) (n : H D = none) : KB p H H5 := fun c o h nc => b c o (a c o h nc) (ne_of_none h n)
/-! ### texts by their signs -/
theorem str_ext {x y : Str} (h : x.cps.toList = y.cps.toList) : x = y := by
  obtain ⟨⟨a⟩⟩ := x
  obtain ⟨⟨b⟩⟩ := y
  congr 2
theorem cps_append (x y : Str) : (x ++ y).cps.toList = x.cps.toList ++ y.cps.toList := TL.tl_append x y
def S (l : List Nat) : Str := ⟨l.toArray⟩
theorem cps_S (l : List Nat) : (S l).cps.toList = l := rfl
theorem len_S (l : List Nat) : (S l).length = l.length := by
  show l.toArray.size = l.length
  simp
theorem len_cps (x : Str) : x.cps.toList.length = x.length := Array.length_toList
/-! ### lists of ints -/
section
variable {K : PySem.W.Frag} {H : Hp}
theorem dpAll_int : ∀ bs : List Int, DpAll K H (bs.map V.int) (bs.map PyData.int)
  | [] => .nil
  | b :: r => .cons (.int b) (dpAll_int r)
theorem depth_int : ∀ bs : List Int, PyData.depthAll (bs.map PyData.int) = 0
  | [] => rfl
  | b :: r => by simp [PyData.depthAll, PyData.depth, depth_int r]
theorem lay_int : ∀ {bs : List Int}, PyData.canLayAll0 (bs.map PyData.int) = true
  | [] => by simp [PyData.canLayAll0]
  | b :: r => by simp [PyData.canLayAll0, PyData.canLay0, lay_int (bs := r)]
theorem shaped_int {bs : List Int} : SeqAt.shaped (.list (bs.map PyData.int)) = true := by
  simp [SeqAt.shaped, PyData.canLay0, lay_int, PyData.depth, depth_int]
theorem eqvAll_int : ∀ bs cs : List Int, PyData.eqvAll (bs.map PyData.int) (cs.map PyData.int) = decide (bs = cs)
  | [], [] => by simp [PyData.eqvAll]
  | [], c :: s => by simp [PyData.eqvAll]
  | b :: r, [] => by simp [PyData.eqvAll]
  | b :: r, c :: s => by
    simp only [List.map_cons, PyData.eqvAll, PyData.eqv, eqvAll_int r s, List.cons.injEq]
    by_cases h1 : b = c <;> by_cases h2 : r = s <;> simp [h1, h2]
theorem eqv_ints (bs cs : List Int) : PyData.eqv (.list (bs.map PyData.int)) (.list (cs.map PyData.int)) = decide (bs = cs) := by
  simp only [PyData.eqv, eqvAll_int]
end
end Bw

namespace Bw
open PySem PySem.Spec PyProof.Rows L2 LamX
abbrev selfAt : List Str := ["self", "at"]
/-- an own exception with the field at, from what K holds -/
theorem xcl_of {P : Program} {w : World} {K : PySem.W.Frag} {mg : Str → Option Value} {base : Heap} {x qual : Str} {C fI T : Addr} {st : Stmt} {oc ocT kV doc pm cd ct : Value} {od odT an : Option Addr} {sl slT : Array (Option Value)} {nT : Nat}
    (T0 : OexC K C) (no : PySem.W.findIn K (.ref C) "at" = some none) (hm : mg x = some (.ref C)) (iC : PySem.W.findIn K (.ref C) "__init__" = some (some (.ref fI))) (tI : PySem.W.typeIn K (.ref fI) = some (.type "function"))
    (l : K.lookup fI = some ⟨oc, od, .func (PySem.W.fnOf "__init__" qual (defArgs st) (defBody st) (defScope st) (.ref T) kV doc pm an cd ct), sl⟩) (hc : PySem.W.codeIn K cd qual = true) (kp : PySem.W.keepIn K (.ref fI) = true)
    (lT : K.lookup T = some ⟨ocT, odT, .seq (List.toArray [.none]) nT, slT⟩)
    (F0 : ∀ fd, FunD K "__init__" qual (defArgs st) (defBody st) (defScope st) [.non] [] fI fd → FnOk P w K mg base CX0 1 fI fd selfAt (spXi K "at"))
    (b0 : ∀ (T : Addr) (kV doc pm : Value) (an : Option Addr) (cdv ct : Value) (us its : List Value), us.length = 1 → its.length = 1 →
      ∃ k, bindArgs (PySem.W.fnOf "__init__" qual (defArgs st) (defBody st) (defScope st) (.ref T) kV doc pm an cdv ct) ⟨us, []⟩ = seqItems? (.ref T) >>= k ∧ k (some its.toArray) = pure (selfAt.zip (us ++ its.drop 0)))
    (b1 : ∀ (T : Addr) (kV doc pm : Value) (an : Option Addr) (cdv ct : Value) (us its : List Value), us.length = 2 → its.length = 1 →
      ∃ k, bindArgs (PySem.W.fnOf "__init__" qual (defArgs st) (defBody st) (defScope st) (.ref T) kV doc pm an cdv ct) ⟨us, []⟩ = seqItems? (.ref T) >>= k ∧ k (some its.toArray) = pure (selfAt.zip (us ++ its.drop 1))) :
    Xcl P w K mg base x C 1 "at" [.non] ∧ Xcl P w K mg base x C 1 "at" [] := by
  have F : FunD K "__init__" qual (defArgs st) (defBody st) (defScope st) [.non] [] fI _ := ⟨⟨_, _, _, _, _, _, _, _, _, _, rfl, l, hc, .inr ⟨by simp, _, _, _, _, rfl, lT, rfl, .cons rfl .nil⟩, .inl rfl⟩, kp⟩
  obtain ⟨d0, h0, e0⟩ := F.binds1 (ps := selfAt) 1 0 (by simp) rfl b0
  obtain ⟨d1, h1, e1⟩ := F.binds1 (ps := selfAt) 2 1 (by simp) rfl b1
  exact ⟨⟨T0, no, hm, fI, _, d0, _, iC, tI, F0 _ F, e0, h0⟩, ⟨T0, no, hm, fI, _, d1, _, iC, tI, F0 _ F, e1, h1⟩⟩
theorem oex_mk {K : PySem.W.Frag} {C : Addr} {nm q : Str} {N : Addr} {bs bm : List Value} {sn : List Str} {sub : List Value} {ab : Bool} {col : Option Bool} {dd : Option Addr} {k0 k1 k2 k3 k5 : Option Value}
    (l : K.lookup C = some (excClassObj nm q C N bs bm true sn sub ab col dd k0 k1 k2 k3 k5 "ValueError.__new__")) (r : PySem.HandSPX.refsVE bm = true) (sa : PySem.W.findIn K (.ref C) "__setattr__" = some (some (.builtin "object.__setattr__")))
    (exC : PySem.W.subIn K (.ref C) (.type "BaseException") = some true) (tyC : PySem.W.typeIn K (.ref C) = some (.type "type")) (kC : PySem.W.keepIn K (.ref C) = true) : OexC K C := ⟨⟨nm, q, N, bs, bm, sn, sub, ab, col, dd, k0, k1, k2, k3, k5, l, r⟩, sa, exC, tyC, kC⟩
/-! ### data that can be compared -/
structure GoodD (d : PyData) (n : Nat) : Prop where
  lay : PyData.canLay0 d = true
  dep : PyData.depth d ≤ n
  refl : PyData.eqv d d = true
theorem GoodD.shaped {d : PyData} {n : Nat} (h : GoodD d n) (hn : n ≤ 64) : SeqAt.shaped d = true := by
  unfold SeqAt.shaped
  rw [h.lay, decide_eq_true (Nat.le_trans h.dep hn)]
  rfl
theorem GoodD.mono {d : PyData} {n m : Nat} (h : GoodD d n) (l : n ≤ m) : GoodD d m := ⟨h.lay, Nat.le_trans h.dep l, h.refl⟩
theorem good_int {i : Int} {n : Nat} : GoodD (.int i) n := ⟨by simp [PyData.canLay0], by simp [PyData.depth], by simp [PyData.eqv]⟩
theorem good_bool {b : Bool} {n : Nat} : GoodD (.bool b) n := ⟨by simp [PyData.canLay0], by simp [PyData.depth], by simp [PyData.eqv]⟩
theorem good_none {n : Nat} : GoodD .none n := ⟨by simp [PyData.canLay0], by simp [PyData.depth], by simp [PyData.eqv]⟩
theorem good_str {x : Str} {n : Nat} (h : PyData.strOk x = true) : GoodD (.str x) n := ⟨by simp [PyData.canLay0, h], by simp [PyData.depth], by simp [PyData.eqv]⟩
theorem good_all {n : Nat} : ∀ {ds : List PyData}, (∀ d ∈ ds, GoodD d n) → PyData.canLayAll0 ds = true ∧ PyData.depthAll ds ≤ n ∧ PyData.eqvAll ds ds = true
  | [], _ => by simp [PyData.canLayAll0, PyData.depthAll, PyData.eqvAll]
  | d :: r, h => by
    obtain ⟨h1, h2, h3⟩ := good_all (ds := r) (fun x hx => h x (List.mem_cons_of_mem _ hx))
    have h0 := h d List.mem_cons_self
    refine ⟨by simp [PyData.canLayAll0, h0.lay, h1], ?_, by simp [PyData.eqvAll, h0.refl, h3]⟩
    have := h0.dep
    simp only [PyData.depthAll]
    omega
theorem good_list {n : Nat} {ds : List PyData} (h : ∀ d ∈ ds, GoodD d n) : GoodD (.list ds) (n + 1) := by
  obtain ⟨h1, h2, h3⟩ := good_all h
  exact ⟨by simp [PyData.canLay0, h1], by simp only [PyData.depth]; omega, by simp [PyData.eqv, h3]⟩
theorem good_tuple {n : Nat} {ds : List PyData} (h : ∀ d ∈ ds, GoodD d n) : GoodD (.tuple ds) (n + 1) := by
  obtain ⟨h1, h2, h3⟩ := good_all h
  exact ⟨by simp [PyData.canLay0, h1], by simp only [PyData.depth]; omega, by simp [PyData.eqv, h3]⟩
section
variable {K : PySem.W.Frag} {H : Hp} {Q : VK}
/-- one thing equals the like -/
theorem w_eqG {x y : V} {d : PyData} {n : Nat} (hx : Dp K H x d) (hy : Dp K H y d) (g : GoodD d n) (hn : n ≤ 64) (q : Q (.bl true) H) : rEqD K x y H Q := w_eqD hx hy (g.shaped hn) (g.shaped hn) g.refl q
theorem w_neG {x y : V} {d : PyData} {n : Nat} (hx : Dp K H x d) (hy : Dp K H y d) (g : GoodD d n) (hn : n ≤ 64) (q : Q (.bl false) H) : rNeD K x y H Q := w_neD hx hy (g.shaped hn) (g.shaped hn) g.refl q
theorem DpAll.append : ∀ {xs ys : List V} {ds es : List PyData}, DpAll K H xs ds → DpAll K H ys es → DpAll K H (xs ++ ys) (ds ++ es)
  | _, _, _, _, .nil, h => h
  | _, _, _, _, .cons h r, h2 => .cons h (DpAll.append r h2)
def nD (n : Nat) : PyData := .int n
theorem dpAll_nat {f : Nat → V} (hf : ∀ n, f n = .int n) : ∀ ns : List Nat, DpAll K H (ns.map f) (ns.map nD)
  | [] => .nil
  | n :: r => .cons (by rw [hf n]; exact .int _) (dpAll_nat hf r)
theorem good_nats (ns : List Nat) : ∀ d ∈ ns.map nD, GoodD d 0 := fun d hd => by
  obtain ⟨n, _, rfl⟩ := List.mem_map.mp hd
  exact good_int
theorem same_dp {H' : Hp} {v : V} {d : PyData} (s : Same H H') (h : Dp K H v d) : Dp K H' v d := Dp.extn (extn_same s) h
theorem same_dpAll {H' : Hp} {vs : List V} {ds : List PyData} (s : Same H H') (h : DpAll K H vs ds) : DpAll K H' vs ds := DpAll.extn (extn_same s) h
end
end Bw

namespace Bw
open PySem PySem.Spec PyProof.Rows L2 LamX
section
variable {K : PySem.W.Frag} {H : Hp} {Q : VK} {σ : L2.St}
theorem w_revE {te : TE} (h : te σ H fun x H1 => ∃ a xs, x = .ref a ∧ SqL K H1 a xs ∧ ∀ p, H1 p = none → Q (.ref p) (upd H1 p (.lst xs.reverse))) : tRevL K te σ H Q := h
theorem w_rev {a : Addr} {xs : List V} (h : SqL K H a xs) (k : ∀ p H2, H p = none → Same H H2 → H2 p = some (.lst xs.reverse) → Q (.ref p) H2) : ∃ a' xs, V.ref a = .ref a' ∧ SqL K H a' xs ∧ ∀ p, H p = none → Q (.ref p) (upd H p (.lst xs.reverse)) := ⟨a, xs, rfl, h, fun p n => k p _ n (same_new n) upd_same⟩
end
end Bw

namespace Bw
open PySem PySem.Spec PyProof.Rows L2 LamX
/-! ### d.setdefault(k, v); classes made by keywords -/
section
variable {H : Hp} {Q : VK} {σ : L2.St}
theorem w_dsetd {td ty tx : TE} (h : td σ H fun x H1 => ∃ a, x = .ref a ∧ IsD H1 a ∧ ty σ H1 fun y H2 => tx σ H2 fun z H3 => ∃ (kvs : List (Key × V)) (k : Key), H3 a = some (.dK kvs) ∧ y = kV k ∧ kvs.length < sizeLine ∧
  (∀ v, valV kvs k = some v → Q v H3) ∧ (valV kvs k = none → Q z (upd H3 a (.dK (putK kvs k z))))) : tDSetd td ty tx σ H Q := h
theorem w_dset1 {a : Addr} {kvs : List (Key × V)} {R : Addr → Prop} (h : H a = some (.dK kvs)) (q : R a) : ∃ a', V.ref a = .ref a' ∧ IsD H a' ∧ R a' := ⟨a, rfl, .inl ⟨kvs, .inl h⟩, q⟩
theorem w_dnewK (k : ∀ p H2, H p = none → Same H H2 → H2 p = some (.dK []) → Q (.ref p) H2) : tDNewK σ H Q := fun p n => k p _ n (same_new n) upd_same
end
def rRepS : R2 := fun x y H Q => ∃ z n, x = .str z ∧ y = .int n ∧ MulOk z n ∧ Q (.str (Txt.mul z n)) H
theorem op_repS {X : Cx} : OpR X (binaryOp .Mult) rRepS := by
  intro pins s σ H x y v u Q I rx ry h
  obtain ⟨i, j, rfl, rfl, hz, q⟩ := h
  obtain ⟨t, rfl⟩ := rx
  obtain ⟨t', rfl⟩ := ry
  exact SB.mul hz fun t' tk => ⟨.str _, H, I.tok _, ⟨_, rfl⟩, q⟩
theorem w_repS {z : Str} {n : Int} {H : Hp} {Q : VK} (h : MulOk z n) (q : Q (.str (Txt.mul z n)) H) : rRepS (.str z) (.int n) H Q := ⟨z, n, rfl, rfl, h, q⟩
theorem ip_fdivU {X : Cx} : PIp X .FloorDiv (rI CDiv fun i j => .int (i / j)) := fun pins s σ H x y v u Q I rx ry h => iop_fdiv pins s σ H x y v u Q I rx ry h
theorem w_fdivI {i j : Int} {H : Hp} {Q : VK} (h : CDiv i j) (q : Q (.int (i / j)) H) : rI CDiv (fun i j => .int (i / j)) (.int i) (.int j) H Q := ⟨i, j, rfl, rfl, h, q⟩
structure MkrXK (P : Program) (w : World) (K : PySem.W.Frag) (mg : Str → Option Value) (base : Heap) (x : Str) (C : Addr) (k : Nat) (ps : List Str) (ks : List Str) (gV : List V → List V → List V) (sp : Sp) : Prop where
  ex : ∃ (f : Addr) (fd : FuncData) (g : List Value → List Value → List Value), Mk K C f ∧ FnOk P w K mg base (L2.CX P w) k f fd ps sp ∧ mg x = some (.ref C) ∧ KBn K fd ps 1 ks g gV
section
variable {X : Cx}
theorem pe_mkxk {E : XK} {x : Str} {C : Addr} {k : Nat} {ps ks : List Str} {gV : List V → List V → List V} {sp : Sp} {kws : List Keyword} {tk : TA} {p pos : Pos} (M : MkrXK X.prog X.w X.K X.mg X.base x C k ps ks gV sp) (hx : Lets X E) (hr : Room (k + 1) X.A) (hg : Gl X x) (hkw : PK X kws tk)
    (hall : (backToKw pos (keywordEach kws X.env)).all (·.1.isSome) = true := by rfl) (hks : (backToKw pos (keywordEach kws X.env)).filterMap (·.1) = ks := by rfl) (hdb : (x == ("__debug__" : Str)) = false := by decide)
    (hpl : ((backTo pos (starEach [] X.env)).any (·.1) || (backToKw pos (keywordEach kws X.env)).any (·.1.isNone)) = false := by rfl) :
    PE X (.Call (.Name x p) [] kws pos) (tMakeK C 0 ks.length sp gV E tNil tk) := by
  obtain ⟨f, fd, g, M, G, hm, hb⟩ := M.ex
  exact pe_makeK0 M G hr hg hm hb hx hkw hall hks hdb hpl
end
end Bw

namespace CM
/-! codes of numbers, as lists of signs -/
def eIx (c : Nat) : Option Nat := if 97 ≤ c ∧ c ≤ 112 then some (c - 97) else none
def fIx (c : Nat) : Option Nat := if 65 ≤ c ∧ c ≤ 80 then some (c - 65) else none
theorem eIx_end {d : Nat} (h : d < 16) : eIx (97 + d) = some d := by
  unfold eIx
  rw [if_pos ⟨by omega, by omega⟩]
  congr 1
  omega
theorem eIx_fur {d : Nat} (h : d < 16) : eIx (65 + d) = none := by
  unfold eIx
  rw [if_neg (fun z => by omega)]
theorem fIx_fur {d : Nat} (h : d < 16) : fIx (65 + d) = some d := by
  unfold fIx
  rw [if_pos ⟨by omega, by omega⟩]
  congr 1
  omega
theorem eIx_some {c d : Nat} (h : eIx c = some d) : c = 97 + d ∧ d < 16 := by
  unfold eIx at h
  split at h
  · cases h
    omega
  · cases h
theorem fIx_some {c d : Nat} (h : fIx c = some d) : c = 65 + d ∧ d < 16 := by
  unfold fIx at h
  split at h
  · cases h
    omega
  · cases h
def codeL (n : Nat) : List Nat := if n < 16 then [97 + n] else (65 + n % 16) :: codeL (n / 16)
termination_by n
decreasing_by omega
theorem codeL_lt {n : Nat} (h : n < 16) : codeL n = [97 + n] := by rw [codeL, if_pos h]
theorem codeL_ge {n : Nat} (h : 16 ≤ n) : codeL n = (65 + n % 16) :: codeL (n / 16) := by rw [codeL, if_neg (by omega)]
theorem codeL_len {k : Nat} : ∀ {n : Nat}, n < 16 ^ (k + 1) → (codeL n).length ≤ k + 1 := by
  induction k with
  | zero => intro n h; rw [codeL_lt (by simpa using h)]; simp
  | succ k ih =>
    intro n h
    rcases Nat.lt_or_ge n 16 with h1 | h1
    · rw [codeL_lt h1]; simp
    · rw [codeL_ge h1, List.length_cons]
      have : n / 16 < 16 ^ (k + 1) := by
        rw [Nat.div_lt_iff_lt_mul (by decide)]
        rw [Nat.pow_succ] at h
        exact h
      have := ih this
      omega
theorem codeL_ne {n : Nat} : codeL n ≠ [] := by
  rw [codeL]
  split <;> simp
theorem codeL_signs : ∀ {n : Nat}, ∀ c ∈ codeL n, c < 128 := by
  intro n
  induction n using Nat.strongRecOn with
  | ind n ih =>
    intro c hc
    rcases Nat.lt_or_ge n 16 with h1 | h1
    · rw [codeL_lt h1] at hc
      simp at hc
      omega
    · rw [codeL_ge h1] at hc
      rcases List.mem_cons.mp hc with h | h
      · omega
      · exact ih _ (by omega) c h
/-- the digits, the least one first -/
def digs (n : Nat) : List Nat := if n < 16 then [n] else (n % 16) :: digs (n / 16)
termination_by n
decreasing_by omega
theorem digs_lt {n : Nat} (h : n < 16) : digs n = [n] := by rw [digs, if_pos h]
theorem digs_ge {n : Nat} (h : 16 ≤ n) : digs n = (n % 16) :: digs (n / 16) := by rw [digs, if_neg (by omega)]
theorem digs_ne {n : Nat} : digs n ≠ [] := by
  rw [digs]
  split <;> simp
theorem digs_16 : ∀ {n : Nat}, ∀ d ∈ digs n, d < 16 := by
  intro n
  induction n using Nat.strongRecOn with
  | ind n ih =>
    intro c hc
    rcases Nat.lt_or_ge n 16 with h1 | h1
    · rw [digs_lt h1] at hc
      simp at hc
      omega
    · rw [digs_ge h1] at hc
      rcases List.mem_cons.mp hc with h | h
      · omega
      · exact ih _ (by omega) c h
def finL : List Nat → List Nat
  | [] => []
  | [d] => [97 + d]
  | d :: e :: r => (65 + d) :: finL (e :: r)
theorem codeL_fin : ∀ {n : Nat}, codeL n = finL (digs n) := by
  intro n
  induction n using Nat.strongRecOn with
  | ind n ih =>
    rcases Nat.lt_or_ge n 16 with h1 | h1
    · rw [codeL_lt h1, digs_lt h1]
      rfl
    · rw [codeL_ge h1, digs_ge h1, ih _ (by omega)]
      cases h : digs (n / 16) with
      | nil => exact absurd h digs_ne
      | cons d r => rfl
theorem digs_len {n : Nat} : (digs n).length = (codeL n).length := by
  rw [codeL_fin]
  generalize digs n = l
  induction l with
  | nil => rfl
  | cons d r ih =>
    cases r with
    | nil => rfl
    | cons e s => simpa [finL] using ih
theorem finL_last : ∀ {ds : List Nat} {i d : Nat}, ds[i]? = some d → i + 1 = ds.length → finL ds = (ds.take i).map (65 + ·) ++ [97 + d]
  | [], i, d, h, _ => by simp at h
  | [x], i, d, h, hl => by
    have : i = 0 := by simp at hl; omega
    subst this
    simp at h
    subst h
    rfl
  | x :: y :: r, 0, d, h, hl => by simp at hl
  | x :: y :: r, i + 1, d, h, hl => by
    have := finL_last (ds := y :: r) (i := i) (d := d) (by simpa using h) (by simpa using hl)
    simp only [finL, this, List.take_succ_cons, List.map_cons, List.cons_append]
/-- a number's code is read; i: the place -/
def rdNum : List Nat → Nat → Nat → Nat → Bool → Except Nat (Nat × Nat)
  | [], i, _, _, _ => .error i
  | c :: r, i, told, scale, fst => match eIx c with
    | some d => if d = 0 ∧ fst = false then .error i else .ok (told + scale * d, i + 1)
    | none => match fIx c with
      | some d => rdNum r (i + 1) (told + scale * d) (scale * 16) false
      | none => .error i
/-- all codes of a text are read -/
def sc : List Nat → Nat → Nat → Nat → List Nat → Except Nat (List Nat)
  | [], i, _, scale, acc => if scale = 1 then .ok acc else .error i
  | c :: r, i, num, scale, acc => match eIx c with
    | some d => if d = 0 ∧ scale ≠ 1 then .error i else sc r (i + 1) 0 1 (acc ++ [num + scale * d])
    | none => match fIx c with
      | some d => sc r (i + 1) (num + scale * d) (scale * 16) acc
      | none => .error i
theorem sc_cons (c : Nat) (r : List Nat) (i num scale : Nat) (acc : List Nat) : sc (c :: r) i num scale acc = match eIx c with
    | some d => if d = 0 ∧ scale ≠ 1 then .error i else sc r (i + 1) 0 1 (acc ++ [num + scale * d])
    | none => match fIx c with
      | some d => sc r (i + 1) (num + scale * d) (scale * 16) acc
      | none => .error i := rfl
theorem rd_cons (c : Nat) (r : List Nat) (i told scale : Nat) (fst : Bool) : rdNum (c :: r) i told scale fst = match eIx c with
    | some d => if d = 0 ∧ fst = false then .error i else .ok (told + scale * d, i + 1)
    | none => match fIx c with
      | some d => rdNum r (i + 1) (told + scale * d) (scale * 16) false
      | none => .error i := rfl
theorem rd_le : ∀ {cs : List Nat} {i told scale : Nat} {fst : Bool} {n j : Nat}, rdNum cs i told scale fst = .ok (n, j) → i < j ∧ j ≤ i + cs.length
  | [], i, told, scale, fst, n, j, h => by simp [rdNum] at h
  | c :: r, i, told, scale, fst, n, j, h => by
    unfold rdNum at h
    split at h
    · split at h
      · cases h
      · cases h
        simp
    · split at h
      · have := rd_le h
        simp only [List.length_cons]
        omega
      · cases h
theorem drop_next {t : List Nat} {i : Nat} {c : Nat} {r : List Nat} (h : t.drop i = c :: r) : t.drop (i + 1) = r := by
  rw [← List.drop_drop, h]
  rfl
theorem sc_rd {t : List Nat} : ∀ {cs : List Nat} {i num scale : Nat} {fst : Bool} {acc : List Nat}, t.drop i = cs → 0 < scale → (fst = true ↔ scale = 1) → (cs ≠ [] ∨ fst = false) →
    sc cs i num scale acc = match rdNum cs i num scale fst with
      | .error k => .error k
      | .ok (n, j) => sc (t.drop j) j 0 1 (acc ++ [n])
  | [], i, num, scale, fst, acc, ht, hs, hf, hn => by
    have h : ¬ scale = 1 := fun z => by
      have := hf.mpr z
      rcases hn with h | h
      · exact h rfl
      · rw [h] at this
        cases this
    simp [sc, rdNum, h]
  | c :: r, i, num, scale, fst, acc, ht, hs, hf, hn => by
    rw [sc_cons, rd_cons]
    cases he : eIx c with
    | some d =>
      have e : (d = 0 ∧ scale ≠ 1) ↔ (d = 0 ∧ fst = false) := by
        constructor
        · intro ⟨a, b⟩
          refine ⟨a, ?_⟩
          cases fst with
          | true => exact absurd (hf.mp rfl) b
          | false => rfl
        · intro ⟨a, b⟩
          exact ⟨a, fun z => by rw [b] at hf; exact absurd (hf.mpr z) Bool.noConfusion⟩
      by_cases hd : d = 0 ∧ fst = false
      · simp only [if_pos hd, if_pos (e.mpr hd)]
      · simp only [if_neg hd, if_neg (fun z => hd (e.mp z)), drop_next ht]
    | none =>
      cases hfx : fIx c with
      | some d =>
        simp only
        exact sc_rd (drop_next ht) (by omega) ⟨fun h => Bool.noConfusion h, fun h => by omega⟩ (.inr rfl)
      | none => rfl
theorem sc_step {t : List Nat} {i : Nat} {acc : List Nat} (h : i < t.length) : sc (t.drop i) i 0 1 acc = match rdNum (t.drop i) i 0 1 true with
      | .error k => .error k
      | .ok (n, j) => sc (t.drop j) j 0 1 (acc ++ [n]) :=
  sc_rd rfl (by omega) (by simp) (.inl (fun z => by
    have := congrArg List.length z
    simp at this
    omega))
theorem sc_end {t : List Nat} {i : Nat} {acc : List Nat} (h : t.length ≤ i) : sc (t.drop i) i 0 1 acc = .ok acc := by
  rw [List.drop_eq_nil_of_le h]
  rfl
/-- a code ahead -/
theorem sc_code {rest : List Nat} : ∀ {n i num scale : Nat} {acc : List Nat}, 0 < scale → (scale = 1 ∨ 0 < n) → sc (codeL n ++ rest) i num scale acc = sc rest (i + (codeL n).length) 0 1 (acc ++ [num + scale * n]) := by
  intro n
  induction n using Nat.strongRecOn with
  | ind n ih =>
    intro i num scale acc hs hn
    rcases Nat.lt_or_ge n 16 with h1 | h1
    · rw [codeL_lt h1]
      show sc ((97 + n) :: rest) i num scale acc = _
      rw [sc_cons, eIx_end h1]
      have : ¬ (n = 0 ∧ scale ≠ 1) := fun z => by omega
      simp only [if_neg this]
      rfl
    · rw [codeL_ge h1]
      show sc ((65 + n % 16) :: (codeL (n / 16) ++ rest)) i num scale acc = _
      rw [sc_cons, eIx_fur (by omega), fIx_fur (by omega)]
      simp only
      rw [ih (n / 16) (by omega) (by omega) (.inr (by omega)), List.length_cons]
      have e1 : i + 1 + (codeL (n / 16)).length = i + ((codeL (n / 16)).length + 1) := by omega
      have e2 : num + scale * (n % 16) + scale * 16 * (n / 16) = num + scale * n := by
        have : scale * n = scale * (16 * (n / 16) + n % 16) := by rw [Nat.div_add_mod]
        rw [this, Nat.mul_add, Nat.mul_assoc]
        omega
      rw [e1, e2]
theorem sc_all : ∀ {ns : List Nat} {i : Nat} {acc : List Nat}, sc (ns.map codeL).flatten i 0 1 acc = .ok (acc ++ ns)
  | [], i, acc => by simp [sc]
  | n :: r, i, acc => by
    rw [List.map_cons, List.flatten_cons, sc_code (by decide) (.inl rfl), sc_all]
    simp
/-- what is read is the code of what was told: pre, the signs of the number under way -/
theorem sc_only : ∀ {cs : List Nat} {i num k : Nat} {pre acc ns : List Nat}, num < 16 ^ k → (∀ m, codeL (num + 16 ^ k * m) = pre ++ codeL m ∨ (m = 0 ∧ k ≠ 0)) → sc cs i num (16 ^ k) acc = .ok ns →
    (acc.map codeL).flatten ++ pre ++ cs = (ns.map codeL).flatten
  | [], i, num, k, pre, acc, ns, hk, hp, h => by
    unfold sc at h
    split at h
    · rename_i hs
      have k0 : k = 0 := by
        rcases Nat.eq_zero_or_pos k with h | h
        · exact h
        · have : 16 ^ 1 ≤ 16 ^ k := Nat.pow_le_pow_right (by decide) h
          omega
      subst k0
      have n0 : num = 0 := by simpa using hk
      subst n0
      cases h
      have := hp 1
      rcases this with h | h
      · simp at h
        have : pre = [] := by
          have := congrArg List.length h
          simp at this
          exact this
        simp [this]
      · omega
    · cases h
  | c :: r, i, num, k, pre, acc, ns, hk, hp, h => by
    rw [sc_cons] at h
    cases he : eIx c with
    | some d =>
      rw [he] at h
      obtain ⟨hc, hd⟩ := eIx_some he
      simp only at h
      split at h
      · cases h
      · rename_i hn
        have := sc_only (num := 0) (k := 0) (pre := []) (by simp) (fun m => .inl (by simp)) (by simpa using h)
        rw [← this]
        have hcode : codeL (num + 16 ^ k * d) = pre ++ [c] := by
          rcases hp d with h | h
          · rw [h, codeL_lt hd, hc]
          · exfalso
            refine hn ⟨h.1, fun z => ?_⟩
            have : 16 ^ 1 ≤ 16 ^ k := Nat.pow_le_pow_right (by decide) (by omega)
            omega
        simp [hcode]
    | none =>
      rw [he] at h
      cases hfx : fIx c with
      | none => rw [hfx] at h; cases h
      | some d =>
        rw [hfx] at h
        obtain ⟨hc, hd⟩ := fIx_some hfx
        simp only at h
        have e : 16 ^ k * 16 = 16 ^ (k + 1) := (Nat.pow_succ ..).symm
        rw [e] at h
        have hb : num + 16 ^ k * d < 16 ^ (k + 1) := by
          rw [← e]
          have : 16 ^ k * d ≤ 16 ^ k * 15 := Nat.mul_le_mul_left _ (by omega)
          omega
        have := sc_only (pre := pre ++ [c]) hb (fun m => ?_) h
        · rw [← this]
          simp
        · rcases Nat.eq_zero_or_pos m with h0 | h0
          · exact .inr ⟨h0, by omega⟩
          · refine .inl ?_
            have e2 : num + 16 ^ k * d + 16 ^ (k + 1) * m = num + 16 ^ k * (d + 16 * m) := by
              rw [← e, Nat.mul_add, Nat.mul_assoc]
              omega
            rw [e2]
            rcases hp (d + 16 * m) with h | h
            · rw [h, codeL_ge (by omega), hc]
              have e3 : (d + 16 * m) % 16 = d := by omega
              have e4 : (d + 16 * m) / 16 = m := by omega
              rw [e3, e4]
              simp
            · omega
theorem sc_unique {cs ns : List Nat} (h : sc cs 0 0 1 [] = .ok ns) : cs = (ns.map codeL).flatten := by
  have := sc_only (num := 0) (k := 0) (pre := []) (by simp) (fun m => .inl (by simp)) (by simpa using h)
  simpa using this
end CM

namespace CM
/-! rising lists and their gaps; b: the least number that may come -/
def gapsN : Nat → List Nat → List Nat
  | _, [] => []
  | b, n :: r => (n - b) :: gapsN (n + 1) r
def unGap : Nat → List Nat → List Nat
  | _, [] => []
  | b, g :: r => (b + g) :: unGap (b + g + 1) r
def Rising : Nat → List Nat → Prop
  | _, [] => True
  | b, n :: r => b ≤ n ∧ Rising (n + 1) r
theorem un_gaps : ∀ {b : Nat} {ns : List Nat}, Rising b ns → unGap b (gapsN b ns) = ns
  | _, [], _ => rfl
  | b, n :: r, h => by
    have e : b + (n - b) = n := by have := h.1; omega
    simp only [gapsN, unGap, e, un_gaps h.2]
theorem gaps_un : ∀ {b : Nat} {gs : List Nat}, gapsN b (unGap b gs) = gs
  | _, [] => rfl
  | b, g :: r => by
    have e : b + g - b = g := by omega
    simp only [unGap, gapsN, e, gaps_un]
theorem rising_un : ∀ {b : Nat} {gs : List Nat}, Rising b (unGap b gs)
  | _, [] => trivial
  | b, g :: r => ⟨by omega, rising_un⟩
theorem gaps_le : ∀ {b : Nat} {ns : List Nat} {c : Nat}, (∀ n ∈ ns, n < c) → ∀ g ∈ gapsN b ns, g < c
  | _, [], c, _, g, hg => by simp [gapsN] at hg
  | b, n :: r, c, h, g, hg => by
    rcases List.mem_cons.mp hg with rfl | hg
    · have := h n List.mem_cons_self
      omega
    · exact gaps_le (fun m hm => h m (List.mem_cons_of_mem _ hm)) g hg
theorem gaps_len : ∀ {b : Nat} {ns : List Nat}, (gapsN b ns).length = ns.length
  | _, [] => rfl
  | b, n :: r => by simp [gapsN, gaps_len]
theorem un_len : ∀ {b : Nat} {ns : List Nat}, (unGap b ns).length = ns.length
  | _, [] => rfl
  | b, n :: r => by simp [unGap, un_len]
/-- where the next one begins -/
def nextB (b : Nat) (l : List Nat) : Nat := match l.getLast? with
  | none => b
  | some n => n + 1
theorem nextB_snoc {b : Nat} {l : List Nat} {n : Nat} : nextB b (l ++ [n]) = n + 1 := by
  unfold nextB
  rw [List.getLast?_concat]
theorem nextB_cons {b n : Nat} {l : List Nat} : nextB b (n :: l) = nextB (n + 1) l := by
  unfold nextB
  cases l with
  | nil => rfl
  | cons m r => rw [List.getLast?_cons_cons]; cases h : (m :: r).getLast? with
    | none => simp at h
    | some x => rfl
theorem un_snoc : ∀ {b : Nat} {gs : List Nat} {g : Nat}, unGap b (gs ++ [g]) = unGap b gs ++ [nextB b (unGap b gs) + g]
  | b, [], g => by simp [unGap, nextB]
  | b, h :: r, g => by
    simp only [List.cons_append, unGap, un_snoc (gs := r), nextB_cons]
theorem gaps_snoc : ∀ {b : Nat} {ns : List Nat} {n : Nat}, gapsN b (ns ++ [n]) = gapsN b ns ++ [n - nextB b ns]
  | b, [], n => by simp [gapsN, nextB]
  | b, m :: r, n => by
    simp only [List.cons_append, gapsN, gaps_snoc (ns := r), nextB_cons]
theorem rising_snoc : ∀ {b : Nat} {ns : List Nat} {n : Nat}, Rising b ns → nextB b ns ≤ n → Rising b (ns ++ [n])
  | b, [], n, _, h => ⟨by simpa [nextB] using h, trivial⟩
  | b, m :: r, n, h, h2 => ⟨h.1, rising_snoc h.2 (by rwa [nextB_cons] at h2)⟩
theorem rising_take {b : Nat} : ∀ {ns : List Nat} {i : Nat}, Rising b ns → Rising b (ns.take i) := by
  intro ns
  induction ns generalizing b with
  | nil => intro i _; simp [Rising]
  | cons m r ih =>
    intro i h
    cases i with
    | zero => exact trivial
    | succ i => exact ⟨h.1, ih h.2⟩
theorem rising_at {b : Nat} : ∀ {ns : List Nat} {i n : Nat}, Rising b ns → ns[i]? = some n → nextB b (ns.take i) ≤ n := by
  intro ns
  induction ns generalizing b with
  | nil => intro i n _ h; simp at h
  | cons m r ih =>
    intro i n h hn
    cases i with
    | zero =>
      simp at hn
      subst hn
      exact h.1
    | succ i =>
      rw [List.take_succ_cons, nextB_cons]
      exact ih h.2 (by simpa using hn)
theorem nextB_at {b : Nat} {ns : List Nat} {j n : Nat} (h : ns[j]? = some n) : nextB b (ns.take (j + 1)) = n + 1 := by
  rw [List.take_add_one, h]
  exact nextB_snoc
theorem codeL_bound : ∀ {n : Nat}, n < 16 ^ (codeL n).length := by
  intro n
  induction n using Nat.strongRecOn with
  | ind n ih =>
    rcases Nat.lt_or_ge n 16 with h | h
    · rw [codeL_lt h]
      simpa using h
    · rw [codeL_ge h, List.length_cons, Nat.pow_succ]
      have := ih (n / 16) (by omega)
      omega
theorem len_flat {ns : List Nat} {n : Nat} (h : n ∈ ns) : (codeL n).length ≤ (ns.map codeL).flatten.length := by
  induction ns with
  | nil => cases h
  | cons m r ih =>
    simp only [List.map_cons, List.flatten_cons, List.length_append]
    rcases List.mem_cons.mp h with rfl | h
    · omega
    · have := ih h
      omega
theorem count_flat (ns : List Nat) : ns.length ≤ (ns.map codeL).flatten.length := by
  induction ns with
  | nil => simp
  | cons m r ih =>
    simp only [List.map_cons, List.flatten_cons, List.length_append, List.length_cons]
    have : 0 < (codeL m).length := List.length_pos_iff.mpr codeL_ne
    omega
end CM

/-! Ratios in lowest terms: plain numbers. -/
namespace Rat0
/-- the lowest terms of t over b -/
def by_ (t b : Int) : Int := if b < 0 then -(Int.gcd t b : Int) else (Int.gcd t b : Int)
def top (t b : Int) : Int := t.fdiv (by_ t b)
def bot (t b : Int) : Int := b.fdiv (by_ t b)
/-- in lowest terms -/
structure Low (t b : Int) : Prop where
  pos : 0 < b
  one : Int.gcd t b = 1
theorem by_ne {t b : Int} (h : b ≠ 0) : by_ t b ≠ 0 := by
  have g := Int.gcd_pos_of_ne_zero_right t h
  unfold by_
  split <;> omega
theorem by_dvd_left (t b : Int) : by_ t b ∣ t := by
  unfold by_
  split
  · exact Int.neg_dvd.mpr (Int.gcd_dvd_left t b)
  · exact Int.gcd_dvd_left t b
theorem by_dvd_right (t b : Int) : by_ t b ∣ b := by
  unfold by_
  split
  · exact Int.neg_dvd.mpr (Int.gcd_dvd_right t b)
  · exact Int.gcd_dvd_right t b
theorem by_abs (t b : Int) : (by_ t b).natAbs = Int.gcd t b := by
  unfold by_
  split <;> simp
theorem top_le (t b : Int) : (top t b).natAbs ≤ t.natAbs := by
  unfold top
  rw [Int.fdiv_eq_ediv_of_dvd (by_dvd_left t b), Int.natAbs_ediv_of_dvd (by_dvd_left t b)]
  exact Nat.div_le_self _ _
theorem bot_le (t b : Int) : (bot t b).natAbs ≤ b.natAbs := by
  unfold bot
  rw [Int.fdiv_eq_ediv_of_dvd (by_dvd_right t b), Int.natAbs_ediv_of_dvd (by_dvd_right t b)]
  exact Nat.div_le_self _ _
theorem by_le {t b : Int} (h : b ≠ 0) : (by_ t b).natAbs ≤ b.natAbs := by
  rw [by_abs]
  exact Nat.le_of_dvd (by omega) (Int.gcd_dvd_natAbs_right t b)
theorem bot_pos {t b : Int} (h : b ≠ 0) : 0 < bot t b := by
  have g := Int.gcd_pos_of_ne_zero_right t h
  unfold bot
  rw [Int.fdiv_eq_ediv_of_dvd (by_dvd_right t b)]
  obtain ⟨c, e⟩ := by_dvd_right t b
  have n := by_ne (t := t) h
  have e2 : b / by_ t b = c := by
    exact Int.ediv_eq_of_eq_mul_right n e
  rw [e2]
  by_cases hb : b < 0
  · have eb : by_ t b = -(Int.gcd t b : Int) := if_pos hb
    rw [eb] at e
    have : ¬ c ≤ 0 := fun hc => by
      have h1 : (0 : Int) ≤ -(Int.gcd t b : Int) * c := by
        rw [Int.neg_mul, ← Int.mul_neg]
        exact Int.mul_nonneg (by omega) (by omega)
      omega
    omega
  · have eb : by_ t b = (Int.gcd t b : Int) := if_neg hb
    rw [eb] at e
    have : ¬ c ≤ 0 := fun hc => by
      have h1 : (Int.gcd t b : Int) * c ≤ 0 := Int.mul_nonpos_of_nonneg_of_nonpos (by omega) hc
      omega
    omega
theorem low_of {t b : Int} (h : b ≠ 0) : Low (top t b) (bot t b) := by
  refine ⟨bot_pos h, ?_⟩
  have g := Int.gcd_pos_of_ne_zero_right t h
  have k := Int.gcd_ediv_gcd_ediv_gcd g
  unfold top bot
  rw [Int.fdiv_eq_ediv_of_dvd (by_dvd_left t b), Int.fdiv_eq_ediv_of_dvd (by_dvd_right t b)]
  unfold by_
  split
  · rw [Int.ediv_neg, Int.ediv_neg, Int.neg_gcd, Int.gcd_neg]
    exact k
  · exact k
theorem Low.top {t b : Int} (h : Low t b) : top t b = t := by
  unfold Rat0.top by_
  rw [if_neg (by have := h.pos; omega), h.one]
  exact Int.fdiv_one t
theorem Low.bot {t b : Int} (h : Low t b) : bot t b = b := by
  unfold Rat0.bot by_
  rw [if_neg (by have := h.pos; omega), h.one]
  exact Int.fdiv_one b
theorem Low.neg {t b : Int} (h : Low t b) : Low (-t) b := ⟨h.pos, by rw [Int.neg_gcd]; exact h.one⟩
/-- one turn of the common part's loop -/
theorem gcd_turn (a b : Int) (ha : 0 ≤ a) (hb : 0 < b) : Int.gcd b (a % b) = Int.gcd a b := by
  obtain ⟨m, rfl⟩ := Int.eq_ofNat_of_zero_le ha
  obtain ⟨n, rfl⟩ := Int.eq_ofNat_of_zero_le (Int.le_of_lt hb)
  show Nat.gcd n (m % n) = Nat.gcd m n
  rw [Nat.gcd_comm m n, Nat.gcd_rec n m, Nat.gcd_comm]
theorem add_lt {i j : Int} {a : Nat} (ha : i.natAbs < 2 ^ a) (hb : j.natAbs < 2 ^ a) : (i + j).natAbs < 2 ^ (a + 1) := by
  rw [Nat.pow_succ]
  omega
theorem up_lt {i : Int} {a b : Nat} (ha : i.natAbs < 2 ^ a) (h : a ≤ b) : i.natAbs < 2 ^ b := Nat.lt_of_lt_of_le ha (Nat.pow_le_pow_right (by decide) h)
end Rat0

namespace Bw
open PySem PySem.Spec PyProof.Rows L2 LamX
/-! ### rpartition, zfill, count, int(x, 16), pop; defs with defaults, called by keywords -/
section
variable {X : Cx}
def rRpart : V → List V → Hp → VK → Prop := fun x xs H Q => ∃ a b, x = .str a ∧ xs = [.str b] ∧ (b.length == 0) = false ∧ a.length ≤ sizeLine ∧
    ∀ p, H p = none → Q (.ref p) (upd H p (.tup [.str (Txt.rpartition a b).1, .str (Txt.rpartition a b).2.1, .str (Txt.rpartition a b).2.2]))
theorem mt_rpartition : MtR X "str.rpartition" rRpart := by
  intro pins s σ H x xs v us Q I rx rs h
  obtain ⟨a, b, rfl, rfl, hb, hz, h⟩ := h
  obtain ⟨t, rfl⟩ := rx
  cases rs with
  | cons r1 rs =>
    cases rs
    obtain ⟨u, rfl⟩ := r1
    refine call_meets F.slot_str_rpartition (typeIs_str _ _ _) F.entry_str_rpartition (F.args_str_rpartition_2 _ _) (meets_str_rpartition a b t u hb hz) ?_
    unfold Txt.rpartition at h
    revert h
    cases Builtin.Str.lastOccurrence a b 0 a.length with
    | none => intro h; exact laid_parts I h
    | some i => intro h; exact laid_parts I h
def rCountS : V → List V → Hp → VK → Prop := fun x xs H Q => ∃ a b, x = .str a ∧ xs = [.str b] ∧ Q (.int (Txt.count a b)) H
theorem mt_countS : MtR X "str.count" rCountS := mt_count
def rZfill : V → List V → Hp → VK → Prop := fun x xs H Q => ∃ (a : Str) (i : Int), x = .str a ∧ xs = [.int i] ∧ PadOk i = true ∧ Q (.str (Txt.zfill a i)) H
theorem mt_zfillS : MtR X "str.zfill" rZfill := mt_zfill
theorem cl_intHex : CallR X (.type "int") rIntHex := call_int_hex
end
section
variable {K : PySem.W.Frag} {H : Hp} {Q : VK}
theorem w_rpart {x y : Str} (hy : (y.length == 0) = false) (hx : x.length ≤ sizeLine) (k : ∀ p H2, H p = none → Same H H2 → H2 p = some (.tup [.str (Txt.rpartition x y).1, .str (Txt.rpartition x y).2.1, .str (Txt.rpartition x y).2.2]) → Q (.ref p) H2) : rRpart (.str x) [.str y] H Q :=
  ⟨x, y, rfl, rfl, hy, hx, fun p n => k p _ n (same_new n) upd_same⟩
theorem w_countS {x y : Str} (q : Q (.int (Txt.count x y)) H) : rCountS (.str x) [.str y] H Q := ⟨x, y, rfl, rfl, q⟩
theorem w_zfill {x : Str} {i : Int} (h : PadOk i = true) (q : Q (.str (Txt.zfill x i)) H) : rZfill (.str x) [.int i] H Q := ⟨x, i, rfl, rfl, h, q⟩
theorem w_intHex {l : List Nat} (h0 : l ≠ []) (hl : l.length ≤ 640) (hx : ∀ c ∈ l, Hx.IsHex c) (q : Q (.int ((Hx.hexNum l : Nat) : Int)) H) : rIntHex [.str (S l), .int 16] H Q := ⟨l, rfl, h0, hl, hx, q⟩
theorem w_pop {l : Addr} {xs : List V} {y : V} (h : H l = some (.lst xs)) (hy : xs[xs.length - 1]? = some y) (k : ∀ H2, KB l H H2 → H2 l = some (.lst xs.dropLast) → Q y H2) : rPop (.ref l) [] H Q := ⟨l, xs, y, rfl, rfl, h, hy, k _ kb_upd upd_same⟩
theorem w_reverse {l : Addr} {xs : List V} (h : H l = some (.lst xs)) (k : ∀ H2, KB l H H2 → H2 l = some (.lst xs.reverse) → Q .non H2) : rReverse (.ref l) [] H Q := ⟨l, xs, rfl, rfl, h, k _ kb_upd upd_same⟩
/-- str(a number) -/
theorem w_strI {i : Int} (h : i.natAbs < 2 ^ 1919) (q : Q (.str (toString i)) H) : rStrI [.int i] H Q := ⟨i, rfl, PySem.Flt.log2_lt_of (by decide) (Nat.lt_of_lt_of_le h (Nat.pow_le_pow_right (by decide) (by decide))), q⟩
end
/-! ### rpartition by one sign -/
theorem at_one {x : Str} {c : Nat} {i : Nat} : StrLaws.At x ⟨#[c]⟩ x.length i ↔ x.cps.toList[i]? = some c := by
  rw [TL.at_iff (y := ⟨#[c]⟩) (by show ([c] : List Nat) ≠ []; simp)]
  show ((x.cps.toList.drop i).take 1 == [c]) = true ↔ _
  rw [beq_iff_eq]
  rcases Nat.lt_or_ge i x.cps.toList.length with h | h
  · rw [List.drop_eq_getElem_cons h, List.getElem?_eq_getElem h]
    simp
  · rw [List.drop_eq_nil_of_le h, List.getElem?_eq_none h]
    simp
theorem rpart_app {a b : List Nat} {c : Nat} (h : c ∉ b) : Txt.rpartition (S (a ++ c :: b)) ⟨#[c]⟩ = (S a, ⟨#[c]⟩, S b) := by
  have hA : ∀ k, a.length < k → ¬ StrLaws.At (S (a ++ c :: b)) ⟨#[c]⟩ (S (a ++ c :: b)).length k := fun k hk z => by
    rw [at_one, cps_S, List.getElem?_append_right (Nat.le_of_lt hk)] at z
    obtain ⟨m, hm⟩ : ∃ m, k - a.length = m + 1 := ⟨k - a.length - 1, by omega⟩
    rw [hm, List.getElem?_cons_succ] at z
    exact h (List.mem_of_getElem? z)
  have hB : StrLaws.At (S (a ++ c :: b)) ⟨#[c]⟩ (S (a ++ c :: b)).length a.length := by
    rw [at_one, cps_S]
    simp
  unfold Txt.rpartition
  rcases StrLaws.last_spec (S (a ++ c :: b)) ⟨#[c]⟩ with ⟨_, hn⟩ | ⟨i, e, hi, hn⟩
  · exact absurd hB (hn _)
  · have hia : i = a.length := by
      rcases Nat.lt_trichotomy i a.length with h1 | h1 | h1
      · exact absurd hB (hn _ h1)
      · exact h1
      · exact absurd hi (hA _ h1)
    subst hia
    rw [e]
    have e1 : Builtin.Str.strSub (S (a ++ c :: b)) 0 a.length = S a := str_ext (by
      show TL.tl _ = _
      rw [TL.tl_strSub]
      show ((a ++ c :: b).drop 0).take _ = a
      simp)
    have e2 : Builtin.Str.strSub (S (a ++ c :: b)) (a.length + 1) (S (a ++ c :: b)).length = S b := str_ext (by
      show TL.tl _ = _
      rw [TL.tl_strSub_end]
      show (a ++ c :: b).drop _ = b
      simp)
    show (_, _, Builtin.Str.strSub (S (a ++ c :: b)) (a.length + 1) (S (a ++ c :: b)).length) = _
    rw [e1, e2]
theorem rpart_none {a : List Nat} {c : Nat} (h : c ∉ a) : Txt.rpartition (S a) ⟨#[c]⟩ = (Str.empty, Str.empty, S a) := by
  unfold Txt.rpartition
  rcases StrLaws.last_spec (S a) ⟨#[c]⟩ with ⟨e, hn⟩ | ⟨i, e, hi, hn⟩
  · rw [e]
  · rw [at_one, cps_S] at hi
    exact absurd (List.mem_of_getElem? hi) h
theorem cnt_ge (c : Nat) : ∀ l : List Nat, 0 ≤ cnt c l
  | [] => Int.le_refl 0
  | n :: r => by
    rw [cnt_cons]
    have := cnt_ge c r
    split <;> omega
theorem cnt_mem {c : Nat} : ∀ {l : List Nat}, c ∈ l → 0 < cnt c l
  | n :: r, h => by
    rw [cnt_cons]
    have := cnt_ge c r
    rcases List.mem_cons.mp h with e | h
    · rw [if_pos e.symm]
      omega
    · have := cnt_mem h
      split <;> omega
/-! ### defs with defaults -/
/-- called by places: dvs are what is told by default behind them -/
structure FnD (P : Program) (w : World) (K : PySem.W.Frag) (mg : Str → Option Value) (base : Heap) (CX : CXT) (x : Str) (k : Nat) (ps : List Str) (dvs : List V) (sp : Sp) : Prop where
  ex : ∃ (f : Addr) (fd : FuncData) (ds : List Value), FnOk P w K mg base CX k f fd ps sp ∧ mg x = some (.ref f) ∧ PySem.W.keepIn K (.ref f) = true ∧ Binds K fd ps ds ∧ Vals dvs ds
/-- n by places, the others by the names ks -/
structure FnK (P : Program) (w : World) (K : PySem.W.Frag) (mg : Str → Option Value) (base : Heap) (CX : CXT) (x : Str) (k : Nat) (ps : List Str) (n : Nat) (ks : List Str) (gV : List V → List V → List V) (sp : Sp) : Prop where
  ex : ∃ (f : Addr) (fd : FuncData) (g : List Value → List Value → List Value), FnOk P w K mg base CX k f fd ps sp ∧ mg x = some (.ref f) ∧ PySem.W.keepIn K (.ref f) = true ∧ KBn K fd ps n ks g gV
section
variable {X : Cx}
theorem pe_fnd {CX : CXT} {E : XK} {x : Str} {k : Nat} {ps : List Str} {dvs : List V} {sp : Sp} {e : Expr} {es : List Expr} {t : TA} {p pos : Pos} (F : FnD X.prog X.w X.K X.mg X.base CX x k ps dvs sp) (hx : Passes CX X E) (hr : Room k X.A) (hg : Gl X x) (ha : PA X (e :: es) t)
    (hdb : (x == ("__debug__" : Str)) = false := by decide) (he : starEach (e :: es) X.env = (false, eval e X.env) :: starEach es X.env := by rfl) (hpl : (backTo pos (starEach es X.env)).any (·.1) = false := by rfl) :
    PE X (.Call (.Name x p) (e :: es) [] pos) (tCall sp dvs E t) := by
  obtain ⟨f, fd, ds, G, hm, hk, hb, hd⟩ := F.ex
  exact pe_call G hr hg hm hk hb hd hx ha hdb he hpl
theorem pe_fnk {CX : CXT} {E : XK} {x : Str} {k n : Nat} {ps ks : List Str} {gV : List V → List V → List V} {sp : Sp} {e : Expr} {es : List Expr} {kws : List Keyword} {t tk : TA} {p pos : Pos} (F : FnK X.prog X.w X.K X.mg X.base CX x k ps n ks gV sp) (hx : Passes CX X E) (hr : Room k X.A) (hg : Gl X x) (ha : PA X (e :: es) t) (hkw : PK X kws tk)
    (hall : (backToKw pos (keywordEach kws X.env)).all (·.1.isSome) = true := by rfl) (hks : (backToKw pos (keywordEach kws X.env)).filterMap (·.1) = ks := by rfl)
    (hdb : (x == ("__debug__" : Str)) = false := by decide) (he : starEach (e :: es) X.env = (false, eval e X.env) :: starEach es X.env := by rfl)
    (hpl : ((backTo pos (starEach (e :: es) X.env)).any (·.1) || (backToKw pos (keywordEach kws X.env)).any (·.1.isNone)) = false := by rfl) :
    PE X (.Call (.Name x p) (e :: es) kws pos) (tCallN n ks.length sp gV E t tk) := by
  obtain ⟨f, fd, g, G, hm, hk, hb⟩ := F.ex
  exact pe_callN G hr hg hm hk hb hx ha hkw hall hks hdb he hpl
end
section
variable {σ : L2.St} {H : Hp} {Q : VK}
theorem w_callD {sp : Sp} {dvs : List V} {tA : TA} {E : XK} (h : tA σ H fun vs H1 => sp (vs ++ dvs) H1 Q E) : tCall sp dvs E tA σ H Q := h
theorem w_callN {n m : Nat} {sp : Sp} {gV : List V → List V → List V} {E : XK} {t tk : TA} (h : t σ H fun vs H1 => tk σ H1 fun zs H2 => vs.length = n ∧ zs.length = m ∧ sp (gV vs zs) H2 Q E) : tCallN n m sp gV E t tk σ H Q := h
theorem w_nlen {xs ys : List V} {n m : Nat} {R : Prop} (h1 : xs.length = n) (h2 : ys.length = m) (q : R) : xs.length = n ∧ ys.length = m ∧ R := ⟨h1, h2, q⟩
end
end Bw

namespace Bw
open PySem PySem.Spec PyProof.Rows L2 LamX
/-! ### texts of whole files, plainly -/
theorem strOk_of {x : Str} (h : ∀ c ∈ x.cps.toList, c < 1114112) : PyData.strOk x = true := by
  unfold PyData.strOk
  rw [Array.all_eq_true']
  intro c hc
  exact decide_eq_true (h c (Array.mem_toList_iff.mpr hc))
/-- four figures -/
def zf (n : Nat) : List Nat := List.replicate (4 - (TL.numL n).length) 48 ++ TL.numL n
theorem num_S (n : Nat) : (Str.ofString (toString ((n : Nat) : Int))) = S (TL.numL n) := str_ext (TL.tl_num n)
theorem numL_len4 {n : Nat} (h : n ≤ 9999) : (TL.numL n).length ≤ 4 := TL.numL_len (by decide) (by omega)
theorem zf_len {n : Nat} (h : n ≤ 9999) : (zf n).length = 4 := by
  have := numL_len4 h
  unfold zf
  rw [List.length_append, List.length_replicate]
  omega
theorem zf_dig {n : Nat} : ∀ c ∈ zf n, 48 ≤ c ∧ c ≤ 57 := fun c hc => by
  unfold zf at hc
  rcases List.mem_append.mp hc with h | h
  · have := (List.mem_replicate.mp h).2
    omega
  · have := TL.numL_digits n c h
    omega
theorem zfill_num {n : Nat} : Txt.zfill (S (TL.numL n)) 4 = S (zf n) := by
  unfold Txt.zfill
  rw [len_S]
  split
  · rename_i h
    unfold zf
    rw [show 4 - (TL.numL n).length = 0 by omega]
    rfl
  · rename_i h
    unfold zfilled
    have key : Builtin.Str.padded (S (TL.numL n)) ((4 : Int).toNat - (TL.numL n).length) 0 48 = S (zf n) := str_ext (by
      show (Array.replicate _ 48 ++ (TL.numL n).toArray ++ Array.replicate 0 48).toList = zf n
      unfold zf
      simp)
    have hne := TL.numL_ne n
    have hd := TL.numL_digits n
    generalize hl : TL.numL n = l at *
    cases l with
    | nil => exact absurd rfl hne
    | cons c r =>
      have hc := hd c List.mem_cons_self
      have e : (S (c :: r)).cps[0]? = some c := rfl
      rw [e]
      split
      · rename_i z
        cases z
        exact absurd hc (by decide)
      · rename_i z
        cases z
        exact absurd hc (by decide)
      · exact key
theorem mul_zero_ok {n : Int} (h : n ≤ 4) (h0 : -10 ≤ n) : MulOk "0" n := by
  have e : ("0" : Str).length = 1 := rfl
  have hn : n = -10 ∨ n = -9 ∨ n = -8 ∨ n = -7 ∨ n = -6 ∨ n = -5 ∨ n = -4 ∨ n = -3 ∨ n = -2 ∨ n = -1 ∨ n = 0 ∨ n = 1 ∨ n = 2 ∨ n = 3 ∨ n = 4 := by omega
  rcases hn with rfl | rfl | rfl | rfl | rfl | rfl | rfl | rfl | rfl | rfl | rfl | rfl | rfl | rfl | rfl <;> (unfold MulOk; decide +kernel)
theorem mul_zero {k : Nat} (h : k ≤ 4) : Txt.mul "0" (k : Int) = S (List.replicate k 48) := by
  have hk : k = 0 ∨ k = 1 ∨ k = 2 ∨ k = 3 ∨ k = 4 := by omega
  rcases hk with rfl | rfl | rfl | rfl | rfl <;> decide +kernel
/-- rows with their ends -/
def sgn (rows : List Str) : List Nat := (rows.map fun r => r.cps.toList ++ [10]).flatten
theorem join_lines (h : Str) : ∀ rows : List Str, (Str.join ("\n" : Str) (h :: rows)).cps.toList ++ [10] = h.cps.toList ++ [10] ++ sgn rows
  | [] => by
    show h.cps.toList ++ [10] = _
    simp [sgn]
  | r :: rs => by
    have e : (Str.join ("\n" : Str) (h :: r :: rs)) = h ++ ("\n" : Str) ++ Str.join ("\n" : Str) (r :: rs) := rfl
    rw [e, cps_append, cps_append, List.append_assoc, join_lines r rs]
    have e2 : ("\n" : Str).cps.toList = [10] := rfl
    rw [e2]
    simp [sgn]
theorem sgn_len {rows : List Str} {m : Nat} (h : ∀ r ∈ rows, r.length ≤ m) : (sgn rows).length ≤ rows.length * (m + 1) := by
  induction rows with
  | nil => simp [sgn]
  | cons r rs ih =>
    have h1 := ih (fun x hx => h x (List.mem_cons_of_mem _ hx))
    have h2 := h r List.mem_cons_self
    have e : sgn (r :: rs) = r.cps.toList ++ [10] ++ sgn rs := by simp [sgn]
    rw [e, List.length_append, List.length_append, len_cps, List.length_cons (a := r), Nat.add_mul]
    simp
    omega
/-- signs ended by line feeds, split -/
theorem split_lines {hd : List Nat} {rows : List Str} (h0 : 10 ∉ hd) (hr : ∀ r ∈ rows, 10 ∉ r.cps.toList) : Txt.split (S (hd ++ [10] ++ sgn rows)) "\n" = S hd :: (rows ++ [("" : Str)]) := by
  have e : S (hd ++ [10] ++ sgn rows) = Txt.join ("\n" : Str) (S hd :: (rows ++ [("" : Str)])) := by
    refine str_ext ?_
    rw [txt_join, cps_S]
    have h1 : ∀ (a : Str) (rs : List Str), (Str.join ("\n" : Str) (a :: (rs ++ [("" : Str)]))).cps.toList = a.cps.toList ++ [10] ++ sgn rs := by
      intro a rs
      induction rs generalizing a with
      | nil =>
        show (a ++ ("\n" : Str) ++ ("" : Str)).cps.toList = _
        rw [cps_append, cps_append]
        show a.cps.toList ++ [10] ++ [] = _
        simp [sgn]
      | cons r rs ih =>
        show (a ++ ("\n" : Str) ++ Str.join ("\n" : Str) (r :: (rs ++ [("" : Str)]))).cps.toList = _
        rw [cps_append, cps_append, ih r]
        show a.cps.toList ++ [10] ++ _ = _
        simp [sgn]
    rw [h1]
    rfl
  rw [e]
  refine TL.split_join (s := 10) (S := []) rfl (by decide +kernel) (by simp) (fun p hp z => ?_)
  rcases List.mem_cons.mp hp with rfl | hp
  · exact h0 z
  · rcases List.mem_append.mp hp with hp | hp
    · exact hr p hp z
    · rw [List.mem_singleton.mp hp] at z
      exact absurd z (by show ¬ 10 ∈ ([] : List Nat); simp)
theorem sum_le {c : Nat} : ∀ {l : List Nat}, (∀ x ∈ l, x ≤ c) → l.sum ≤ l.length * c
  | [], _ => by simp
  | y :: r, h => by
    have h1 := h y List.mem_cons_self
    have h2 := sum_le (l := r) (fun x hx => h x (List.mem_cons_of_mem _ hx))
    simp only [List.sum_cons, List.length_cons, Nat.add_mul, Nat.one_mul]
    omega
theorem join_empty : ∀ rows : List Str, (Str.join ("" : Str) rows).cps.toList = (rows.map fun r => r.cps.toList).flatten
  | [] => rfl
  | [r] => by show r.cps.toList = _; simp
  | r :: s :: rs => by
    show (r ++ ("" : Str) ++ Str.join ("" : Str) (s :: rs)).cps.toList = _
    rw [cps_append, cps_append, join_empty (s :: rs)]
    show r.cps.toList ++ [] ++ _ = _
    simp
theorem sum_ones : ∀ cs : List Nat, ((cs.map fun c => (⟨#[c]⟩ : Str)).map (·.length)).sum = cs.length
  | [] => rfl
  | c :: r => by
    rw [List.map_cons, List.map_cons, List.sum_cons, sum_ones r, List.length_cons]
    show 1 + _ = _
    omega
theorem join_ones (cs : List Nat) : (Txt.join "" (cs.map fun c => (⟨#[c]⟩ : Str))).cps.toList = cs := by
  rw [txt_join, join_empty, List.map_map]
  induction cs with
  | nil => rfl
  | cons c r ih =>
    rw [List.map_cons, List.flatten_cons, ih]
    rfl
end Bw

namespace Bw
open PySem PySem.Spec PyProof.Rows L2 LamX
/-! ### x == y by an own __eq__ that lets nothing out -/
structure EqO (P : Program) (w : World) (K : PySem.W.Frag) (mg : Str → Option Value) (base : Heap) (C : Addr) (k : Nat) (ps : List Str) (sp : Sp) : Prop where
  ex : ∃ (f : Addr) (fd : FuncData), FnOk P w K mg base CX0 k f fd ps sp ∧ PySem.W.findIn K (.ref C) "__eq__" = some (some (.ref f)) ∧ PySem.W.isFn K (.ref f) = true ∧ Binds K fd ps []
/-- what may stand on the other side -/
inductive Side (K : PySem.W.Frag) (H : Hp) (C : Addr) : V → Prop
  | int (i : Int) : PySem.W.notFirst K C (.type "int") = true → Side K H C (.int i)
  | bl (b : Bool) : PySem.W.notFirst K C (.type "bool") = true → Side K H C (.bl b)
  | str (x : Str) : PySem.W.notFirst K C (.type "str") = true → Side K H C (.str x)
  | non : PySem.W.notFirst K C (.type "NoneType") = true → Side K H C .non
  | lst {a : Addr} {xs : List V} : H a = some (.lst xs) → PySem.W.notFirst K C (.type "list") = true → Side K H C (.ref a)
  | tup {a : Addr} {xs : List V} : H a = some (.tup xs) → PySem.W.notFirst K C (.type "tuple") = true → Side K H C (.ref a)
  | own {a dx : Addr} {fs : List (Str × V)} : H a = some (.ins C dx fs) → Side K H C (.ref a)
section
variable {X : Cx}
theorem side_looks {pins : List (Addr × Obj)} {σ : L2.St} {H : Hp} {s : Shared} {C : Addr} {y : V} {u : Value} (I : L2.Inv X pins σ H s) (r : RelV y u) (d : Side X.K H C y) : ∃ tb, PySem.W.Looks (model X.prog X.w) s.heap (typeOf u) tb ∧ PySem.W.notFirst X.K C tb = true := by
  cases d with
  | int i h => obtain ⟨t, rfl⟩ := r; exact ⟨_, PySem.W.Looks.of_pure rfl, h⟩
  | bl b h => cases r; exact ⟨_, PySem.W.Looks.of_pure rfl, h⟩
  | str x h => obtain ⟨t, rfl⟩ := r; exact ⟨_, PySem.W.Looks.of_pure rfl, h⟩
  | non h => cases r; exact ⟨_, PySem.W.Looks.of_pure rfl, h⟩
  | @lst a xs ea h =>
    cases (show u = Value.ref a from r)
    obtain ⟨_, _, n, _, h1⟩ := (show ObjOk X.prog X.w H s.heap a (.lst xs) from I.hok a _ ea)
    exact ⟨.type "list", fun A Q E s k q => wpAny_typeOf_ref (k _ _ h1) q, h⟩
  | @tup a xs ea h =>
    cases (show u = Value.ref a from r)
    obtain ⟨_, _, _, o, h1, h2, _⟩ := (show ObjOk X.prog X.w H s.heap a (.tup xs) from I.hok a _ ea)
    exact ⟨.type "tuple", fun A Q E s k q => wpAny_typeOf_ref (k _ _ h1) (h2 ▸ q), h⟩
  | @own a dx fs ea =>
    cases (show u = Value.ref a from r)
    obtain ⟨mB, J', _⟩ := ins_get I.hok ea
    obtain ⟨od', J', _⟩ := J'.look
    exact ⟨_, J'.type, by simp [PySem.W.notFirst]⟩
def rEqO (K : PySem.W.Frag) (C : Addr) (sp : Sp) : R2 := fun x y H Q => ∃ a dx fs, x = .ref a ∧ H a = some (.ins C dx fs) ∧ Side K H C y ∧ sp [x, y] H (fun v H' => (∃ b, v = .bl b) ∧ Q v H') C8.E0
theorem op_eqO {C : Addr} {k : Nat} {ps : List Str} {sp : Sp} (O : EqO X.prog X.w X.K X.mg X.base C k ps sp) (hr : Room k X.A) : OpR X (compareOp .Eq) (rEqO X.K C sp) := by
  intro pins s σ H x y v u Q I rx ry h
  obtain ⟨a, dx, fs, rfl, ha, hy, hsp⟩ := h
  obtain ⟨f, fd, F, hs, hf, hb⟩ := O.ex
  cases rx
  obtain ⟨tb, lk, nf⟩ := side_looks I ry hy
  obtain ⟨mA, J, _⟩ := ins_get I.hok ha
  obtain ⟨od, J, _⟩ := J.look
  obtain ⟨m, hF⟩ := I.fr
  show wpAny (model X.prog X.w) X.A (richCompare .Eq (.ref a) u) (EP X pins σ Q) X.xe s
  refine PySem.W.cmp_K (op := .Eq) hr.units0 hF I.ok.mod.kin J lk nf hs hf ?_
  have hl := F.len _ _ _ _ hsp
  have r2 : Vals [V.ref a, y] [Value.ref a, u] := .cons rfl (.cons ry .nil)
  refine wpAny_call (codeAny_mono (F.run X.A X.stack s H ⟨[.ref a, u], []⟩ [.ref a, u] [.ref a, y] _ _ hr I.env0 (by
    have := hb s [.ref a, u] I.kIn (by simpa using hl)
    simpa using this) r2 hsp) fun r s' hq => ?_)
  cases r with
  | error e => exact pass0 pins σ H s e s' I hq
  | ok fl =>
    cases fl with
    | ret w =>
      obtain ⟨z, H', I', rz, ⟨b, ez⟩, q⟩ := I.after hq
      subst ez
      cases rz
      exact ⟨.bl b, H', I', rfl, q⟩
    | next => exact False.elim hq
    | brk => exact False.elim hq
    | cont => exact False.elim hq
end
end Bw

namespace Bw
open PySem PySem.Spec PyProof.Rows L2 LamX
open PySem.W (Frag findIn subIn looks_findIn looks_subIn)
section
variable {prog : Program} {w : World} {A : Around} {E : Value → Shared → Prop} {s : Shared} {K : Frag} {x C : Addr} {ox : Obj} {od : Option Obj} {b tb : Value}
theorem ifBound_B {M : Model} {args : List Value} {name : Str} {id B : String} {Q : Option Value → Shared → Prop} (X : K.In s.heap) (I : PySem.W.InstAt s.heap x ox C od) (hs : findIn K (.ref C) name = some (some (.builtin id))) (S : Slot B name id)
    (h : wpAny M A (call (.builtin id) (.ref x :: args)) (fun v => Q (some v)) E s) : wpAny M A (callSpecialIfBound? (.ref x) name args) Q E s := by
  simp only [callSpecialIfBound?, bindSpecialIfBound?]
  refine wpAny_holding (wpAny_bind (wpAny_bind (wpAny_bind (I.type.here ((looks_findIn X hs).here ?_)))))
  simp only [S.bind]
  refine wpAny_bind (wpAny_askSetting (wpAny_ite ?_))
  have fin : wpAny M A (call (.builtin id) ([.ref x] ++ args) >>= fun v => pure (some v)) Q E s := wpAny_bind (wpAny_mono h (fun v s' h' => wpAny_pure h') fun _ _ h' => h')
  split
  · exact wpAny_bind (wpAny_pure (wpAny_pure fin))
  · exact wpAny_tryCatch (wpAny_bind (wpAny_pure (wpAny_pure fin)))
theorem check_B {M : Model} {id owner n : String} {rest : List Value} {Q : Unit → Shared → Prop} (X : K.In s.heap) (I : PySem.W.InstAt s.heap x ox C od) (hk : builtinKind id = some .slot) (hs : splitId id = some (owner, n))
    (ha : argsOk id ⟨.ref x :: rest, []⟩) (hso : subIn K (.ref C) (.type owner) = some true) (hq : Q () s) :
    wpAny M A (checkBuiltinCall id ⟨.ref x :: rest, []⟩) Q E s := by
  simp only [checkBuiltinCall, hk, hs]
  refine wpAny_bind ?_
  unfold isInstance
  refine wpAny_bind (I.type.here ?_)
  refine (looks_subIn X hso).here ?_
  cases hsig : Manifest.signature? id with
  | none => exact wpAny_pure hq
  | some sig =>
    simp only [argsOk, hsig] at ha
    have h2 : Bind.checkArgs id sig ⟨.ref x :: rest, []⟩ = pure () := ha
    show wpAny M A (Bind.checkArgs id sig ⟨.ref x :: rest, []⟩) Q E _
    rw [h2]
    exact wpAny_pure hq
/-- x != y by an own __eq__ -/
theorem ne_entry {Q : Fin → Shared → Prop} {f : Addr} (hu : A.units < cLine) (X : K.In s.heap) (I : PySem.W.InstAt s.heap x ox C od) (hs : findIn K (.ref C) "__eq__" = some (some (.ref f))) (hf : PySem.W.isFn K (.ref f) = true)
    (h : wpAny (model prog w) A (call (.ref f) [.ref x, b]) (fun v s' => ∃ k, v = .bool k ∧ Q (.done (.ret (.bool (!k)))) s') E s) : wpAny (model prog w) A (Builtin.«object.__ne__» ⟨[.ref x, b], []⟩) Q E s := by
  unfold Builtin.«object.__ne__»
  refine wpAny_bind (wpAny_pure ?_)
  refine wpAny_bind (wpAny_cRoomFor hu ?_)
  refine wpAny_bind (PySem.W.ifBound_K X I hs hf ?_)
  refine wpAny_mono h (fun v s' hv => ?_) (fun _ _ e => e)
  obtain ⟨k, rfl, q⟩ := hv
  refine wpAny_bind (wpAny_truthy_bool ?_)
  exact wpAny_pure q
theorem cmp_ne {Q : Value → Shared → Prop} {f : Addr} {m : Str → Option Value} {L : Addr} {h₀ : Heap} (hu : A.units + 1 < cLine) (G : Fr h₀ L s.heap m) (X₀ : K.In h₀) (I : PySem.W.InstAt s.heap x ox C od) (hb : PySem.W.Looks (model prog w) s.heap (typeOf b) tb) (hn : PySem.W.notFirst K C tb = true)
    (hne : findIn K (.ref C) "__ne__" = some (some (.builtin "object.__ne__"))) (hso : subIn K (.ref C) (.type "object") = some true) (hs : findIn K (.ref C) "__eq__" = some (some (.ref f))) (hf : PySem.W.isFn K (.ref f) = true)
    (h : wpAny (model prog w) A.in1 (call (.ref f) [.ref x, b]) (fun v s' => ∃ k, v = .bool k ∧ Q (.bool (!k)) s') E s) : wpAny (model prog w) A (richCompare .NotEq (.ref x) b) Q E s := by
  have X := X₀.keeps G.keep
  have hu0 : A.units < cLine := by omega
  have one : wpAny (model prog w) A (tryCompare (.ref x) (cmpInfo .NotEq).2.1 b) (fun r s' => ∃ v, r = some v ∧ Q v s') E s := by
    unfold tryCompare
    refine wpAny_bind (ifBound_B X I hne PySem.F.slot_object_ne (wpAny_call (codeAny_call_builtin PySem.F.slot_object_ne.plain PySem.F.cmpEntry_ne (check_B X I PySem.F.cmpKind_ne PySem.F.cmpSplit_ne (PySem.F.cmpArgs_ne _ _) hso (ne_entry (A := A.in1) hu X I hs hf ?_)))))
    refine wpAny_mono h (fun v s' hv => ?_) fun _ _ e => e
    obtain ⟨k, rfl, q⟩ := hv
    exact ⟨k, rfl, wpAny_pure ⟨_, rfl, q⟩⟩
  unfold richCompare
  simp only [oneThing_ref]
  refine wpAny_holding (wpAny_bind (wpAny_cRoomFor hu0 ?_))
  refine wpAny_bind (I.type.here (wpAny_bind (hb.here ?_)))
  split
  · rename_i q
    have e : subIn K tb (.ref C) = some false := by
      rcases Bool.or_eq_true_iff.mp hn with e | e
      · rw [beq_iff_eq.mp e] at q; simp at q
      · exact beq_iff_eq.mp e
    refine wpAny_bind ((looks_subIn X e).here ?_)
    simp only [Bool.false_eq_true, if_false]
    refine wpAny_bind (wpAny_mono one (fun r s' z => ?_) fun _ _ e => e)
    obtain ⟨v, rfl, hq⟩ := z
    exact wpAny_pure hq
  · refine wpAny_bind (wpAny_pure ?_)
    simp only [Bool.false_eq_true, if_false]
    refine wpAny_bind (wpAny_mono one (fun r s' z => ?_) fun _ _ e => e)
    obtain ⟨v, rfl, hq⟩ := z
    exact wpAny_pure hq
end
end Bw

/-! == of own objects, and of lists of such: either answer -/
namespace Bw
open PySem PySem.Spec PySem.SeqAt PyProof.Rows L2 LamX
open AutoSeq1 (wpAny_loadPart')
open MeetsSeq MeetsSeq2 MeetsSeq3 SeqRoads2
section
variable {prog : Program} {w : World} {A : Around} {R : Result → Shared → Prop}
/-- at each turn the two lists are read anew -/
def ListB (prog : Program) (w : World) (A : Around) (E : Value → Shared → Prop) (l b : Addr) (N : Nat) (bs : Nat → Bool) (I : Shared → Prop) : Prop :=
  ∀ s, I s → ∃ (items items2 : Array Value) (n n2 : Nat), s.heap.get? l = some { cls := .type "list", data := .seq items n } ∧ s.heap.get? b = some { cls := .type "list", data := .seq items2 n2 } ∧ items.size = N ∧ items2.size = N ∧
    ∀ i (h1 : i < items.size) (h2 : i < items2.size), wpAny (model prog w) A.in1 (eqBool items[i] items2[i]) (fun r s' => r = bs i ∧ I s') E s
theorem eq_loopB (l b : Addr) (N : Nat) (bs : Nat → Bool) (I : Shared → Prop) (hl : ListB prog w A (fun e s' => R (.error e) s') l b N bs I)
    (fin : ∀ s, I s → R (.ok (.ret (.bool ((List.range N).all bs)))) s) (k : Nat) :
    ∀ i : Nat, N - i = k → i ≤ N → (∀ j, j < i → bs j = true) → ∀ s, I s →
      wpAny (model prog w) A.in1 (Builtin.«list.__eq__.loop» ⟨[.ref l, .ref b, rawInt i, rawInt 2], []⟩) (GQ.FinOf prog w A R) (fun e s' => R (.error e) s') s := by
  induction k with
  | zero =>
    intro i hk hi hbs s h
    obtain ⟨items, items2, n, n2, hl1, hb1, hs1, hs2, _⟩ := hl _ h
    have hi' : i = N := by omega
    have hall : (List.range N).all bs = true := by
      rw [List.all_eq_true]
      intro x hx
      exact hbs x (by rw [hi']; exact List.mem_range.mp hx)
    have hR : R (.ok (.ret (.bool true))) s := hall ▸ fin s h
    obtain ⟨hp, g, d, tk, os⟩ := s
    wp_walk using wpAny_loadPart' hl1, wpAny_loadPart' hb1
    have hi1 : items[((i : Nat) : Int).toNat]? = none := by simp; omega
    have hi2 : items2[((i : Nat) : Int).toNat]? = none := by simp; omega
    rw [hi1, hi2]
    wp_walk using wpAny_loadPart' hl1, wpAny_loadPart' hb1
    show R (.ok (.ret (.bool (items.size == items2.size)))) _
    rw [hs1, hs2]
    simpa using hR
  | succ k ih =>
    intro i hk hi hbs s h
    obtain ⟨items, items2, n, n2, hl1, hb1, hs1, hs2, turn⟩ := hl _ h
    have hlt : i < items.size := by omega
    have hlt2 : i < items2.size := by omega
    have ht := turn i hlt hlt2
    obtain ⟨hp, g, d, tk, os⟩ := s
    wp_walk using wpAny_loadPart' hl1, wpAny_loadPart' hb1
    have hi1 : items[((i : Nat) : Int).toNat]? = some items[i] := by simp [hlt]
    have hi2 : items2[((i : Nat) : Int).toNat]? = some items2[i] := by simp [hlt2]
    have hc : ((i : Int) + 1) = ((i + 1 : Nat) : Int) := by omega
    rw [hi1, hi2]
    refine wpAny_bind (wpAny_mono ht (fun r s2 h2 => ?_) fun _ _ x => x)
    obtain ⟨hr, h2⟩ := h2
    cases hb : bs i with
    | true =>
      rw [hb] at hr
      subst hr
      have hrec := ih (i + 1) (by omega) (by omega) (fun j hj => by
        rcases Nat.lt_or_eq_of_le (Nat.le_of_lt_succ hj) with h | h
        · exact hbs j h
        · exact h ▸ hb) s2 h2
      obtain ⟨hp2, g2, d2, tk2, os2⟩ := s2
      wp_walk
      rw [hc]
      exact ⟨plainId_quiet plain_eq_loop _, codeAny_builtin entry_eq_loop (by
        rw [Around.under_plainId plain_eq_loop _]
        exact hrec)⟩
    | false =>
      rw [hb] at hr
      subst hr
      obtain ⟨itemsB, items2B, nB, n2B, hl1B, hb1B, hs1B, hs2B, _⟩ := hl _ h2
      have hi1B : itemsB[((i : Nat) : Int).toNat]? = some (itemsB[i]'(by omega)) := by
        have : i < itemsB.size := by omega
        simp [this]
      have hi2B : items2B[((i : Nat) : Int).toNat]? = some (items2B[i]'(by omega)) := by
        have : i < items2B.size := by omega
        simp [this]
      have hall : (List.range N).all bs = false := by
        rw [Bool.eq_false_iff]
        intro z
        rw [List.all_eq_true] at z
        have := z i (List.mem_range.mpr (by omega))
        rw [hb] at this
        cases this
      have hR : R (.ok (.ret (.bool false))) s2 := hall ▸ fin s2 h2
      obtain ⟨hp2, g2, d2, tk2, os2⟩ := s2
      wp_walk using wpAny_loadPart' hl1B, wpAny_loadPart' hb1B
      rw [hi1B, hi2B]
      wp_walk
      exact hR
theorem list_eqB (l b : Addr) (N : Nat) (bs : Nat → Bool) (I : Shared → Prop) (hl : ListB prog w A (fun e s' => R (.error e) s') l b N bs I)
    (fin : ∀ s, I s → R (.ok (.ret (.bool ((List.range N).all bs)))) s) {s : Shared} (h : I s) :
    wpAny (model prog w) A.in1 (Builtin.«list.__eq__» ⟨[.ref l, .ref b], []⟩) (GQ.FinOf prog w A R) (fun e s' => R (.error e) s') s := by
  obtain ⟨items, items2, n, n2, hl1, hb1, hs1, hs2, _⟩ := hl _ h
  have hrec := eq_loopB (A := A) (R := R) l b N bs I hl fin _ 0 rfl (Nat.zero_le _) (fun j hj => absurd hj (Nat.not_lt_zero _)) s h
  obtain ⟨hp, g, d, tk, os⟩ := s
  have f3 := AutoSeq1.sub_list_list
  have hne : ¬ (items.size != items2.size) = true := by simp [hs1, hs2]
  wp_walk using wpAny_loadPart' hl1, wpAny_loadPart' hb1
  exact ⟨plainId_quiet plain_eq_loop _, codeAny_builtin entry_eq_loop (by
    rw [Around.under_plainId plain_eq_loop _]
    exact hrec)⟩
/-- x in l -/
def ContB (prog : Program) (w : World) (A : Around) (E : Value → Shared → Prop) (l : Addr) (x : Value) (N : Nat) (bs : Nat → Bool) (I : Shared → Prop) : Prop :=
  ∀ s, I s → ∃ (items : Array Value) (n : Nat), s.heap.get? l = some { cls := .type "list", data := .seq items n } ∧ items.size = N ∧
    ∀ i (h1 : i < items.size), wpAny (model prog w) A.in1 (eqBool items[i] x) (fun r s' => r = bs i ∧ I s') E s
theorem cont_loopB (l : Addr) (x : Value) (N : Nat) (bs : Nat → Bool) (I : Shared → Prop) (hl : ContB prog w A (fun e s' => R (.error e) s') l x N bs I)
    (fin : ∀ s, I s → R (.ok (.ret (.bool ((List.range N).any bs)))) s) (k : Nat) :
    ∀ i : Nat, N - i = k → i ≤ N → (∀ j, j < i → bs j = false) → ∀ s, I s →
      wpAny (model prog w) A.in1 (Builtin.«list.__contains__.loop» ⟨[.ref l, x, rawInt i], []⟩) (GQ.FinOf prog w A R) (fun e s' => R (.error e) s') s := by
  induction k with
  | zero =>
    intro i hk hi hbs s h
    obtain ⟨items, n, hl1, hs1, _⟩ := hl _ h
    have hi' : i = N := by omega
    have hall : (List.range N).any bs = false := by
      rw [List.any_eq_false]
      intro x hx
      rw [hbs x (by rw [hi']; exact List.mem_range.mp hx)]
      exact Bool.false_ne_true
    have hR : R (.ok (.ret (.bool false))) s := hall ▸ fin s h
    obtain ⟨hp, g, d, tk, os⟩ := s
    wp_walk using wpAny_loadPart' hl1
    have hi1 : items[((i : Nat) : Int).toNat]? = none := by simp; omega
    rw [hi1]
    wp_walk
    exact hR
  | succ k ih =>
    intro i hk hi hbs s h
    obtain ⟨items, n, hl1, hs1, turn⟩ := hl _ h
    have hlt : i < items.size := by omega
    have ht := turn i hlt
    obtain ⟨hp, g, d, tk, os⟩ := s
    wp_walk using wpAny_loadPart' hl1
    have hi1 : items[((i : Nat) : Int).toNat]? = some items[i] := by simp [hlt]
    have hc : ((i : Int) + 1) = ((i + 1 : Nat) : Int) := by omega
    rw [hi1]
    refine wpAny_bind (wpAny_mono ht (fun r s2 h2 => ?_) fun _ _ x => x)
    obtain ⟨hr, h2⟩ := h2
    cases hb : bs i with
    | true =>
      rw [hb] at hr
      subst hr
      have hall : (List.range N).any bs = true := by
        rw [List.any_eq_true]
        exact ⟨i, List.mem_range.mpr (by omega), hb⟩
      have hR : R (.ok (.ret (.bool true))) s2 := hall ▸ fin s2 h2
      obtain ⟨hp2, g2, d2, tk2, os2⟩ := s2
      wp_walk
      exact hR
    | false =>
      rw [hb] at hr
      subst hr
      have hrec := ih (i + 1) (by omega) (by omega) (fun j hj => by
        rcases Nat.lt_or_eq_of_le (Nat.le_of_lt_succ hj) with h | h
        · exact hbs j h
        · exact h ▸ hb) s2 h2
      obtain ⟨hp2, g2, d2, tk2, os2⟩ := s2
      wp_walk
      rw [hc]
      exact ⟨plainId_quiet plain_contains_loop _, codeAny_builtin entry_contains_loop (by
        rw [Around.under_plainId plain_contains_loop _]
        exact hrec)⟩
theorem list_contB (l : Addr) (x : Value) (N : Nat) (bs : Nat → Bool) (I : Shared → Prop) (hl : ContB prog w A (fun e s' => R (.error e) s') l x N bs I)
    (fin : ∀ s, I s → R (.ok (.ret (.bool ((List.range N).any bs)))) s) {s : Shared} (h : I s) :
    wpAny (model prog w) A.in1 (Builtin.«list.__contains__» ⟨[.ref l, x], []⟩) (GQ.FinOf prog w A R) (fun e s' => R (.error e) s') s := by
  obtain ⟨items, n, hl1, hs1, _⟩ := hl _ h
  have hrec := cont_loopB (A := A) (R := R) l x N bs I hl fin _ 0 rfl (Nat.zero_le _) (fun j hj => absurd hj (Nat.not_lt_zero _)) s h
  obtain ⟨hp, g, d, tk, os⟩ := s
  wp_walk using wpAny_loadPart' hl1
  exact ⟨plainId_quiet plain_contains_loop _, codeAny_builtin entry_contains_loop (by
    rw [Around.under_plainId plain_contains_loop _]
    exact hrec)⟩
end
section
variable {prog : Program} {w : World} {A : Around} {E : Value → Shared → Prop} {s : Shared}
theorem rc_listB {l b : Addr} {N : Nat} {bs : Nat → Bool} {Q : Value → Shared → Prop} (hu : A.units < cLine) (I : Shared → Prop) (hl : ListB prog w A E l b N bs I)
    (fin : ∀ s, I s → Q (.bool ((List.range N).all bs)) s) (h : I s) : wpAny (model prog w) A (richCompare .Eq (.ref l) (.ref b)) Q E s := by
  obtain ⟨items, items2, n, n2, hl1, hb1, _, _, _⟩ := hl _ h
  refine wpAny_richCompare_same_room (op := .Eq) ⟨_, hl1, rfl⟩ ⟨_, hb1, rfl⟩ F.slot_list_eq (GQ.call_here F.slot_list_eq ⟨_, hl1, rfl⟩ F.entry_list_eq (F.args_list_eq_2 _ _) ?_) hu
  exact list_eqB (R := wants (fun v s' => v ≠ .notImplemented ∧ Q v s') E) l b N bs I hl (fun s' q => ⟨(fun x => nomatch x), fin s' q⟩) h
theorem rc_listD {l b : Addr} {items items2 : Array Value} {n n2 : Nat} {Q : Value → Shared → Prop} (hu : A.units < cLine) (hl : s.heap.get? l = some { cls := .type "list", data := .seq items n }) (hb : s.heap.get? b = some { cls := .type "list", data := .seq items2 n2 }) (hne : items.size ≠ items2.size)
    (fin : Q (.bool false) s) : wpAny (model prog w) A (richCompare .Eq (.ref l) (.ref b)) Q E s := by
  refine wpAny_richCompare_same_room (op := .Eq) ⟨_, hl, rfl⟩ ⟨_, hb, rfl⟩ F.slot_list_eq ?_ hu
  exact call_meets F.slot_list_eq ⟨_, hl, rfl⟩ F.entry_list_eq (F.args_list_eq_2 _ _) (list_eq_lengthsAt l b items items2 n n2 none none #[] #[] (by simp [hne])) ⟨hl, hb, (fun x => nomatch x), fin⟩
end
end Bw

/-! == by own __eq__ over the layer: either answer; !=, in, lists of own objects -/
namespace Bw
open PySem PySem.Spec PyProof.Rows L2 LamX
/-- x == y answers b, by the abstract heap -/
abbrev Eqb := V → V → Hp → Bool → Prop
def MonB (D : Eqb) : Prop := ∀ x y H H' b, Same H H' → D x y H b → D x y H' b
def EqbX (X : Cx) (n : Nat) (D : Eqb) : Prop :=
  ∀ (A : Around) (pins : List (Addr × Obj)) (s : Shared) (σ : L2.St) (H : Hp) (x y : V) (u v : Value) (b : Bool), Sub X n A → Inv X pins σ H s → RelV x u → RelV y v → D x y H b →
    wpAny (model X.prog X.w) A (eqBool u v) (fun r s' => r = b ∧ ∃ H', Inv X pins σ H' s' ∧ Same H H') X.xe s
def RcbX (X : Cx) (n : Nat) (D : Eqb) : Prop :=
  ∀ (A : Around) (pins : List (Addr × Obj)) (s : Shared) (σ : L2.St) (H : Hp) (x y : V) (u v : Value) (b : Bool), Sub X n A → Inv X pins σ H s → RelV x u → RelV y v → D x y H b →
    wpAny (model X.prog X.w) A (richCompare .Eq u v) (fun r s' => r = .bool b ∧ ∃ H', Inv X pins σ H' s' ∧ Same H H') X.xe s
section
variable {X : Cx} {n m : Nat} {D D' : Eqb}
theorem EqbX.mono (h : EqbX X n D) (hn : n ≤ m) : EqbX X m D := fun A pins s σ H x y u v b sb => h A pins s σ H x y u v b (sb.mono hn)
theorem RcbX.mono (h : RcbX X n D) (hn : n ≤ m) : RcbX X m D := fun A pins s σ H x y u v b sb => h A pins s σ H x y u v b (sb.mono hn)
theorem RcbX.or (h : RcbX X n D) (h' : RcbX X n D') : RcbX X n (fun x y H b => D x y H b ∨ D' x y H b) := fun A pins s σ H x y u v b sb I rx ry d =>
  d.elim (h A pins s σ H x y u v b sb I rx ry) (h' A pins s σ H x y u v b sb I rx ry)
theorem EqbX.or (h : EqbX X n D) (h' : EqbX X n D') : EqbX X n (fun x y H b => D x y H b ∨ D' x y H b) := fun A pins s σ H x y u v b sb I rx ry d =>
  d.elim (h A pins s σ H x y u v b sb I rx ry) (h' A pins s σ H x y u v b sb I rx ry)
/-- data -/
def BData (K : PySem.W.Frag) : Eqb := fun x y H b => ∃ d e, Dp K H x d ∧ Dp K H y e ∧ SeqAt.shaped d = true ∧ SeqAt.shaped e = true ∧ PyData.eqv d e = b
theorem rcb_data : RcbX X 1 (BData X.K) := by
  intro A pins s σ H x y u v b sb I rx ry hd
  obtain ⟨d, e, hx, hy, sd, se, rfl⟩ := hd
  obtain ⟨as, r1⟩ := Dp.reads I d x u hx rx
  obtain ⟨bs, r2⟩ := Dp.reads I e y v hy ry
  exact SeqAt.compareEq_shaped r1 r2 sd se sb.room.units ⟨rfl, H, I, fun _ _ h => h⟩
theorem mon_data {K : PySem.W.Frag} : MonB (BData K) := fun x y H H' b s h => by
  obtain ⟨d, e, hx, hy, r⟩ := h
  exact ⟨d, e, same_dp s hx, same_dp s hy, r⟩
/-- the same object equals itself within lists; other ones as by == -/
def BSame (D : Eqb) : Eqb := fun x y H b => (∃ a, x = .ref a ∧ y = .ref a ∧ b = true) ∨ ((∃ a c, x = .ref a ∧ y = .ref c ∧ a ≠ c) ∧ D x y H b)
theorem RcbX.eqb (h : RcbX X n D) : EqbX X n (BSame D) := by
  intro A pins s σ H x y u v b sb I rx ry d
  rcases d with ⟨a, rfl, rfl, rfl⟩ | ⟨⟨a, c, rfl, rfl, hne⟩, d⟩
  · cases rx
    cases ry
    exact SeqAt.EqAt.same (A := A) (s := s) (.ref a) X.prog X.w X.xe _ ⟨rfl, H, I, fun _ _ h => h⟩
  · cases rx
    cases ry
    refine GQ.eqBool_refG hne (wpAny_mono (h A pins s σ H (.ref a) (.ref c) _ _ b sb I rfl rfl d) (fun r s' q => ?_) fun _ _ x => x)
    obtain ⟨hr', q⟩ := q
    exact ⟨b, hr', rfl, q⟩
theorem mon_same (h : MonB D) : MonB (BSame D) := fun x y H H' b s d => d.imp id fun ⟨e, d⟩ => ⟨e, h x y H H' b s d⟩
/-- own objects of the class C -/
def BIns (K : PySem.W.Frag) (C : Addr) (R : Addr → V → Hp → Bool → Prop) : Eqb := fun x y H b => ∃ a dx fs, x = .ref a ∧ H a = some (.ins C dx fs) ∧ Side K H C y ∧ R a y H b
def spEqb (R : Addr → V → Hp → Bool → Prop) : Sp := fun vs H Q _ => ∃ a y b, vs = [.ref a, y] ∧ R a y H b ∧ ∀ H', Same H H' → Q (.bl b) H'
theorem Side.same {K : PySem.W.Frag} {H H' : Hp} {C : Addr} {y : V} (h : Side K H C y) (s : Same H H') : Side K H' C y := by
  cases h with
  | int i h => exact .int i h
  | bl b h => exact .bl b h
  | str x h => exact .str x h
  | non h => exact .non h
  | lst e h => exact .lst (s _ _ e) h
  | tup e h => exact .tup (s _ _ e) h
  | own e => exact .own (s _ _ e)
theorem mon_ins' {K : PySem.W.Frag} {C : Addr} {R : Addr → V → Hp → Bool → Prop} (hR : ∀ a y H H' b, Same H H' → R a y H b → R a y H' b) : MonB (BIns K C R) := fun x y H H' b s d => by
  obtain ⟨a, dx, fs, e, h, sd, r⟩ := d
  exact ⟨a, dx, fs, e, s _ _ h, sd.same s, hR a y H H' b s r⟩
theorem rcb_ins {C : Addr} {ps : List Str} {R : Addr → V → Hp → Bool → Prop} (O : EqO X.prog X.w X.K X.mg X.base C n ps (spEqb R)) : RcbX X n (BIns X.K C R) := by
  intro A pins s σ H x y u v b sb I rx ry d
  obtain ⟨a, dx, fs, rfl, ha, hy, hR⟩ := d
  obtain ⟨f, fd, F, hs, hf, hb⟩ := O.ex
  cases rx
  obtain ⟨tb, lk, nf⟩ := side_looks I ry hy
  obtain ⟨mA, J, _⟩ := ins_get I.hok ha
  obtain ⟨od, J, _⟩ := J.look
  obtain ⟨m, hF⟩ := I.fr
  refine PySem.W.cmp_K (op := .Eq) sb.room.units0 hF I.ok.mod.kin J lk nf hs hf ?_
  have hsp : spEqb R [.ref a, y] H (fun v H' => v = .bl b ∧ Same H H') C8.E0 := ⟨a, y, b, rfl, hR, fun H' e => ⟨rfl, e⟩⟩
  have e0 : Env0 X.prog X.w X.K X.mg X.base A X.stack s H := by
    have e := I.env0
    exact ⟨by rw [sb.fr]; exact e.frames, e.mod, e.bs, e.bsz, e.funs, e.frf, e.hok, e.bare⟩
  have hl := F.len _ _ _ _ hsp
  have r2 : Vals [V.ref a, y] [Value.ref a, v] := .cons rfl (.cons ry .nil)
  refine wpAny_call (codeAny_mono (F.run A X.stack s H ⟨[.ref a, v], []⟩ [.ref a, v] [.ref a, y] _ _ sb.room e0 (by
    have := hb s [.ref a, v] I.kIn (by simpa using hl)
    simpa using this) r2 hsp) fun r s' hq => ?_)
  cases r with
  | error e => exact pass0 pins σ H s e s' I hq
  | ok fl =>
    cases fl with
    | ret w =>
      obtain ⟨z, H', I', rz, ez, ex⟩ := I.after hq
      subst ez
      cases rz
      exact ⟨rfl, H', I', ex⟩
    | next => exact False.elim hq
    | brk => exact False.elim hq
    | cont => exact False.elim hq
/-- lists -/
def BList (D : Eqb) : Eqb := fun x y H b => ∃ a c xs ys, x = .ref a ∧ y = .ref c ∧ H a = some (.lst xs) ∧ H c = some (.lst ys) ∧
  ((xs.length ≠ ys.length ∧ b = false) ∨ (xs.length = ys.length ∧ ∃ bs : Nat → Bool, (∀ i x y, xs[i]? = some x → ys[i]? = some y → D x y H (bs i)) ∧ b = (List.range xs.length).all bs))
theorem mon_list' (h : MonB D) : MonB (BList D) := fun x y H H' b s d => by
  obtain ⟨a, c, xs, ys, e1, e2, h1, h2, d⟩ := d
  refine ⟨a, c, xs, ys, e1, e2, s _ _ h1, s _ _ h2, d.imp id fun ⟨l, bs, hb, e⟩ => ⟨l, bs, fun i x y k1 k2 => h x y H H' _ s (hb i x y k1 k2), e⟩⟩
def LoopB (X : Cx) (pins : List (Addr × Obj)) (σ : L2.St) (H : Hp) (s' : Shared) : Prop := ∃ H', Inv X pins σ H' s' ∧ Same H H'
theorem turnB (hD : MonB D) (h : EqbX X n D) {A : Around} (sb : Sub X (n + 1) A) {pins : List (Addr × Obj)} {σ : L2.St} {H : Hp} {xs ys : List V} {its its2 : List Value} {bs : Nat → Bool}
    (p : ∀ i x y, xs[i]? = some x → ys[i]? = some y → D x y H (bs i)) (r : Vals xs its) (r2 : Vals ys its2)
    (i : Nat) (h1 : i < its.toArray.size) (h2 : i < its2.toArray.size) (s' : Shared) (l : LoopB X pins σ H s') :
    wpAny (model X.prog X.w) A.in1 (eqBool its.toArray[i] its2.toArray[i]) (fun r s2 => r = bs i ∧ LoopB X pins σ H s2) X.xe s' := by
  obtain ⟨H1, I1, e1⟩ := l
  have g1 : its[i]? = some its.toArray[i] := by
    have h1' : i < its.length := by simpa using h1
    rw [List.getElem?_eq_getElem h1'] <;> simp
  have g2 : its2[i]? = some its2.toArray[i] := by
    have h2' : i < its2.length := by simpa using h2
    rw [List.getElem?_eq_getElem h2'] <;> simp
  have k1 : i < xs.length := by rw [r.length]; simpa using h1
  have k2 : i < ys.length := by rw [r2.length]; simpa using h2
  obtain ⟨u, hu, ru⟩ := r.get (List.getElem?_eq_getElem k1)
  obtain ⟨v, hv, rv⟩ := r2.get (List.getElem?_eq_getElem k2)
  rw [g1] at hu
  rw [g2] at hv
  rw [Option.some.inj hu, Option.some.inj hv]
  refine wpAny_mono (h A.in1 pins s' σ H1 _ _ u v (bs i) sb.in1 I1 ru rv (hD _ _ _ _ _ e1 (p i _ _ (List.getElem?_eq_getElem k1) (List.getElem?_eq_getElem k2)))) (fun r s2 q => ?_) fun _ _ x => x
  obtain ⟨hr, H2, I2, e2⟩ := q
  exact ⟨hr, H2, I2, e1.trans e2⟩
theorem rcb_list (hD : MonB D) (h : EqbX X n D) : RcbX X (n + 1) (BList D) := by
  intro A pins s σ H x y u v b sb I rx ry d
  obtain ⟨a, c, xs, ys, rfl, rfl, ha, hc, d⟩ := d
  cases rx
  cases ry
  rcases d with ⟨hne, rfl⟩ | ⟨hl, bs, hb, rfl⟩
  · obtain ⟨z, its, k, r, e⟩ := I.hok a _ ha
    obtain ⟨z2, its2, k2, r2, e2⟩ := I.hok c _ hc
    exact rc_listD sb.room.units0 e e2 (by rw [List.size_toArray, List.size_toArray, ← r.length, ← r2.length]; exact hne) ⟨rfl, H, I, fun _ _ h => h⟩
  · refine rc_listB (N := xs.length) (bs := bs) sb.room.units0 (fun s' => LoopB X pins σ H s') (fun s' q => ?_) (fun s' q => ⟨rfl, q⟩) ⟨H, I, fun _ _ h => h⟩
    obtain ⟨H1, I1, e1⟩ := id q
    obtain ⟨z, its, k, r, e⟩ := I1.hok a _ (e1 _ _ ha)
    obtain ⟨z2, its2, k2, r2, e2⟩ := I1.hok c _ (e1 _ _ hc)
    refine ⟨its.toArray, its2.toArray, k, k2, e, e2, by rw [List.size_toArray, ← r.length], by rw [List.size_toArray, ← r2.length, hl], fun i h1 h2 => ?_⟩
    exact turnB hD h sb hb r r2 i h1 h2 s' q
/-- x == y as an expression -/
def rEqb (D : Eqb) : R2 := fun x y H Q => ∃ b, D x y H b ∧ ∀ H', Same H H' → Q (.bl b) H'
theorem op_eqb (h : RcbX X n D) (hr : Room n X.A) : OpR X (compareOp .Eq) (rEqb D) := by
  intro pins s σ H x y v u Q I rx ry hq
  obtain ⟨b, d, q⟩ := hq
  show wpAny (model X.prog X.w) X.A (richCompare .Eq v u) (EP X pins σ Q) X.xe s
  refine wpAny_mono (h X.A pins s σ H x y v u b ⟨hr, rfl⟩ I rx ry d) (fun r s' z => ?_) fun _ _ x => x
  obtain ⟨hr', H', I', e⟩ := z
  subst hr'
  exact ⟨.bl b, H', I', rfl, q H' e⟩
/-- the class's != is that of object -/
structure NeO (K : PySem.W.Frag) (C : Addr) : Prop where
  ne : PySem.W.findIn K (.ref C) "__ne__" = some (some (.builtin "object.__ne__"))
  so : PySem.W.subIn K (.ref C) (.type "object") = some true
/-- x != y by an own __eq__ -/
def rNeO (K : PySem.W.Frag) (C : Addr) (R : Addr → V → Hp → Bool → Prop) : R2 := fun x y H Q => ∃ b, BIns K C R x y H b ∧ ∀ H', Same H H' → Q (.bl (!b)) H'
theorem op_neO {C : Addr} {ps : List Str} {R : Addr → V → Hp → Bool → Prop} (O : EqO X.prog X.w X.K X.mg X.base C n ps (spEqb R)) (N : NeO X.K C) (hr : Room (n + 1) X.A) : OpR X (compareOp .NotEq) (rNeO X.K C R) := by
  intro pins s σ H x y v u Q I rx ry h
  obtain ⟨b, ⟨a, dx, fs, rfl, ha, hy, hR⟩, q⟩ := h
  obtain ⟨f, fd, F, hs, hf, hb⟩ := O.ex
  cases rx
  obtain ⟨tb, lk, nf⟩ := side_looks I ry hy
  obtain ⟨mA, J, _⟩ := ins_get I.hok ha
  obtain ⟨od, J, _⟩ := J.look
  obtain ⟨m, hF⟩ := I.fr
  show wpAny (model X.prog X.w) X.A (richCompare .NotEq (.ref a) u) (EP X pins σ Q) X.xe s
  have hu1 : X.A.units + 1 < cLine := by have := hr.units; omega
  refine cmp_ne hu1 hF I.ok.mod.kin J lk nf N.ne N.so hs hf ?_
  have hsp : spEqb R [.ref a, y] H (fun v H' => v = .bl b ∧ Same H H') C8.E0 := ⟨a, y, b, rfl, hR, fun H' e => ⟨rfl, e⟩⟩
  have sb : Sub X n X.A.in1 := Sub.in1 ⟨hr, rfl⟩
  have e0 : Env0 X.prog X.w X.K X.mg X.base X.A.in1 X.stack s H := by
    have e := I.env0
    exact ⟨by rw [sb.fr]; exact e.frames, e.mod, e.bs, e.bsz, e.funs, e.frf, e.hok, e.bare⟩
  have hl := F.len _ _ _ _ hsp
  have r2 : Vals [V.ref a, y] [Value.ref a, u] := .cons rfl (.cons ry .nil)
  refine wpAny_call (codeAny_mono (F.run X.A.in1 X.stack s H ⟨[.ref a, u], []⟩ [.ref a, u] [.ref a, y] _ _ sb.room e0 (by
    have := hb s [.ref a, u] I.kIn (by simpa using hl)
    simpa using this) r2 hsp) fun r s' hq => ?_)
  cases r with
  | error e => exact pass0 pins σ H s e s' I hq
  | ok fl =>
    cases fl with
    | ret w =>
      obtain ⟨z, H', I', rz, ez, ex⟩ := I.after hq
      subst ez
      cases rz
      exact ⟨b, rfl, .bl (!b), H', I', rfl, q H' ex⟩
    | next => exact False.elim hq
    | brk => exact False.elim hq
    | cont => exact False.elim hq
/-- x in a list -/
def rInB (D : Eqb) : R2 := fun x y H Q => ∃ l xs, y = .ref l ∧ H l = some (.lst xs) ∧ ∃ bs : Nat → Bool, (∀ i z, xs[i]? = some z → D z x H (bs i)) ∧ ∀ H', Same H H' → Q (.bl ((List.range xs.length).any bs)) H'
theorem op_inB (hD : MonB D) (h : EqbX X n D) (hr : Room (n + 1) X.A) : OpR X (compareOp .In) (rInB D) := by
  intro pins s σ H x y v u Q I rx ry hq
  obtain ⟨l, xs, rfl, hl, bs, hb, q⟩ := hq
  cases ry
  have key : ContB X.prog X.w X.A (fun e s' => wants (fun v s' => ∃ b, v = .bool b ∧ EP X pins σ Q (.bool b) s') X.xe (.error e) s') l v xs.length bs (fun s' => LoopB X pins σ H s') := by
    intro s' hI
    obtain ⟨H1, I1, e1⟩ := id hI
    obtain ⟨z, its, k, r, e⟩ := I1.hok l _ (e1 _ _ hl)
    refine ⟨its.toArray, k, e, by rw [List.size_toArray, ← r.length], fun i h1 => ?_⟩
    have h1' : i < its.length := by simpa using h1
    have g1 : its[i]? = some its.toArray[i] := by rw [List.getElem?_eq_getElem h1'] <;> simp
    have k1 : i < xs.length := by rw [r.length]; simpa using h1
    obtain ⟨u, hu, ru⟩ := r.get (List.getElem?_eq_getElem k1)
    rw [g1] at hu
    rw [Option.some.inj hu]
    refine wpAny_mono (h X.A.in1 pins s' σ H1 _ x u v (bs i) (Sub.in1 ⟨hr, rfl⟩) I1 ru rx (hD _ _ _ _ _ e1 (hb i _ (List.getElem?_eq_getElem k1)))) (fun r s2 q => ?_) fun _ _ x => x
    obtain ⟨hr, H2, I2, e2⟩ := q
    exact ⟨hr, H2, I2, e1.trans e2⟩
  obtain ⟨z, its, k, r, e⟩ := I.hok l _ hl
  show wpAny (model X.prog X.w) X.A (do return Value.bool (← contains (.ref l) v)) (EP X pins σ Q) X.xe s
  refine wpAny_bind (wpAny_contains_slot ⟨_, e, rfl⟩ F.slot_list_contains (wpAny_mono (Q := fun v s' => ∃ b, v = .bool b ∧ EP X pins σ Q (.bool b) s') (GQ.call_here F.slot_list_contains ⟨_, e, rfl⟩ F.entry_list_contains (F.args_list_contains_2 _ _)
    (list_contB (R := wants (fun v s' => ∃ b, v = .bool b ∧ EP X pins σ Q (.bool b) s') X.xe) l v xs.length bs (fun s' => LoopB X pins σ H s') key (fun s' hI => ?_) ⟨H, I, fun _ _ h => h⟩)) (fun v s' hv => ?_) fun _ _ e => e))
  · obtain ⟨H', I', e'⟩ := hI
    exact ⟨_, rfl, .bl _, H', I', rfl, q H' e'⟩
  · obtain ⟨b, rfl, hq⟩ := hv
    exact wpAny_truthy_bool (wpAny_pure hq)
end
/-! ### steps -/
section
variable {H : Hp} {Q : VK} {D : Eqb} {K : PySem.W.Frag} {x y : V}
theorem w_eqb {b : Bool} (d : D x y H b) (k : ∀ H', Same H H' → Q (.bl b) H') : rEqb D x y H Q := ⟨b, d, k⟩
theorem w_neO {C : Addr} {R : Addr → V → Hp → Bool → Prop} {b : Bool} (d : BIns K C R x y H b) (k : ∀ H', Same H H' → Q (.bl (!b)) H') : rNeO K C R x y H Q := ⟨b, d, k⟩
end
/-- either reading of an operator -/
def rOr (r r' : R2) : R2 := fun x y H Q => r x y H Q ∨ r' x y H Q
theorem op_or {X : Cx} {f : Value → Value → Sem Value} {r r' : R2} (h : OpR X f r) (h' : OpR X f r') : OpR X f (rOr r r') := fun pins s σ H x y v u Q I rx ry q =>
  q.elim (h pins s σ H x y v u Q I rx ry) (h' pins s σ H x y v u Q I rx ry)
/-- a class whose instances isinstance knows -/
structure Kls (K : PySem.W.Frag) (C : Addr) : Prop where
  cl : Cls K C
  ha : PySem.W.findIn K (.ref C) "__class__" = some (some (.builtin "object.__class__"))
  hn : PySem.W.specialIn K (.builtin "object.__class__") "__get__" = some (some (.builtin "getset_descriptor.__get__"))
  htk : PySem.W.takesIn K (.builtin "object.__class__") = some true
  hm : PySem.W.mroIn K C (.type "object") = some true
theorem Kls.ty {K : PySem.W.Frag} {H : Hp} {C a dx : Addr} {fs : List (Str × V)} (k : Kls K C) (h : H a = some (.ins C dx fs)) : TyX K H (.ref a) (.ref C) := .base (.ins h k.cl k.ha k.hn k.htk k.hm)
theorem kit_self {K : PySem.W.Frag} {C : Addr} : PySem.W.kitOne K (.ref C) (.ref C) = some true := by
  unfold PySem.W.kitOne
  rw [if_pos (beq_self_eq_true _)]
/-- no instance of C -/
def NotC (K : PySem.W.Frag) (H : Hp) (C : Addr) (y : V) : Prop := ∃ tv, TyX K H y tv ∧ PySem.W.kitOne K tv (.ref C) = some false
/-- what isinstance(x, C) says of the plain kinds -/
structure PlainNot (K : PySem.W.Frag) (C : Addr) : Prop where
  k : ∀ tv ∈ (["int", "bool", "str", "NoneType", "list", "tuple"] : List String), PySem.W.kitOne K (.type tv) (.ref C) = some false ∧ PySem.W.notFirst K C (.type tv) = true
def plainNotB (K : PySem.W.Frag) (C : Addr) : Bool := (["int", "bool", "str", "NoneType", "list", "tuple"] : List String).all fun tv => decide (PySem.W.kitOne K (.type tv) (.ref C) = some false) && PySem.W.notFirst K C (.type tv)
theorem plainNotB_ok {K : PySem.W.Frag} {C : Addr} (h : plainNotB K C = true) : PlainNot K C := ⟨fun tv ht => by
  unfold plainNotB at h
  rw [List.all_eq_true] at h
  have := h tv ht
  simp only [Bool.and_eq_true, decide_eq_true_eq] at this
  exact this⟩
theorem PlainNot.of {K : PySem.W.Frag} {H : Hp} {C : Addr} {y : V} (p : PlainNot K C) (h : Thg H y) : NotC K H C y ∧ Side K H C y := by
  cases h with
  | non => exact ⟨⟨_, tyx_non, (p.k _ (by simp)).1⟩, .non (p.k _ (by simp)).2⟩
  | int i => exact ⟨⟨_, tyx_int, (p.k _ (by simp)).1⟩, .int _ (p.k _ (by simp)).2⟩
  | bl b => exact ⟨⟨_, tyx_bl, (p.k _ (by simp)).1⟩, .bl _ (p.k _ (by simp)).2⟩
  | str x => exact ⟨⟨_, tyx_str, (p.k _ (by simp)).1⟩, .str _ (p.k _ (by simp)).2⟩
  | lst e => exact ⟨⟨_, tyx_lst e, (p.k _ (by simp)).1⟩, .lst e (p.k _ (by simp)).2⟩
  | tup e => exact ⟨⟨_, tyx_tup e, (p.k _ (by simp)).1⟩, .tup e (p.k _ (by simp)).2⟩
theorem w_isiO {K : PySem.W.Frag} {H : Hp} {C : Addr} {y : V} {tv : Value} {k : Bool} {Q : VK} (h : TyX K H y tv) (hk : PySem.W.kitOne K tv (.ref C) = some k) (q : Q (.bl k) H) : rIsi K [y, .ref C] H Q := w_isi (.own C) h hk q
end Bw

namespace Bw
open PySem PySem.Spec PyProof.Rows L2 LamX
section
variable {K : PySem.W.Frag} {H : Hp} {Q : VK}
theorem dpAll_ix : ∀ {xs : List V} {ds : List PyData}, xs.length = ds.length → (∀ (i : Nat) x d, xs[i]? = some x → ds[i]? = some d → Dp K H x d) → DpAll K H xs ds
  | [], [], _, _ => .nil
  | [], _ :: _, h, _ => by cases h
  | _ :: _, [], h, _ => by cases h
  | x :: xs, d :: ds, h, k => .cons (k 0 x d rfl rfl) (dpAll_ix (by simpa using h) fun i y e h1 h2 => k (i + 1) y e h1 h2)
theorem w_rep {l : Addr} {xs : List V} {n : Int} (h : H l = some (.lst xs)) (h0 : -1000 ≤ n) (h1 : n ≤ 100000) (hl : xs.length * n.toNat ≤ 100000) (k : ∀ p H2, H p = none → Same H H2 → H2 p = some (.lst (List.replicate n.toNat xs).flatten) → Q (.ref p) H2) : rRep (.ref l) (.int n) H Q :=
  ⟨l, n, xs, rfl, rfl, h, by omega, by omega, Nat.le_trans hl (by decide), fun p np => k p _ np (same_new np) upd_same⟩
/-- a list is the empty one -/
theorem w_eqNil {x y : V} {ds : List PyData} {n : Nat} (hx : Dp K H x (.list ds)) (hy : Dp K H y (.list [])) (g : GoodD (.list ds) n) (hn : n ≤ 64) (q : Q (.bl ds.isEmpty) H) : rEqD K x y H Q := by
  refine w_eqD hx hy (g.shaped hn) (by simp [SeqAt.shaped, PyData.canLay0, PyData.canLayAll0, PyData.depth, PyData.depthAll]) (k := ds.isEmpty) ?_ q
  cases ds <;> simp [PyData.eqv, PyData.eqvAll]
theorem w_neNil {x y : V} {ds : List PyData} {n : Nat} (hx : Dp K H x (.list ds)) (hy : Dp K H y (.list [])) (g : GoodD (.list ds) n) (hn : n ≤ 64) (q : Q (.bl (!ds.isEmpty)) H) : rNeD K x y H Q := by
  refine w_neD hx hy (g.shaped hn) (by simp [SeqAt.shaped, PyData.canLay0, PyData.canLayAll0, PyData.depth, PyData.depthAll]) (k := ds.isEmpty) ?_ q
  cases ds <;> simp [PyData.eqv, PyData.eqvAll]
/-- a reading whose answer is known, what is behind it once -/
theorem w_val {te : TE} {σ : L2.St} {v : V} {H' : Hp} (h : ∀ Q' : VK, Q' v H' → te σ H Q') (k : Q v H') : te σ H Q := h Q k
theorem tyx_same {H' : Hp} {v : V} {t : Value} (h : TyX K H v t) (s : Same H H') : TyX K H' v t := by
  cases h with
  | base h =>
    refine .base ?_
    cases h with
    | non => exact .non
    | bl x => exact .bl x
    | int i => exact .int i
    | str x => exact .str x
    | flt x => exact .flt x
    | lst e => exact .lst (s _ _ e)
    | frz e => exact .frz (s _ _ e)
    | tup e => exact .tup (s _ _ e)
    | dK e => exact .dK (s _ _ e)
    | dT e => exact .dT (s _ _ e)
    | ins e cl ha hn htk hm => exact .ins (s _ _ e) cl ha hn htk hm
  | byt b => exact .byt b
  | set e => exact .set (s _ _ e)
  | kList e c => exact .kList e c
  | kTuple e c => exact .kTuple e c
  | kDict e c => exact .kDict e c
  | fTuple e => exact .fTuple (s _ _ e)
  | fDict e => exact .fDict (s _ _ e)
end
end Bw

/-! len, str, repr by own methods -/
namespace Bw
open PySem PySem.Spec PyProof.Rows L2 LamX
/-- a class's own special method m -/
structure Spc (P : Program) (w : World) (K : PySem.W.Frag) (mg : Str → Option Value) (base : Heap) (C : Addr) (m : Str) (k : Nat) (ps : List Str) (sp : Sp) : Prop where
  ex : ∃ (f : Addr) (fd : FuncData), FnOk P w K mg base CX0 k f fd ps sp ∧ PySem.W.findIn K (.ref C) m = some (some (.ref f)) ∧ PySem.W.isFn K (.ref f) = true ∧ Binds K fd ps []
section
variable {X : Cx}
theorem run_spc {k : Nat} {f : Addr} {fd : FuncData} {ps : List Str} {sp : Sp} {A : Around} {pins : List (Addr × Obj)} {σ : L2.St} {H : Hp} {s : Shared} {a : Addr} {Q : VK} (F : FnOk X.prog X.w X.K X.mg X.base CX0 k f fd ps sp) (hb : Binds X.K fd ps []) (sb : Sub X k A) (I : L2.Inv X pins σ H s) (h : sp [.ref a] H Q C8.E0) :
    wpAny (model X.prog X.w) A (call (.ref f) [.ref a]) (EP X pins σ Q) X.xe s := by
  have e0 : Env0 X.prog X.w X.K X.mg X.base A X.stack s H := by
    have e := I.env0
    exact ⟨by rw [sb.fr]; exact e.frames, e.mod, e.bs, e.bsz, e.funs, e.frf, e.hok, e.bare⟩
  have hl := F.len _ _ _ _ h
  have r2 : Vals [V.ref a] [Value.ref a] := .cons rfl .nil
  refine wpAny_call (codeAny_mono (F.run A X.stack s H ⟨[.ref a], []⟩ [.ref a] [.ref a] _ _ sb.room e0 (by
    have := hb s [.ref a] I.kIn (by simpa using hl)
    simpa using this) r2 h) fun r s' hq => ?_)
  cases r with
  | error e => exact pass0 pins σ H s e s' I hq
  | ok fl =>
    cases fl with
    | ret w => exact I.after hq
    | next => exact False.elim hq
    | brk => exact False.elim hq
    | cont => exact False.elim hq
/-- len(o) -/
def rLenO (C : Addr) (sp : Sp) : List V → Hp → VK → Prop := fun xs H Q => ∃ a dx fs, xs = [.ref a] ∧ H a = some (.ins C dx fs) ∧ sp [.ref a] H (fun v H' => ∃ n : Nat, v = .int n ∧ n < 2 ^ 63 ∧ Q (.int n) H') C8.E0
theorem cl_lenO {C : Addr} {k : Nat} {ps : List Str} {sp : Sp} (O : Spc X.prog X.w X.K X.mg X.base C "__len__" k ps sp) (hr : Room (k + 1) X.A) : CallR X (.builtin "len") (rLenO C sp) := by
  intro pins s σ H xs us Q I rv h
  obtain ⟨a, dx, fs, rfl, ha, hsp⟩ := h
  obtain ⟨f, fd, F, hs, hf, hb⟩ := O.ex
  cases rv with
  | cons r0 rt =>
    cases rt
    cases r0
    obtain ⟨mA, J, _⟩ := ins_get I.hok ha
    obtain ⟨od, J, _⟩ := J.look
    obtain ⟨m, hF⟩ := I.fr
    refine PySem.W.len_K hF I.ok.mod.kin J hs hf (wpAny_mono (run_spc F hb (Sub.in1 ⟨hr, rfl⟩) I hsp) (fun u s' hq => ?_) fun _ _ e => e)
    obtain ⟨v, H', I', rz, n, rfl, hn, q⟩ := hq
    obtain ⟨t, rfl⟩ := rz
    exact ⟨⟨by omega, by omega⟩, .int n, H', I'.tok _, ⟨_, rfl⟩, q⟩
/-- repr(o), str(o) -/
def rTxtO (C : Addr) (sp : Sp) : List V → Hp → VK → Prop := fun xs H Q => ∃ a dx fs, xs = [.ref a] ∧ H a = some (.ins C dx fs) ∧ sp [.ref a] H (fun v H' => ∃ x : Str, v = .str x ∧ Q (.str x) H') C8.E0
theorem cl_reprO {C : Addr} {k : Nat} {ps : List Str} {sp : Sp} (O : Spc X.prog X.w X.K X.mg X.base C "__repr__" k ps sp) (hr : Room (k + 1) X.A) : CallR X (.builtin "repr") (rTxtO C sp) := by
  intro pins s σ H xs us Q I rv h
  obtain ⟨a, dx, fs, rfl, ha, hsp⟩ := h
  obtain ⟨f, fd, F, hs, hf, hb⟩ := O.ex
  cases rv with
  | cons r0 rt =>
    cases rt
    cases r0
    obtain ⟨mA, J, _⟩ := ins_get I.hok ha
    obtain ⟨od, J, _⟩ := J.look
    obtain ⟨m, hF⟩ := I.fr
    refine PySem.W.repr_K (Sub.in1 (X := X) ⟨hr, rfl⟩).room.units0 hF I.ok.mod.kin J hs hf (wpAny_mono (run_spc F hb (Sub.in1 ⟨hr, rfl⟩) I hsp) (fun u s' hq => ?_) fun _ _ e => e)
    obtain ⟨v, H', I', rz, x, rfl, q⟩ := hq
    obtain ⟨t, rfl⟩ := rz
    exact ⟨.str x, H', I', ⟨_, rfl⟩, q⟩
theorem cl_strO {C : Addr} {k : Nat} {ps : List Str} {sp : Sp} (O : Spc X.prog X.w X.K X.mg X.base C "__str__" k ps sp) (hr : Room (k + 2) X.A) : CallR X (.type "str") (rTxtO C sp) := by
  intro pins s σ H xs us Q I rv h
  obtain ⟨a, dx, fs, rfl, ha, hsp⟩ := h
  obtain ⟨f, fd, F, hs, hf, hb⟩ := O.ex
  cases rv with
  | cons r0 rt =>
    cases rt
    cases r0
    obtain ⟨mA, J, _⟩ := ins_get I.hok ha
    obtain ⟨od, J, _⟩ := J.look
    have sb : Sub X k X.A.in1.in1 := Sub.in1 (Sub.in1 ⟨hr, rfl⟩)
    refine PySem.W.kso_call sb.room.units0 I.kIn J hs hf (wpAny_mono (run_spc F hb sb I hsp) (fun u s' hq => ?_) fun _ _ e => e)
    obtain ⟨v, H', I', rz, x, rfl, q⟩ := hq
    obtain ⟨t, rfl⟩ := rz
    exact ⟨.str x, H', I', ⟨_, rfl⟩, q⟩
/-- either reading of a call -/
def rOrC (r r' : List V → Hp → VK → Prop) : List V → Hp → VK → Prop := fun xs H Q => r xs H Q ∨ r' xs H Q
theorem cl_or {f : Value} {r r' : List V → Hp → VK → Prop} (h : CallR X f r) (h' : CallR X f r') : CallR X f (rOrC r r') := fun pins s σ H xs us Q I rv q =>
  q.elim (h pins s σ H xs us Q I rv) (h' pins s σ H xs us Q I rv)
def tJoin (ts : List TE) : TE := fun σ H Q => tJs ts Str.empty σ H fun out H1 => Q (.str out) H1
theorem pe_fj {v1 v2 : Expr} {rest : List Expr} {ts : List TE} {pos : Pos} (h : PJ X (v1 :: v2 :: rest) ts) : PE X (.JoinedStr (v1 :: v2 :: rest) pos) (tJoin ts) := pe_joined h
end
theorem u1_of {k : Nat} {A : Around} (r : Room k A) : A.units + 1 < cLine := by have := r.un; omega
section
variable {σ : L2.St} {H : Hp} {Q : VK} {te : TE}
theorem w_lenO {C a dx : Addr} {fs : List (Str × V)} {sp : Sp} (h : H a = some (.ins C dx fs)) (k : sp [.ref a] H (fun v H' => ∃ n : Nat, v = .int n ∧ n < 2 ^ 63 ∧ Q (.int n) H') C8.E0) : rLenO C sp [.ref a] H Q := ⟨a, dx, fs, rfl, h, k⟩
theorem w_txtO {C a dx : Addr} {fs : List (Str × V)} {sp : Sp} (h : H a = some (.ins C dx fs)) (k : sp [.ref a] H (fun v H' => ∃ x : Str, v = .str x ∧ Q (.str x) H') C8.E0) : rTxtO C sp [.ref a] H Q := ⟨a, dx, fs, rfl, h, k⟩
theorem w_fmtE (h : te σ H fun x H1 => (∃ y : Str, x = .str y ∧ y.length ≤ sizeLine ∧ Q (.str y) H1) ∨ ∃ i : Int, x = .int i ∧ i.natAbs.log2 < 1920 ∧ Q (.str (toString i)) H1) : tFmt te σ H Q := h
theorem w_fmtS {y : Str} {R : V → Prop} (hl : y.length ≤ sizeLine) (q : R (.str y)) : (∃ z : Str, V.str y = .str z ∧ z.length ≤ sizeLine ∧ R (.str z)) ∨ ∃ i : Int, V.str y = .int i ∧ i.natAbs.log2 < 1920 ∧ R (.str (toString i)) := .inl ⟨y, rfl, hl, q⟩
theorem w_fmtI {i : Int} {R : V → Prop} (h : i.natAbs < 2 ^ 1919) (q : R (.str (toString i))) : (∃ z : Str, V.int i = .str z ∧ z.length ≤ sizeLine ∧ R (.str z)) ∨ ∃ j : Int, V.int i = .int j ∧ j.natAbs.log2 < 1920 ∧ R (.str (toString j)) :=
  .inr ⟨i, rfl, PySem.Flt.log2_lt_of (by decide) (Nat.lt_of_lt_of_le h (Nat.pow_le_pow_right (by decide) (by decide))), q⟩
theorem w_fmtRE (h : te σ H fun x H1 => (∃ y : Str, x = .str y ∧ (reprText y).length ≤ sizeLine ∧ Q (.str (reprText y)) H1) ∨ ∃ i : Int, x = .int i ∧ i.natAbs.log2 < 1920 ∧ Q (.str (toString i)) H1) : tFmtR te σ H Q := h
theorem w_isB {a b : Bool} (q : Q (.bl (decide (a = b))) H) : rIsB (.bl a) (.bl b) H Q := ⟨a, b, rfl, rfl, q⟩
theorem w_isnB {a b : Bool} (q : Q (.bl (!decide (a = b))) H) : rNotB (.bl a) (.bl b) H Q := ⟨a, b, rfl, rfl, q⟩
theorem w_dget2 {td ty tx : TE} (h : td σ H fun x H1 => ∃ a, x = .ref a ∧ IsD H1 a ∧ ty σ H1 fun y H2 => tx σ H2 fun z H3 => ∃ o, DGet H3 a y o ∧ Q (o.getD z) H3) : tDGet2 td ty tx σ H Q := h
theorem w_dgetK {a : Addr} {kvs : List (Key × V)} {k : Key} {y z : V} {R : V → Prop} (h : H a = some (.dK kvs)) (hy : y = kV k) (q : R ((valV kvs k).getD z)) : ∃ o, DGet H a y o ∧ R (o.getD z) := ⟨valV kvs k, .inl ⟨kvs, k, .inl h, hy, rfl⟩, q⟩
theorem w_joinE {ts : List TE} (h : tJs ts Str.empty σ H fun out H1 => Q (.str out) H1) : tJoin ts σ H Q := h
theorem w_js {t : TE} {ts : List TE} {acc : Str} {QS : Str → Hp → Prop} (h : t σ H fun x H1 => ∃ y : Str, x = .str y ∧ (acc ++ y).length ≤ sizeLine ∧ tJs ts (acc ++ y) σ H1 QS) : tJs (t :: ts) acc σ H QS := h
theorem w_jn {acc : Str} {QS : Str → Hp → Prop} (h : QS acc H) : tJs [] acc σ H QS := h
theorem w_jt {acc y : Str} {R : Str → Prop} (hl : acc.length + y.length ≤ sizeLine) (h : R y) : ∃ z : Str, V.str y = .str z ∧ (acc ++ z).length ≤ sizeLine ∧ R z := ⟨y, rfl, by rw [Str.length_append]; exact hl, h⟩
end
end Bw

/-! words and texts of words, plainly -/
namespace Bw
open PySem PySem.Spec PyProof.Rows L2 LamX
def abc : Str := "abcdefghijklmnopqrstuvwxyz"
def isW (x : Str) : Bool := decide (1 ≤ x.length ∧ x.length ≤ 12) && x.cps.toList.all fun c => decide (c ∈ abc.cps.toList)
def isWV : V → Bool
  | .str x => isW x
  | _ => false
def okWs (ws : List Str) : Bool := decide (ws.length ≤ 120) && ws.all isW
def okVs (xs : List V) : Bool := decide (xs.length ≤ 120) && xs.all isWV
theorem okVs_str (ws : List Str) : okVs (ws.map V.str) = okWs ws := by
  unfold okVs okWs
  rw [List.length_map, List.all_map]
  rfl
theorem strs_of : ∀ {xs : List V}, xs.all isWV = true → ∃ ws : List Str, xs = ws.map V.str
  | [], _ => ⟨[], rfl⟩
  | x :: r, h => by
    rw [List.all_cons, Bool.and_eq_true] at h
    obtain ⟨ws, rfl⟩ := strs_of h.2
    cases x with
    | str y => exact ⟨y :: ws, rfl⟩
    | _ => exact absurd h.1 (by unfold isWV; exact Bool.noConfusion)
theorem okVs_of {xs : List V} (h : okVs xs = true) : ∃ ws : List Str, xs = ws.map V.str ∧ okWs ws = true := by
  have h2 := h
  unfold okVs at h2
  rw [Bool.and_eq_true] at h2
  obtain ⟨ws, rfl⟩ := strs_of h2.2
  exact ⟨ws, rfl, (okVs_str ws) ▸ h⟩
def wsOf (x : Str) : List Str := if x = "" then [] else Txt.split x " "
theorem split_bounds (x : Str) (h : x.length ≤ 40000) : (wsOf x).length ≤ 50000 ∧ ∀ y ∈ wsOf x, y.length ≤ 100000 := by
  unfold wsOf
  split
  · simp
  · have h1 := PyProof.Rows.split_weight x " " (Nat.le_refl 1)
    refine ⟨by omega, fun y hy => ?_⟩
    have h2 := le_sum (List.mem_map.mpr ⟨y, hy, rfl⟩ : y.length ∈ (Txt.split x " ").map (·.length))
    omega
theorem txtv_strs {H : Hp} {ws : List Str} (h : ∀ y ∈ ws, y.length ≤ 100000) : ∀ x ∈ ws.map V.str, TxtV H x := fun x hx => by
  obtain ⟨y, hy, rfl⟩ := List.mem_map.mp hx
  exact .inl ⟨y, rfl, h y hy⟩
theorem isW_len {x : Str} (h : isW x = true) : x.length ≤ 12 := by
  unfold isW at h
  simp only [Bool.and_eq_true, decide_eq_true_eq] at h
  exact h.1.2
theorem ok_bounds {ws : List Str} (h : okWs ws = true) : ws.length ≤ 120 ∧ (∀ y ∈ ws, y.length ≤ 12) ∧ (ws.map (·.length)).sum ≤ 1440 := by
  unfold okWs at h
  simp only [Bool.and_eq_true, decide_eq_true_eq, List.all_eq_true] at h
  have h2 : ∀ y ∈ ws, y.length ≤ 12 := fun y hy => isW_len (h.2 y hy)
  refine ⟨h.1, h2, ?_⟩
  have h3 := sum_le (l := ws.map (·.length)) (c := 12) (fun x hx => by
    obtain ⟨y, hy, rfl⟩ := List.mem_map.mp hx
    exact h2 y hy)
  rw [List.length_map] at h3
  omega
theorem isW_strOk {x : Str} (h : isW x = true) : PyData.strOk x = true := by
  unfold isW at h
  simp only [Bool.and_eq_true, decide_eq_true_eq, List.all_eq_true] at h
  unfold PyData.strOk
  rw [Array.all_eq_true']
  intro c hc
  have h1 := h.2 c (Array.mem_toList_iff.mpr hc)
  have h2 : ∀ c ∈ abc.cps.toList, c < 0x110000 := by decide +kernel
  exact decide_eq_true (h2 c h1)
theorem okWs_all {ws : List Str} (h : okWs ws = true) : ∀ b ∈ ws, isW b = true := by
  unfold okWs at h
  simp only [Bool.and_eq_true, decide_eq_true_eq, List.all_eq_true] at h
  exact h.2
theorem ok_strs {ws : List Str} (h : okWs ws = true) : ∀ b ∈ ws, PyData.strOk b = true := fun b hb => isW_strOk (okWs_all h b hb)
theorem join_ws (x : Str) : Txt.join " " (wsOf x) = x := by
  unfold wsOf
  split
  · rename_i h
    rw [h]
    rfl
  · rw [txt_join]
    exact StrLaws.join_split x " "
theorem join_ne {ws : List Str} (h : ∀ b ∈ ws, isW b = true) (hn : ws ≠ []) : Txt.join " " ws ≠ "" := by
  intro e
  rw [txt_join] at e
  cases ws with
  | nil => exact hn rfl
  | cons b r =>
    have h1 := PyProof.Rows.len_join_cons " " b r
    rw [e] at h1
    have h2 := h b List.mem_cons_self
    unfold isW at h2
    simp only [Bool.and_eq_true, decide_eq_true_eq] at h2
    have h3 : ("" : Str).length = 0 := rfl
    rw [h3] at h1
    simp only [List.map_cons, List.sum_cons] at h1
    omega
theorem ws_join {ws : List Str} (h : ∀ b ∈ ws, isW b = true) : wsOf (Txt.join " " ws) = ws := by
  unfold wsOf
  cases hw : ws with
  | nil => rfl
  | cons b r =>
    rw [← hw, if_neg (join_ne h (by rw [hw]; simp))]
    refine TL.split_join (s := 32) (S := []) rfl (by decide +kernel) (by rw [hw]; simp) (fun p hp z => ?_)
    have h2 := h p hp
    unfold isW at h2
    simp only [Bool.and_eq_true, decide_eq_true_eq, List.all_eq_true] at h2
    have h3 := h2.2 32 z
    revert h3
    decide +kernel
theorem isW_signs {x : Str} (h : isW x = true) : ∀ c ∈ x.cps.toList, 97 ≤ c ∧ c ≤ 122 := by
  unfold isW at h
  simp only [Bool.and_eq_true, decide_eq_true_eq, List.all_eq_true] at h
  have key : ∀ c ∈ abc.cps.toList, 97 ≤ c ∧ c ≤ 122 := by decide +kernel
  exact fun c hc => key c (h.2 c hc)
/-- the places of a word -/
def plc (ws : List Str) (w : Str) : List Nat := (List.range ws.length).filter fun i => decide (ws[i]? = some w)
theorem plc_snoc (ws : List Str) (u w : Str) : plc (ws ++ [u]) w = plc ws w ++ (if u = w then [ws.length] else []) := by
  unfold plc
  rw [List.length_append, List.length_singleton, List.range_succ, List.filter_append]
  congr 1
  · refine List.filter_congr fun i hi => ?_
    rw [List.mem_range] at hi
    rw [List.getElem?_append_left hi]
  · rw [List.filter_cons, List.filter_nil, List.getElem?_append_right (Nat.le_refl _), Nat.sub_self]
    by_cases h : u = w
    · simp [h]
    · simp [h]
theorem plc_nil (w : Str) : plc [] w = [] := rfl
theorem plc_len (ws : List Str) (w : Str) : (plc ws w).length ≤ ws.length := by
  have := List.length_filter_le (fun i => decide (ws[i]? = some w)) (List.range ws.length)
  rwa [List.length_range] at this
theorem plc_none {ws : List Str} {w : Str} (h : w ∉ ws) : plc ws w = [] := by
  unfold plc
  rw [List.filter_eq_nil_iff]
  intro i _ hi
  exact h (List.mem_of_getElem? (of_decide_eq_true hi))
/-- repr of a text of letters and blanks -/
theorem repr_plain {x : Str} (h : ∀ c ∈ x.cps.toList, c = 32 ∨ (97 ≤ c ∧ c ≤ 122)) : reprText x = S (39 :: (x.cps.toList ++ [39])) := by
  have hq : PySem.reprQuote x = 39 := by
    have h39 : ¬ 39 ∈ x.cps.toList := fun z => by
      have := h 39 z
      omega
    have : x.cps.contains 39 = false := by
      rw [Bool.eq_false_iff]
      intro z
      exact h39 (by simpa using z)
    unfold PySem.reprQuote
    rw [this]
    rfl
  have hc : ∀ c ∈ x.cps.toList, Builtin.Str.reprChar 39 c = [c] := by
    have key : ∀ c, c < 128 → (c = 32 ∨ (97 ≤ c ∧ c ≤ 122)) → Builtin.Str.reprChar 39 c = [c] := by decide +kernel
    intro c hc
    have := h c hc
    exact key c (by omega) this
  refine str_ext ?_
  unfold reprText
  rw [hq]
  show ((x.cps.foldl (fun out c => out ++ (Builtin.Str.reprChar 39 c).toArray) #[39]).push 39).toList = _
  rw [Array.toList_push, ← Array.foldl_toList]
  have key : ∀ (l : List Nat) (acc : Array Nat), (∀ c ∈ l, Builtin.Str.reprChar 39 c = [c]) → (l.foldl (fun out c => out ++ (Builtin.Str.reprChar 39 c).toArray) acc).toList = acc.toList ++ l := by
    intro l
    induction l with
    | nil => intro acc _; simp
    | cons c r ih =>
      intro acc hl
      rw [List.foldl_cons, ih _ (fun d hd => hl d (List.mem_cons_of_mem _ hd)), hl c List.mem_cons_self]
      simp
  rw [key _ _ hc]
  rfl
theorem join_signs {ws : List Str} (h : ∀ b ∈ ws, isW b = true) : ∀ c ∈ (Txt.join " " ws).cps.toList, c = 32 ∨ (97 ≤ c ∧ c ≤ 122) := by
  rw [txt_join]
  induction ws with
  | nil => intro c hc; exact absurd hc (by show ¬ c ∈ ([] : List Nat); simp)
  | cons b r ih =>
    cases r with
    | nil =>
      intro c hc
      exact .inr (isW_signs (h b List.mem_cons_self) c hc)
    | cons d r =>
      intro c hc
      have e : Str.join (" " : Str) (b :: d :: r) = b ++ (" " : Str) ++ Str.join (" " : Str) (d :: r) := rfl
      rw [e, cps_append, cps_append] at hc
      rcases List.mem_append.mp hc with hc | hc
      · rcases List.mem_append.mp hc with hc | hc
        · exact .inr (isW_signs (h b List.mem_cons_self) c hc)
        · left
          have : c ∈ ([32] : List Nat) := hc
          simpa using this
      · exact ih (fun x hx => h x (List.mem_cons_of_mem _ hx)) c hc
theorem join_len {ws : List Str} (h : ∀ b ∈ ws, isW b = true) : (Txt.join " " ws).length ≤ ws.length * 13 := by
  have hsum := sum_le (l := ws.map (·.length)) (c := 12) (fun x hx => by
    obtain ⟨y, hy, rfl⟩ := List.mem_map.mp hx
    exact isW_len (h y hy))
  rw [List.length_map] at hsum
  rw [txt_join]
  cases hys : ws with
  | nil => decide +kernel
  | cons y rr =>
    have h1s : (" " : Str).length = 1 := rfl
    rw [PyProof.Rows.len_join_cons, h1s, ← hys]
    have : ws.length = rr.length + 1 := by rw [hys]; rfl
    omega
end Bw

namespace Bw
open PySem PySem.Spec PyProof.Rows L2 LamX
/-! ### comprehensions with two fors -/
def NxJ (D : Addr) (i : Nat) (Iv : Nat → List V → Hp → Prop) : Hp → Prop := fun H' => ∃ acc', H' D = some (.lst acc') ∧ Iv (i + 1) acc' H'
theorem w_accJ {D : Addr} {i : Nat} {Iv : Nat → List V → Hp → Prop} {acc : List V} {y : V} {H4 : Hp} (hD : H4 D = some (.lst acc)) (hn : acc.length ≤ 100000) (k : ∀ H5, KB D H4 H5 → H5 D = some (.lst (acc ++ [y])) → Iv (i + 1) (acc ++ [y]) H5) :
    ∃ acc, H4 D = some (.lst acc) ∧ acc.length < sizeLine ∧ NxJ D i Iv (upd H4 D (.lst (acc ++ [y]))) := ⟨acc, hD, Nat.lt_of_le_of_lt hn (by decide), acc ++ [y], upd_same, k _ kb_upd upd_same⟩
theorem in_fin {J : It} {n : Nat} {ok : Hp → Prop} {it : Nat → V → Hp → Hp → Prop} {g : TG} {tt : TT} {te : TE} {vs : List Nat} {σ : L2.St} {H1 : Hp} {D : Addr} {Nx : Hp → Prop} (F : Fini J n ok it) (Jv : Nat → List V → Hp → Prop)
    (h0 : ∃ acc, H1 D = some (.lst acc) ∧ Jv 0 acc H1) (hl : ∀ i acc H, i ≤ n → Jv i acc H → ok H)
    (hs : ∀ i x acc H H', i < n → Jv i acc H → H D = some (.lst acc) → it i x H H' → g x (wipe σ vs) H' fun σ2 H2 => wipe σ2 vs = wipe σ vs ∧ tt σ2 H2 fun b H3 =>
      if b = true then te σ2 H3 fun y H4 => ∃ acc, H4 D = some (.lst acc) ∧ acc.length < sizeLine ∧ NxJ D i Jv (upd H4 D (.lst (acc ++ [y]))) else NxJ D i Jv H3)
    (hd : ∀ acc H, Jv n acc H → H D = some (.lst acc) → Nx H) :
    ∃ W1 : Nat → Nat → Hp → Prop, (∃ m, W1 0 m H1) ∧ ∀ j k H, W1 j k H →
      (J.stop j H ∧ Nx H) ∨ (J.go j H ∧ ∃ Nx1 : Hp → Prop, (∀ H', Nx1 H' → ∃ k', k' < k ∧ W1 (j + 1) k' H') ∧ ∀ x H', J.yld j H x H' → g x (wipe σ vs) H' fun σ3 H5 => wipe σ3 vs = wipe σ vs ∧ tt σ3 H5 fun b H6 =>
        if b = true then te σ3 H6 fun y H7 => ∃ acc, H7 D = some (.lst acc) ∧ acc.length < sizeLine ∧ Nx1 (upd H7 D (.lst (acc ++ [y]))) else Nx1 H6) := by
  obtain ⟨acc0, e0, i0⟩ := h0
  refine ⟨fun i m H => m = n - i ∧ i ≤ n ∧ ∃ acc, H D = some (.lst acc) ∧ Jv i acc H, ⟨n, by simp, Nat.zero_le _, acc0, e0, i0⟩, ?_⟩
  rintro i m H ⟨rfl, hi, acc, hD, p⟩
  have o := hl i acc H hi p
  rcases Nat.lt_or_ge i n with hlt | hge
  · exact .inr ⟨F.go i H hlt o, NxJ D i Jv, fun H' p' => ⟨n - (i + 1), by omega, rfl, hlt, p'⟩, fun x H' y => hs i x acc H H' hlt p hD (F.yl i H x H' hlt o y)⟩
  · obtain rfl : i = n := Nat.le_antisymm hi hge
    exact .inl ⟨F.st H o, hd acc H p hD⟩
theorem lc2_fin {J : It} {n : Nat} {ok : Hp → Prop} {it : Nat → V → Hp → Hp → Prop} {wi1 : TI} {g g1 : TG} {tt tt1 : TT} {te : TE} {vs vs1 : List Nat} {σ : L2.St} {H1 : Hp} {Qd : Addr → Hp → Prop} (F : Fini J n ok it) (Iv : Nat → List V → Hp → Prop)
    (h0 : ∀ D H2, H1 D = none → Same H1 H2 → H2 D = some (.lst []) → Iv 0 [] H2) (hl : ∀ i acc H, i ≤ n → Iv i acc H → ok H)
    (hs : ∀ D i x acc H H', H1 D = none → i < n → Iv i acc H → H D = some (.lst acc) → it i x H H' → g x (wipe σ vs) H' fun σ2 H2 => wipe σ2 vs = wipe σ vs ∧ tt σ2 H2 fun b H3 =>
      if b = true then wi1 σ2 H3 fun J1 H4 => ∃ W1 : Nat → Nat → Hp → Prop, (∃ m, W1 0 m H4) ∧ ∀ j k H, W1 j k H →
        (J1.stop j H ∧ NxJ D i Iv H) ∨ (J1.go j H ∧ ∃ Nx1 : Hp → Prop, (∀ H', Nx1 H' → ∃ k', k' < k ∧ W1 (j + 1) k' H') ∧ ∀ x H', J1.yld j H x H' → g1 x (wipe σ2 vs1) H' fun σ3 H5 => wipe σ3 vs1 = wipe σ2 vs1 ∧ tt1 σ3 H5 fun b H6 =>
          if b = true then te σ3 H6 fun y H7 => ∃ acc, H7 D = some (.lst acc) ∧ acc.length < sizeLine ∧ Nx1 (upd H7 D (.lst (acc ++ [y]))) else Nx1 H6)
      else NxJ D i Iv H3)
    (hd : ∀ D acc H, H1 D = none → Iv n acc H → H D = some (.lst acc) → Qd D H) :
    ∀ D, H1 D = none → ∃ W : Nat → Nat → Hp → Prop, (∃ m, W 0 m (upd H1 D (.lst []))) ∧ ∀ i m H, W i m H →
      (J.stop i H ∧ Qd D H) ∨ (J.go i H ∧ ∃ Nx : Hp → Prop, (∀ H', Nx H' → ∃ m', m' < m ∧ W (i + 1) m' H') ∧ ∀ x H', J.yld i H x H' → g x (wipe σ vs) H' fun σ2 H2 => wipe σ2 vs = wipe σ vs ∧ tt σ2 H2 fun b H3 =>
        if b = true then wi1 σ2 H3 fun J1 H4 => ∃ W1 : Nat → Nat → Hp → Prop, (∃ m, W1 0 m H4) ∧ ∀ j k H, W1 j k H →
          (J1.stop j H ∧ Nx H) ∨ (J1.go j H ∧ ∃ Nx1 : Hp → Prop, (∀ H', Nx1 H' → ∃ k', k' < k ∧ W1 (j + 1) k' H') ∧ ∀ x H', J1.yld j H x H' → g1 x (wipe σ2 vs1) H' fun σ3 H5 => wipe σ3 vs1 = wipe σ2 vs1 ∧ tt1 σ3 H5 fun b H6 =>
            if b = true then te σ3 H6 fun y H7 => ∃ acc, H7 D = some (.lst acc) ∧ acc.length < sizeLine ∧ Nx1 (upd H7 D (.lst (acc ++ [y]))) else Nx1 H6)
        else Nx H3) := by
  intro D nD
  refine ⟨fun i m H => m = n - i ∧ i ≤ n ∧ ∃ acc, H D = some (.lst acc) ∧ Iv i acc H, ⟨n, by simp, Nat.zero_le _, [], upd_same, h0 D _ nD (same_new nD) upd_same⟩, ?_⟩
  rintro i m H ⟨rfl, hi, acc, hD, p⟩
  have o := hl i acc H hi p
  rcases Nat.lt_or_ge i n with hlt | hge
  · exact .inr ⟨F.go i H hlt o, NxJ D i Iv, fun H' p' => ⟨n - (i + 1), by omega, rfl, hlt, p'⟩, fun x H' y => hs D i x acc H H' nD hlt p hD (F.yl i H x H' hlt o y)⟩
  · obtain rfl : i = n := Nat.le_antisymm hi hge
    exact .inl ⟨F.st H o, hd D acc H nD p hD⟩
theorem w_lc2E {wi wi1 : TI} {g g1 : TG} {tt tt1 : TT} {te : TE} {vs vs1 : List Nat} {σ : L2.St} {H : Hp} {Q : VK} (h : wi σ H fun J H1 => ∀ D, H1 D = none → ∃ W : Nat → Nat → Hp → Prop, (∃ m, W 0 m (upd H1 D (.lst []))) ∧ ∀ i m H, W i m H →
  (J.stop i H ∧ Q (.ref D) H) ∨ (J.go i H ∧ ∃ Nx : Hp → Prop, (∀ H', Nx H' → ∃ m', m' < m ∧ W (i + 1) m' H') ∧ ∀ x H', J.yld i H x H' → g x (wipe σ vs) H' fun σ2 H2 => wipe σ2 vs = wipe σ vs ∧ tt σ2 H2 fun b H3 =>
    if b = true then wi1 σ2 H3 fun J1 H4 => ∃ W1 : Nat → Nat → Hp → Prop, (∃ m, W1 0 m H4) ∧ ∀ j k H, W1 j k H →
      (J1.stop j H ∧ Nx H) ∨ (J1.go j H ∧ ∃ Nx1 : Hp → Prop, (∀ H', Nx1 H' → ∃ k', k' < k ∧ W1 (j + 1) k' H') ∧ ∀ x H', J1.yld j H x H' → g1 x (wipe σ2 vs1) H' fun σ3 H5 => wipe σ3 vs1 = wipe σ2 vs1 ∧ tt1 σ3 H5 fun b H6 =>
        if b = true then te σ3 H6 fun y H7 => ∃ acc, H7 D = some (.lst acc) ∧ acc.length < sizeLine ∧ Nx1 (upd H7 D (.lst (acc ++ [y]))) else Nx1 H6)
    else Nx H3)) : tLc2 wi g tt wi1 g1 tt1 te vs vs1 σ H Q := h
/-! ### data as it stands on the heap -/
mutual
inductive Rp (H : Hp) : V → PyData → Prop
  | non : Rp H .non .none
  | bl (b : Bool) : Rp H (.bl b) (.bool b)
  | int (i : Int) : Rp H (.int i) (.int i)
  | str (x : Str) : Rp H (.str x) (.str x)
  | lst {a : Addr} {xs : List V} {ds : List PyData} : H a = some (.lst xs) → RpAll H xs ds → Rp H (.ref a) (.list ds)
  | tup {a : Addr} {xs : List V} {ds : List PyData} : H a = some (.tup xs) → RpAll H xs ds → Rp H (.ref a) (.tuple ds)
inductive RpAll (H : Hp) : List V → List PyData → Prop
  | nil : RpAll H [] []
  | cons {v : V} {d : PyData} {vs : List V} {ds : List PyData} : Rp H v d → RpAll H vs ds → RpAll H (v :: vs) (d :: ds)
end
section
variable {K : PySem.W.Frag} {H H' : Hp}
mutual
theorem Rp.dp : ∀ {v : V} {d : PyData}, Rp H v d → Dp K H v d
  | _, _, .non => .non
  | _, _, .bl b => .bl b
  | _, _, .int i => .int i
  | _, _, .str x => .str x
  | _, _, .lst h r => .lst (.of h) (RpAll.dp r)
  | _, _, .tup h r => .tup (.of h) (RpAll.dp r)
theorem RpAll.dp : ∀ {vs : List V} {ds : List PyData}, RpAll H vs ds → DpAll K H vs ds
  | _, _, .nil => .nil
  | _, _, .cons h r => .cons (Rp.dp h) (RpAll.dp r)
end
mutual
theorem Rp.same (s : Same H H') : ∀ {v : V} {d : PyData}, Rp H v d → Rp H' v d
  | _, _, .non => .non
  | _, _, .bl b => .bl b
  | _, _, .int i => .int i
  | _, _, .str x => .str x
  | _, _, .lst h r => .lst (s _ _ h) (RpAll.same s r)
  | _, _, .tup h r => .tup (s _ _ h) (RpAll.same s r)
theorem RpAll.same (s : Same H H') : ∀ {vs : List V} {ds : List PyData}, RpAll H vs ds → RpAll H' vs ds
  | _, _, .nil => .nil
  | _, _, .cons h r => .cons (Rp.same s h) (RpAll.same s r)
end
/-- tuples stay -/
def TupK (H H' : Hp) : Prop := ∀ a xs, H a = some (.tup xs) → H' a = some (.tup xs)
theorem TupK.of (s : Same H H') : TupK H H' := fun _ _ h => s _ _ h
theorem TupK.kb {p : Addr} {xs : List V} (k : KB p H H') (hp : H p = some (.lst xs)) : TupK H H' := fun a ys h => k _ _ h (fun z => by rw [z, hp] at h; cases h)
theorem TupK.trans {H2 : Hp} (a : TupK H H') (b : TupK H' H2) : TupK H H2 := fun _ _ h => b _ _ (a _ _ h)
mutual
def noL : PyData → Bool
  | .list _ => false
  | .tuple ds => noLs ds
  | _ => true
def noLs : List PyData → Bool
  | [] => true
  | d :: r => noL d && noLs r
end
mutual
theorem Rp.tupk (t : TupK H H') : ∀ {v : V} {d : PyData}, Rp H v d → noL d = true → Rp H' v d
  | _, _, .non, _ => .non
  | _, _, .bl b, _ => .bl b
  | _, _, .int i, _ => .int i
  | _, _, .str x, _ => .str x
  | _, _, .lst h r, n => by simp [noL] at n
  | _, _, .tup h r, n => .tup (t _ _ h) (RpAll.tupk t r (by simpa [noL] using n))
theorem RpAll.tupk (t : TupK H H') : ∀ {vs : List V} {ds : List PyData}, RpAll H vs ds → noLs ds = true → RpAll H' vs ds
  | _, _, .nil, _ => .nil
  | _, _, .cons h r, n => by
    rw [noLs, Bool.and_eq_true] at n
    exact .cons (Rp.tupk t h n.1) (RpAll.tupk t r n.2)
end
theorem RpAll.length : ∀ {vs : List V} {ds : List PyData}, RpAll H vs ds → vs.length = ds.length
  | _, _, .nil => rfl
  | _, _, .cons _ r => congrArg Nat.succ (RpAll.length r)
theorem RpAll.at : ∀ {vs : List V} {ds : List PyData}, RpAll H vs ds → ∀ {i : Nat} {v : V}, vs[i]? = some v → ∃ d, ds[i]? = some d ∧ Rp H v d
  | _, _, .nil, i, v, h => by simp at h
  | _, _, .cons h r, 0, v, e => by
    cases e
    exact ⟨_, rfl, h⟩
  | _, _, .cons h r, i + 1, v, e => by
    obtain ⟨d, h1, h2⟩ := RpAll.at r (i := i) (v := v) (by simpa using e)
    exact ⟨d, by simpa using h1, h2⟩
theorem RpAll.append : ∀ {xs ys : List V} {ds es : List PyData}, RpAll H xs ds → RpAll H ys es → RpAll H (xs ++ ys) (ds ++ es)
  | _, _, _, _, .nil, h => h
  | _, _, _, _, .cons h r, h2 => .cons h (RpAll.append r h2)
theorem RpAll.drop : ∀ {vs : List V} {ds : List PyData} (n : Nat), RpAll H vs ds → RpAll H (vs.drop n) (ds.drop n)
  | _, _, 0, h => h
  | _, _, n + 1, .nil => .nil
  | _, _, n + 1, .cons _ r => RpAll.drop n r
theorem RpAll.take : ∀ {vs : List V} {ds : List PyData} (n : Nat), RpAll H vs ds → RpAll H (vs.take n) (ds.take n)
  | _, _, 0, h => .nil
  | _, _, n + 1, .nil => .nil
  | _, _, n + 1, .cons h r => .cons h (RpAll.take n r)
theorem rpAll_str : ∀ ws : List Str, RpAll H (ws.map V.str) (ws.map PyData.str)
  | [] => .nil
  | w :: r => .cons (.str w) (rpAll_str r)
/-! ### things of bounded size -/
def Fit : Nat → PyData → Prop
  | 0, d => (d = .none ∨ (∃ b, d = .bool b) ∨ (∃ i, d = .int i)) ∨ ∃ x, d = .str x ∧ x.length ≤ 1000 ∧ PyData.strOk x = true
  | n + 1, d => ((d = .none ∨ (∃ b, d = .bool b) ∨ (∃ i, d = .int i)) ∨ ∃ x, d = .str x ∧ x.length ≤ 1000 ∧ PyData.strOk x = true) ∨ ∃ ds : List PyData, (d = .tuple ds ∨ d = .list ds) ∧ ds.length ≤ 1000 ∧ ∀ e ∈ ds, Fit n e
theorem Fit.succ : ∀ {n : Nat} {d : PyData}, Fit n d → Fit (n + 1) d
  | 0, d, h => .inl h
  | n + 1, d, h => by
    rcases h with h | ⟨ds, h1, h2, h3⟩
    · exact .inl h
    · exact .inr ⟨ds, h1, h2, fun e he => (h3 e he).succ⟩
theorem Fit.mono {n m : Nat} {d : PyData} (h : Fit n d) (l : n ≤ m) : Fit m d := by
  induction l with
  | refl => exact h
  | step _ ih => exact ih.succ
theorem Fit.good : ∀ {n : Nat} {d : PyData}, Fit n d → GoodD d n
  | 0, d, h => by
    rcases h with (rfl | ⟨b, rfl⟩ | ⟨i, rfl⟩) | ⟨x, rfl, _, h⟩
    · exact good_none
    · exact good_bool
    · exact good_int
    · exact good_str h
  | n + 1, d, h => by
    rcases h with ((rfl | ⟨b, rfl⟩ | ⟨i, rfl⟩) | ⟨x, rfl, _, h⟩) | ⟨ds, rfl | rfl, _, h⟩
    · exact good_none
    · exact good_bool
    · exact good_int
    · exact good_str h
    · exact good_tuple fun e he => (h e he).good
    · exact good_list fun e he => (h e he).good
theorem fit_str {x : Str} {n : Nat} (h1 : x.length ≤ 1000) (h2 : PyData.strOk x = true) : Fit n (.str x) := Fit.mono (n := 0) (.inr ⟨x, rfl, h1, h2⟩) (Nat.zero_le _)
theorem fit_int {i : Int} {n : Nat} : Fit n (.int i) := Fit.mono (n := 0) (.inl (.inr (.inr ⟨i, rfl⟩))) (Nat.zero_le _)
theorem fit_word {x : Str} {n : Nat} (h : isW x = true) : Fit n (.str x) := fit_str (Nat.le_trans (isW_len h) (by decide)) (isW_strOk h)
theorem fit_tup {ds : List PyData} {n : Nat} (h1 : ds.length ≤ 1000) (h : ∀ e ∈ ds, Fit n e) : Fit (n + 1) (.tuple ds) := .inr ⟨ds, .inl rfl, h1, h⟩
theorem Fit.tup {ds : List PyData} {n : Nat} (h : Fit (n + 1) (.tuple ds)) : ds.length ≤ 1000 ∧ ∀ e ∈ ds, Fit n e := by
  rcases h with ((h | ⟨b, h⟩ | ⟨i, h⟩) | ⟨x, h, _⟩) | ⟨es, h | h, h1, h2⟩
  · cases h
  · cases h
  · cases h
  · cases h
  · cases h
    exact ⟨h1, h2⟩
  · cases h
/-- such a thing, as a text or none -/
theorem Rp.txt {v : V} {d : PyData} {n : Nat} (h : Rp H v d) (f : Fit n d) : TxtV H v := by
  cases h with
  | non => exact .inr .non
  | bl b => exact .inr (.bl b)
  | int i => exact .inr (.int i)
  | str x =>
    have : x.length ≤ 1000 := by
      cases n with
      | zero => rcases f with (h | ⟨b, h⟩ | ⟨i, h⟩) | ⟨y, h, hl, _⟩ <;> cases h; exact hl
      | succ n => rcases f with ((h | ⟨b, h⟩ | ⟨i, h⟩) | ⟨y, h, hl, _⟩) | ⟨es, h | h, _⟩ <;> cases h; exact hl
    exact .inl ⟨x, rfl, by omega⟩
  | lst h r => exact .inr (.lst h)
  | tup h r => exact .inr (.tup h)
theorem Rp.thg {v : V} {d : PyData} (h : Rp H v d) : Thg H v := by
  cases h with
  | non => exact .non
  | bl b => exact .bl b
  | int i => exact .int i
  | str x => exact .str x
  | lst h r => exact .lst h
  | tup h r => exact .tup h
end
/-- what a def keeps at its room, it keeps at more -/
theorem fnok_mono {P : Program} {w : World} {K : PySem.W.Frag} {mg : Str → Option Value} {base : Heap} {CX : CXT} {k k' : Nat} {f : Addr} {fd : FuncData} {ps : List Str} {sp : Sp} (F : FnOk P w K mg base CX k f fd ps sp) (h : k ≤ k') : FnOk P w K mg base CX k' f fd ps sp :=
  ⟨F.len, fun A outer s H args us vs Q E hr => F.run A outer s H args us vs Q E (hr.mono h)⟩
end Bw

/-! queries, plainly: on data -/
namespace Bw
open PySem PySem.Spec PyProof.Rows L2 LamX
def isWD : PyData → Bool
  | .str x => isW x
  | _ => false
theorem isWD_of {H : Hp} {v : V} {d : PyData} (h : Rp H v d) : isWV v = isWD d := by
  cases h <;> rfl
def joinC (cs : List (Option Nat)) : Option Nat := if 2 ≤ cs.length ∧ cs.length ≤ 4 ∧ cs.all (·.isSome) = true then some (cs.filterMap id).sum else none
def nearC : List PyData → Option Nat
  | [.int f, a, b] => if 1 ≤ f ∧ f ≤ 20 ∧ isWD a = true ∧ isWD b = true then some 2 else none
  | _ => none
def wordC (ps : List PyData) : Option Nat := if ps.length = 1 ∧ ps.all isWD = true then some 1 else none
def phraseC (ps : List PyData) : Option Nat := if 2 ≤ ps.length ∧ ps.length ≤ 5 ∧ ps.all isWD = true then some ps.length else none
def butC (cs : List (Option Nat)) : Option Nat := if cs.length = 2 then joinC cs else none
/-- how many words a query of at most so many within one another has -/
def cnt : Nat → PyData → Option Nat
  | 0, _ => none
  | n + 1, .tuple (.str k :: ps) =>
    if k = "word" then wordC ps else if k = "phrase" then phraseC ps else if k = "near" then nearC ps
    else if k = "and" then joinC (ps.map (cnt n)) else if k = "or" then joinC (ps.map (cnt n)) else if k = "but" then butC (ps.map (cnt n)) else none
  | _ + 1, _ => none
def cntV : Option Nat → V
  | some m => .int m
  | none => .non
theorem sum_bound {f : Option Nat → Nat} : True := trivial
def strD : PyData → Option Str
  | .str x => some x
  | _ => none
/-- the words that count -/
def wIn : Nat → PyData → List Str
  | 0, _ => []
  | n + 1, .tuple (.str k :: ps) =>
    if k = "word" ∨ k = "phrase" then ps.filterMap strD else if k = "near" then (ps.drop 1).filterMap strD
    else if k = "but" then ((ps.take 1).map (wIn n)).flatten else (ps.map (wIn n)).flatten
  | _ + 1, _ => []
theorem words_all : ∀ {ps : List PyData}, ps.all isWD = true → ∃ ws : List Str, ps = ws.map PyData.str ∧ ∀ w ∈ ws, isW w = true
  | [], _ => ⟨[], rfl, fun w hw => absurd hw (by simp)⟩
  | p :: r, h => by
    rw [List.all_cons, Bool.and_eq_true] at h
    obtain ⟨ws, rfl, hw⟩ := words_all h.2
    cases p with
    | str x => exact ⟨x :: ws, rfl, fun w hm => by
        rcases List.mem_cons.mp hm with rfl | hm
        · exact h.1
        · exact hw w hm⟩
    | _ => exact absurd h.1 (by unfold isWD; exact Bool.noConfusion)
theorem filt_str (ws : List Str) : (ws.map PyData.str).filterMap strD = ws := by
  induction ws with
  | nil => rfl
  | cons w r ih => simp [strD, ih]
/-- a query, as it is built -/
inductive QOf (n : Nat) : PyData → Nat → Prop
  | word {w : Str} : isW w = true → QOf n (.tuple [.str "word", .str w]) 1
  | phrase {ws : List Str} : 2 ≤ ws.length → ws.length ≤ 5 → (∀ w ∈ ws, isW w = true) → QOf n (.tuple (.str "phrase" :: ws.map PyData.str)) ws.length
  | near {f : Int} {a b : Str} : 1 ≤ f → f ≤ 20 → isW a = true → isW b = true → QOf n (.tuple [.str "near", .int f, .str a, .str b]) 2
  | join {k : Str} {ps : List PyData} {m : Nat} : (k = "and" ∨ k = "or" ∨ k = "but") → (k = "but" → ps.length = 2) → joinC (ps.map (cnt n)) = some m → QOf n (.tuple (.str k :: ps)) m
theorem wordC_some {ps : List PyData} {m : Nat} (h : wordC ps = some m) : ∃ w : Str, ps = [.str w] ∧ isW w = true ∧ m = 1 := by
  unfold wordC at h
  split at h
  · rename_i hc
    obtain ⟨ws, rfl, hw⟩ := words_all hc.2
    have hl : ws.length = 1 := by simpa using hc.1
    match ws, hl with
    | [w], _ => exact ⟨w, rfl, hw w (by simp), (Option.some.inj h).symm⟩
  · cases h
theorem phraseC_some {ps : List PyData} {m : Nat} (h : phraseC ps = some m) : ∃ ws : List Str, ps = ws.map PyData.str ∧ 2 ≤ ws.length ∧ ws.length ≤ 5 ∧ (∀ w ∈ ws, isW w = true) ∧ m = ws.length := by
  unfold phraseC at h
  split at h
  · rename_i hc
    obtain ⟨ws, rfl, hw⟩ := words_all hc.2.2
    rw [List.length_map] at hc h
    exact ⟨ws, rfl, hc.1, hc.2.1, hw, (Option.some.inj h).symm⟩
  · cases h
theorem isWD_str {d : PyData} (h : isWD d = true) : ∃ x, d = .str x ∧ isW x = true := by
  cases d with
  | str x => exact ⟨x, rfl, h⟩
  | _ => exact absurd h (by unfold isWD; exact Bool.noConfusion)
theorem nearC_some {ps : List PyData} {m : Nat} (h : nearC ps = some m) : ∃ (f : Int) (a b : Str), ps = [.int f, .str a, .str b] ∧ 1 ≤ f ∧ f ≤ 20 ∧ isW a = true ∧ isW b = true ∧ m = 2 := by
  unfold nearC at h
  split at h
  · rename_i f a b
    split at h
    · rename_i hc
      obtain ⟨x, rfl, hx⟩ := isWD_str hc.2.2.1
      obtain ⟨y, rfl, hy⟩ := isWD_str hc.2.2.2
      exact ⟨f, x, y, rfl, hc.1, hc.2.1, hx, hy, (Option.some.inj h).symm⟩
    · cases h
  · cases h
theorem cnt_inv {n : Nat} {d : PyData} {m : Nat} (h : cnt (n + 1) d = some m) : QOf n d m := by
  unfold cnt at h
  split at h
  · contradiction
  · rename_i n' k ps hn
    cases hn
    split at h
    · rename_i hk
      subst hk
      obtain ⟨w, rfl, hw, rfl⟩ := wordC_some h
      exact .word hw
    · split at h
      · rename_i hk
        subst hk
        obtain ⟨ws, rfl, h1, h2, h3, rfl⟩ := phraseC_some h
        exact .phrase h1 h2 h3
      · split at h
        · rename_i hk
          subst hk
          obtain ⟨f, a, b, rfl, h1, h2, h3, h4, rfl⟩ := nearC_some h
          exact .near h1 h2 h3 h4
        · split at h
          · rename_i hk
            exact .join (.inl hk) (fun z => by rw [hk] at z; exact absurd z (by decide +kernel)) h
          · split at h
            · rename_i hk
              exact .join (.inr (.inl hk)) (fun z => by rw [hk] at z; exact absurd z (by decide +kernel)) h
            · split at h
              · rename_i hk
                unfold butC at h
                split at h
                · rename_i hl
                  rw [List.length_map] at hl
                  exact .join (.inr (.inr hk)) (fun _ => hl) h
                · cases h
              · cases h
  · cases h
theorem cnt_word {n : Nat} {w : Str} (h : isW w = true) : cnt (n + 1) (.tuple [.str "word", .str w]) = some 1 := by
  unfold cnt
  rw [if_pos rfl]
  unfold wordC
  rw [if_pos ⟨rfl, by simp [isWD, h]⟩]
theorem cnt_phrase {n : Nat} {ws : List Str} (h1 : 2 ≤ ws.length) (h2 : ws.length ≤ 5) (h : ∀ w ∈ ws, isW w = true) : cnt (n + 1) (.tuple (.str "phrase" :: ws.map PyData.str)) = some ws.length := by
  unfold cnt
  rw [if_neg (by decide +kernel), if_pos rfl]
  unfold phraseC
  have ha : (ws.map PyData.str).all isWD = true := by
    rw [List.all_eq_true]
    intro d hd
    obtain ⟨w, hw, rfl⟩ := List.mem_map.mp hd
    exact h w hw
  rw [List.length_map, if_pos ⟨h1, h2, ha⟩]
theorem cnt_near {n : Nat} {f : Int} {a b : Str} (h1 : 1 ≤ f) (h2 : f ≤ 20) (ha : isW a = true) (hb : isW b = true) : cnt (n + 1) (.tuple [.str "near", .int f, .str a, .str b]) = some 2 := by
  unfold cnt
  rw [if_neg (by decide +kernel), if_neg (by decide +kernel), if_pos rfl]
  unfold nearC
  simp only
  rw [if_pos ⟨h1, h2, ha, hb⟩]
theorem cnt_and {n : Nat} {ps : List PyData} : cnt (n + 1) (.tuple (.str "and" :: ps)) = joinC (ps.map (cnt n)) := by
  rw [cnt, if_neg (by decide +kernel), if_neg (by decide +kernel), if_neg (by decide +kernel), if_pos rfl]
theorem cnt_or {n : Nat} {ps : List PyData} : cnt (n + 1) (.tuple (.str "or" :: ps)) = joinC (ps.map (cnt n)) := by
  rw [cnt, if_neg (by decide +kernel), if_neg (by decide +kernel), if_neg (by decide +kernel), if_neg (by decide +kernel), if_pos rfl]
theorem cnt_but {n : Nat} {ps : List PyData} : cnt (n + 1) (.tuple (.str "but" :: ps)) = butC (ps.map (cnt n)) := by
  rw [cnt, if_neg (by decide +kernel), if_neg (by decide +kernel), if_neg (by decide +kernel), if_neg (by decide +kernel), if_neg (by decide +kernel), if_pos rfl]
/-- all are queries -/
theorem join_some {n : Nat} {ps : List PyData} {m : Nat} (h : joinC (ps.map (cnt n)) = some m) : 2 ≤ ps.length ∧ ps.length ≤ 4 ∧ ∀ p ∈ ps, ∃ c, cnt n p = some c := by
  unfold joinC at h
  split at h
  · rename_i hc
    rw [List.length_map] at hc
    refine ⟨hc.1, hc.2.1, fun p hp => ?_⟩
    have := List.all_eq_true.mp hc.2.2 _ (List.mem_map.mpr ⟨p, hp, rfl⟩)
    exact Option.isSome_iff_exists.mp this
  · cases h
theorem noLs_all {ds : List PyData} (h : ∀ d ∈ ds, noL d = true) : noLs ds = true := by
  induction ds with
  | nil => rfl
  | cons d r ih =>
    rw [noLs, h d List.mem_cons_self, ih (fun e he => h e (List.mem_cons_of_mem _ he))]
    rfl
theorem cnt_noL : ∀ {n : Nat} {d : PyData} {m : Nat}, cnt n d = some m → noL d = true
  | 0, d, m, h => by cases h
  | n + 1, d, m, h => by
    cases cnt_inv h with
    | word => rfl
    | phrase =>
      rw [noL]
      refine noLs_all fun d hd => ?_
      rcases List.mem_cons.mp hd with rfl | hd
      · rfl
      · obtain ⟨w, _, rfl⟩ := List.mem_map.mp hd
        rfl
    | near => rfl
    | join h1 h2 h3 =>
      rw [noL]
      refine noLs_all fun d hd => ?_
      rcases List.mem_cons.mp hd with rfl | hd
      · rfl
      · obtain ⟨c, hc⟩ := (join_some h3).2.2 d hd
        exact cnt_noL hc
theorem kind_fit {k : Str} {n : Nat} (h : k = "and" ∨ k = "or" ∨ k = "but") : Fit n (.str k) := by
  rcases h with rfl | rfl | rfl <;> exact fit_str (by decide +kernel) (by decide +kernel)
theorem cnt_fit : ∀ {n : Nat} {d : PyData} {m : Nat}, cnt n d = some m → Fit n d
  | 0, d, m, h => by cases h
  | n + 1, d, m, h => by
    cases cnt_inv h with
    | word hw =>
      refine fit_tup (by simp) fun e he => ?_
      simp only [List.mem_cons, List.not_mem_nil, or_false] at he
      rcases he with rfl | rfl
      · exact fit_str (by decide +kernel) (by decide +kernel)
      · exact fit_word hw
    | phrase h1 h2 h3 =>
      refine fit_tup (by simp; omega) fun e he => ?_
      rcases List.mem_cons.mp he with rfl | he
      · exact fit_str (by decide +kernel) (by decide +kernel)
      · obtain ⟨w, hw, rfl⟩ := List.mem_map.mp he
        exact fit_word (h3 w hw)
    | near h1 h2 ha hb =>
      refine fit_tup (by simp) fun e he => ?_
      simp only [List.mem_cons, List.not_mem_nil, or_false] at he
      rcases he with rfl | rfl | rfl | rfl
      · exact fit_str (by decide +kernel) (by decide +kernel)
      · exact fit_int
      · exact fit_word ha
      · exact fit_word hb
    | join h1 h2 h3 =>
      obtain ⟨j1, j2, j3⟩ := join_some h3
      refine fit_tup (by simp; omega) fun e he => ?_
      rcases List.mem_cons.mp he with rfl | he
      · exact kind_fit h1
      · obtain ⟨c, hc⟩ := j3 e he
        exact cnt_fit hc
/-- deeper is let -/
theorem cnt_succ : ∀ {n : Nat} {d : PyData} {m : Nat}, cnt n d = some m → cnt (n + 1) d = some m
  | 0, d, m, h => by cases h
  | n + 1, d, m, h => by
    have key : ∀ {ps : List PyData} {m : Nat}, joinC (ps.map (cnt n)) = some m → joinC (ps.map (cnt (n + 1))) = some m := fun {ps m} hj => by
      have e : ps.map (cnt (n + 1)) = ps.map (cnt n) := List.map_congr_left fun p hp => by
        obtain ⟨c, hc⟩ := (join_some hj).2.2 p hp
        rw [hc, cnt_succ hc]
      rw [e]
      exact hj
    cases cnt_inv h with
    | word hw => exact cnt_word hw
    | phrase h1 h2 h3 => exact cnt_phrase h1 h2 h3
    | near h1 h2 ha hb => exact cnt_near h1 h2 ha hb
    | join h1 h2 h3 =>
      rcases h1 with rfl | rfl | rfl
      · rw [cnt_and]; exact key h3
      · rw [cnt_or]; exact key h3
      · rw [cnt_but]
        unfold butC
        rw [List.length_map, if_pos (h2 rfl)]
        exact key h3
theorem cnt_mono {n k : Nat} {d : PyData} {m : Nat} (h : cnt n d = some m) (l : n ≤ k) : cnt k d = some m := by
  induction l with
  | refl => exact h
  | step _ ih => exact cnt_succ ih
/-- the words of a query -/
theorem wIn_ok : ∀ {n : Nat} {d : PyData} {m : Nat}, cnt n d = some m → (wIn n d).length ≤ m ∧ ∀ w ∈ wIn n d, isW w = true
  | 0, d, m, h => by cases h
  | n + 1, d, m, h => by
    cases cnt_inv h with
    | word hw =>
      rw [wIn, if_pos (.inl rfl)]
      exact ⟨by simp [strD], fun w hm => by simp [strD] at hm; rw [hm]; exact hw⟩
    | phrase h1 h2 h3 =>
      rw [wIn, if_pos (.inr rfl), filt_str]
      exact ⟨Nat.le_refl _, h3⟩
    | near h1 h2 ha hb =>
      rw [wIn, if_neg (by decide +kernel), if_pos rfl]
      refine ⟨by simp [strD], fun w hm => ?_⟩
      simp [strD] at hm
      rcases hm with rfl | rfl
      · exact ha
      · exact hb
    | @join k ps _ h1 h2 h3 =>
      obtain ⟨j1, j2, j3⟩ := join_some h3
      have hm : ((ps.map (cnt n)).filterMap id).sum = m := by
        unfold joinC at h3
        split at h3
        · exact Option.some.inj h3
        · cases h3
      have hsum : ∀ l : List PyData, (∀ p ∈ l, ∃ c, cnt n p = some c) → ((l.map (wIn n)).flatten.length ≤ ((l.map (cnt n)).filterMap id).sum ∧ ∀ w ∈ (l.map (wIn n)).flatten, isW w = true) := by
        intro l
        induction l with
        | nil => intro _; exact ⟨Nat.le_refl _, fun w hw => absurd hw (by simp)⟩
        | cons p r ih =>
          intro hl
          obtain ⟨c, hc⟩ := hl p List.mem_cons_self
          obtain ⟨i1, i2⟩ := wIn_ok hc
          obtain ⟨r1, r2⟩ := ih (fun q hq => hl q (List.mem_cons_of_mem _ hq))
          rw [List.map_cons, List.flatten_cons, List.map_cons, hc]
          refine ⟨by simp only [List.length_append, List.filterMap_cons, id, List.sum_cons]; omega, fun w hw => ?_⟩
          rcases List.mem_append.mp hw with hw | hw
          · exact i2 w hw
          · exact r2 w hw
      have hpre : ∀ l : List PyData, (((l.take 1).map (cnt n)).filterMap id).sum ≤ ((l.map (cnt n)).filterMap id).sum := by
        intro l
        cases l with
        | nil => simp
        | cons p r =>
          simp only [List.take_succ_cons, List.take_zero, List.map_cons, List.map_nil]
          cases cnt n p with
          | none => simp
          | some c => simp
      have kd : ¬ (k = "word" ∨ k = "phrase") := by
        rcases h1 with rfl | rfl | rfl <;> decide +kernel
      have kn : ¬ k = "near" := by
        rcases h1 with rfl | rfl | rfl <;> decide +kernel
      rw [wIn, if_neg kd, if_neg kn]
      split
      · obtain ⟨a, b⟩ := hsum (ps.take 1) (fun p hp => j3 p (List.mem_of_mem_take hp))
        exact ⟨Nat.le_trans a (hm ▸ hpre ps), b⟩
      · obtain ⟨a, b⟩ := hsum ps j3
        exact ⟨hm ▸ a, b⟩
section
variable {K : PySem.W.Frag} {H : Hp} {Q : VK}
theorem w_inV {p : Addr} {xs : List V} {x : V} (hs : SqL K H p xs ∨ SqT K H p xs) (fx : flatV x = true) (fs : xs.all flatV = true) (q : Q (.bl (inV x xs)) H) : rIn K false x (.ref p) H Q := ⟨p, xs, rfl, hs, fx, fs, q⟩
theorem w_decN {c A B : Prop} {dc : Decidable c} (h1 : c → B) (h2 : ¬ c → A) : if (!decide c) = true then A else B := by
  by_cases h : c
  · rw [if_neg (by rw [decide_eq_true h]; exact Bool.noConfusion)]
    exact h1 h
  · rw [if_pos (by rw [decide_eq_false h]; rfl)]
    exact h2 h
end
theorem cnt_flat (cs : List (Option Nat)) : (cs.map cntV).all flatV = true := by
  rw [List.all_eq_true]
  intro v hv
  obtain ⟨o, _, rfl⟩ := List.mem_map.mp hv
  cases o <;> rfl
theorem cnt_none (cs : List (Option Nat)) : inV .non (cs.map cntV) = !cs.all (·.isSome) := by
  unfold inV
  induction cs with
  | nil => rfl
  | cons o r ih =>
    rw [List.map_cons, List.any_cons, ih, List.all_cons]
    cases o with
    | none => simp [cntV, eqV]
    | some m => simp [cntV, eqV]
theorem cnt_all : ∀ {cs : List (Option Nat)}, cs.all (·.isSome) = true → ∃ ms : List Nat, cs = ms.map some
  | [], _ => ⟨[], rfl⟩
  | o :: r, h => by
    rw [List.all_cons, Bool.and_eq_true] at h
    obtain ⟨ms, rfl⟩ := cnt_all h.2
    cases o with
    | none => cases h.1
    | some m => exact ⟨m :: ms, rfl⟩
theorem sum_cast : ∀ ms : List Nat, (ms.map fun m : Nat => (m : Int)).sum = ((ms.sum : Nat) : Int)
  | [] => rfl
  | m :: r => by
    rw [List.map_cons, List.sum_cons, List.sum_cons, sum_cast r]
    omega
/-- a query -/
def isQ (d : PyData) : Bool := match cnt 5 d with
  | some m => decide (m ≤ 12)
  | none => false
end Bw

namespace Bw
open PySem PySem.Spec PyProof.Rows L2 LamX
/-! ### slices by places, tuples put together -/
theorem sIx_nat {n d i : Nat} (h : i ≤ n) : HT.sIx n d (some (i : Int)) = i := by
  unfold HT.sIx
  simp only
  split <;> omega
theorem sIx_big {n d : Nat} {i : Int} (h : (n : Int) ≤ i) : HT.sIx n d (some i) = n := by
  unfold HT.sIx
  simp only
  split <;> omega
theorem sIx_none {n d : Nat} : HT.sIx n d none = d := rfl
theorem cutV_drop {xs : List V} {i : Nat} (h : i ≤ xs.length) : cutV xs (some (i : Int)) none = xs.drop i := by
  unfold cutV
  rw [sIx_nat h, sIx_none, List.take_of_length_le (by rw [List.length_drop]; omega)]
theorem cutV_mid {xs : List V} {i j : Nat} (h : i ≤ j) (h2 : j ≤ xs.length) : cutV xs (some (i : Int)) (some (j : Int)) = (xs.drop i).take (j - i) := by
  unfold cutV
  rw [sIx_nat (i := i) (by omega), sIx_nat (i := j) h2]
theorem cutV_take {xs : List V} {j : Nat} (h2 : j ≤ xs.length) : cutV xs none (some (j : Int)) = xs.take j := by
  unfold cutV
  rw [sIx_nat h2, sIx_none, List.drop_zero, Nat.sub_zero]
section
variable {K : PySem.W.Frag} {H : Hp} {Q : VK}
/-- t[i:], i above 0 -/
theorem w_slTd {a : Addr} {xs : List V} {i : Nat} (h : SqT K H a xs) (h0 : 0 < i) (hi : i ≤ xs.length) (k : ∀ p H2, H p = none → Same H H2 → H2 p = some (.tup (xs.drop i)) → Q (.ref p) H2) : rSlT K (.ref a) (some (i : Int)) none H Q :=
  ⟨a, xs, rfl, h, fun z => by rw [sIx_nat hi] at z; omega, fun p n => k p _ n (same_new n) (by rw [cutV_drop hi]; exact upd_same)⟩
/-- t[i:] behind the end -/
theorem w_slTe {a : Addr} {xs : List V} {i : Int} (h : SqT K H a xs) (h0 : 0 < xs.length) (hi : (xs.length : Int) ≤ i) (k : ∀ p H2, H p = none → Same H H2 → H2 p = some (.tup []) → Q (.ref p) H2) : rSlT K (.ref a) (some i) none H Q :=
  ⟨a, xs, rfl, h, fun z => by rw [sIx_big hi] at z; omega, fun p n => k p _ n (same_new n) (by
    have : cutV xs (some i) none = [] := by
      unfold cutV
      rw [sIx_big hi]
      simp
    rw [this]; exact upd_same)⟩
/-- t[i:j] -/
theorem w_slTm {a : Addr} {xs : List V} {i j : Nat} (h : SqT K H a xs) (h0 : 0 < i) (hij : i ≤ j) (hj : j ≤ xs.length) (k : ∀ p H2, H p = none → Same H H2 → H2 p = some (.tup ((xs.drop i).take (j - i))) → Q (.ref p) H2) : rSlT K (.ref a) (some (i : Int)) (some (j : Int)) H Q :=
  ⟨a, xs, rfl, h, fun z => by rw [sIx_nat (by omega)] at z; omega, fun p n => k p _ n (same_new n) (by rw [cutV_mid hij hj]; exact upd_same)⟩
theorem w_catT {a b : Addr} {xs ys : List V} (ha : H a = some (.tup xs)) (hb : H b = some (.tup ys)) (hx : xs ≠ []) (hl : xs.length + ys.length ≤ 100000) (k : ∀ p H2, Same H H2 → H2 p = some (.tup (xs ++ ys)) → Q (.ref p) H2) : rCatT K (.ref a) (.ref b) H Q :=
  ⟨a, b, xs, ys, rfl, rfl, .of ha, .of hb, hx, Nat.le_trans hl (by decide), fun e => k a H (.refl _) (by rw [e, List.append_nil]; exact ha), fun _ p n => k p _ (same_new n) upd_same⟩
end
/-- an if whose test is known, what is behind it once -/
theorem w_ifB {tt : TT} {t u : TS} {D : Ends} {σ : L2.St} {H : Hp} (b : Bool) (H' : Hp) (h : ∀ QB : Bool → Hp → Prop, QB b H' → tt σ H QB) (k : if b = true then t D σ H' else u D σ H') : tIfS tt t u D σ H := h _ k
/-- a vacuous promise -/
theorem fnok_no {P : Program} {w : World} {K : PySem.W.Frag} {mg : Str → Option Value} {base : Heap} {CX : CXT} {k : Nat} {f : Addr} {fd : FuncData} {ps : List Str} {sp : Sp} (h : ∀ vs H Q E, ¬ sp vs H Q E) : FnOk P w K mg base CX k f fd ps sp :=
  ⟨fun vs H Q E z => absurd z (h vs H Q E), fun A outer s H args us vs Q E _ _ _ _ z => absurd z (h vs H Q E)⟩
/-! ### a dict of defs, written at the top -/
structure Ent where
  (k : Str) (t : Tok) (v : Value)
def Ent.de (P : Params) (e : Ent) : DictEntry := ⟨PyData.keyHash P e.k, .str e.k e.t, e.v⟩
theorem lits (P : Params) : ∀ es : List Ent, PySem.W.KeysLit P (es.map (Ent.de P))
  | [] => trivial
  | e :: r => ⟨⟨e.k, e.t, rfl, rfl⟩, lits P r⟩
theorem ns_lits {K : PySem.W.Frag} {P : Params} {D : Addr} {c : Value} {o : Option Addr} {n : Nat} {sl : Array (Option Value)} {es : List Ent} (h : K.lookup D = some ⟨c, o, .dict (es.map (Ent.de P)).toArray n, sl⟩) (k : Str) :
    PySem.W.nsIn K D k = some ((es.find? fun e => decide (e.k = k)).map (·.v)) := by
  unfold PySem.W.nsIn
  rw [h]
  simp only [List.toList_toArray]
  have e1 : ∀ l : List Ent, (l.map (Ent.de P)).find? (fun x => x.key.isStr k) = (l.find? fun e => decide (e.k = k)).map (Ent.de P) := by
    intro l
    induction l with
    | nil => rfl
    | cons e r ih =>
      rw [List.map_cons, List.find?_cons, List.find?_cons, ih]
      have : (Ent.de P e).key.isStr k = decide (e.k = k) := by
        show (Value.str e.k e.t).isStr k = _
        rw [PySem.W.isStr_of]
        show (e.k == k) = _
        by_cases hk : e.k = k
        · simp [hk]
        · simp [hk]
      rw [this]
      split <;> rfl
  have e2 : ∀ l : List Ent, (l.map (Ent.de P)).any (·.refKey) = false := by
    intro l
    rw [List.any_eq_false]
    intro x hx
    obtain ⟨e, _, rfl⟩ := List.mem_map.mp hx
    exact Bool.false_ne_true
  rw [e1 es, e2 es]
  cases es.find? fun e => decide (e.k = k) with
  | none => rfl
  | some e => rfl
theorem kdict_lits {K : PySem.W.Frag} {w : World} {D : Addr} {n : Nat} {es : List Ent} (h : K.lookup D = some ⟨.type "dict", none, .dict (es.map (Ent.de w.params)).toArray n, #[]⟩) (low : (D == sysModules) = false) : KDict K w D (es.map (Ent.de w.params)).toArray n :=
  ⟨h, by simpa using lits w.params es, low⟩
end Bw

/-! what a page has of a query, plainly -/
namespace Bw
open PySem PySem.Spec PyProof.Rows L2 LamX
/-- where some words stand one behind another -/
def runP (held us : List Str) : List Nat := (plc held (us.headD "")).filter fun i => decide ((held.drop i).take us.length = us)
def isNear (f : Int) (i j : Nat) : Bool := decide (1 ≤ ((i : Int) - j).natAbs ∧ ((((i : Int) - j).natAbs : Nat) : Int) ≤ f)
/-- where two words stand near one another -/
def nearP (f : Int) (a b : Str) (held : List Str) : List (Nat × Nat) := ((plc held a).map fun i => ((plc held b).filter fun j => isNear f i j).map fun j => (i, j)).flatten
def pD (q : Nat × Nat) : PyData := .tuple [.int q.1, .int q.2]
def nearD (ps : List PyData) (held : List Str) : PyData := match ps with
  | [.int f, .str a, .str b] => .list ((nearP f a b held).map pD)
  | _ => .none
def plcD (d : PyData) (held : List Str) : PyData := match d with
  | .tuple (.str k :: ps) => if k = "near" then nearD ps held
    else if k = "word" ∨ k = "phrase" then .list ((runP held (ps.filterMap strD)).map nD) else .none
  | _ => .none
def hasN : PyData → Bool
  | .list [] => false
  | _ => true
/-- whether a page has what a query asks -/
def hasQ : Nat → PyData → List Str → Bool
  | 0, _, _ => false
  | n + 1, .tuple (.str k :: ps), held =>
    if k = "and" then (ps.map fun p => hasQ n p held).all id else if k = "or" then (ps.map fun p => hasQ n p held).any id
    else if k = "but" then (((ps.take 1).map fun p => hasQ n p held).all id && !((ps.drop 1).map fun p => hasQ n p held).any id)
    else hasN (plcD (.tuple (.str k :: ps)) held)
  | _ + 1, _, _ => false
theorem good_nD (ns : List Nat) : GoodD (.list (ns.map nD)) 2 := (good_list (n := 1) fun d hd => by
  obtain ⟨n, _, rfl⟩ := List.mem_map.mp hd
  exact good_int)
theorem good_pD (qs : List (Nat × Nat)) : GoodD (.list (qs.map pD)) 2 := good_list fun d hd => by
  obtain ⟨q, _, rfl⟩ := List.mem_map.mp hd
  exact good_tuple fun e he => by
    simp only [List.mem_cons, List.not_mem_nil, or_false] at he
    rcases he with rfl | rfl
    · exact good_int
    · exact good_int
theorem plc_lt {ws : List Str} {w : Str} {i : Nat} (h : i ∈ plc ws w) : i < ws.length ∧ ws[i]? = some w := by
  unfold plc at h
  rw [List.mem_filter, List.mem_range] at h
  exact ⟨h.1, of_decide_eq_true h.2⟩
theorem plc_mem {ws : List Str} {w : Str} {i : Nat} : i ∈ plc ws w ↔ ws[i]? = some w := by
  refine ⟨fun h => (plc_lt h).2, fun h => ?_⟩
  unfold plc
  rw [List.mem_filter, List.mem_range]
  exact ⟨(List.getElem?_eq_some_iff.mp h).1, decide_eq_true h⟩
theorem runP_len (held us : List Str) : (runP held us).length ≤ held.length := by
  unfold runP
  exact Nat.le_trans (List.length_filter_le _ _) (plc_len _ _)
theorem nearP_len (f : Int) (a b : Str) (held : List Str) : (nearP f a b held).length ≤ held.length * held.length := by
  unfold nearP
  rw [List.length_flatten]
  have h := sum_le (l := (((plc held a).map fun i => ((plc held b).filter fun j => isNear f i j).map fun j => (i, j)).map List.length)) (c := held.length) (fun x hx => by
    obtain ⟨l, hl, rfl⟩ := List.mem_map.mp hx
    obtain ⟨i, _, rfl⟩ := List.mem_map.mp hl
    rw [List.length_map]
    exact Nat.le_trans (List.length_filter_le _ _) (plc_len _ _))
  rw [List.length_map, List.length_map] at h
  exact Nat.le_trans h (Nat.mul_le_mul_right _ (plc_len _ _))
theorem hasQ_and {n : Nat} {ps : List PyData} {held : List Str} : hasQ (n + 1) (.tuple (.str "and" :: ps)) held = (ps.map fun p => hasQ n p held).all id := by
  rw [hasQ, if_pos rfl]
theorem hasQ_or {n : Nat} {ps : List PyData} {held : List Str} : hasQ (n + 1) (.tuple (.str "or" :: ps)) held = (ps.map fun p => hasQ n p held).any id := by
  rw [hasQ, if_neg (by decide +kernel), if_pos rfl]
theorem hasQ_but {n : Nat} {a b : PyData} {held : List Str} : hasQ (n + 1) (.tuple [.str "but", a, b]) held = (hasQ n a held && !hasQ n b held) := by
  rw [hasQ, if_neg (by decide +kernel), if_neg (by decide +kernel), if_pos rfl]
  simp
theorem plcD_near {f : Int} {a b : Str} {held : List Str} : plcD (.tuple [.str "near", .int f, .str a, .str b]) held = .list ((nearP f a b held).map pD) := by
  rw [plcD, if_pos rfl]
  rfl
theorem plcD_word {a : Str} {held : List Str} : plcD (.tuple [.str "word", .str a]) held = .list ((runP held [a]).map nD) := by
  rw [plcD, if_neg (by decide +kernel), if_pos (.inl rfl)]
  rfl
theorem plcD_phrase {ws : List Str} {held : List Str} : plcD (.tuple (.str "phrase" :: ws.map PyData.str)) held = .list ((runP held ws).map nD) := by
  rw [plcD, if_neg (by decide +kernel), if_pos (.inr rfl), filt_str]
theorem hasQ_plc {n : Nat} {k : Str} {ps : List PyData} {held : List Str} (h1 : ¬ k = "and") (h2 : ¬ k = "or") (h3 : ¬ k = "but") : hasQ (n + 1) (.tuple (.str k :: ps)) held = hasN (plcD (.tuple (.str k :: ps)) held) := by
  rw [hasQ, if_neg h1, if_neg h2, if_neg h3]
theorem plcD_list' (held : List Str) {n m : Nat} {k : Str} {ps : List PyData} (h : QOf n (.tuple (.str k :: ps)) m) (h1 : ¬ k = "and") (h2 : ¬ k = "or") (h3 : ¬ k = "but") : ∃ ds, plcD (.tuple (.str k :: ps)) held = .list ds ∧ GoodD (.list ds) 2 := by
  cases h with
  | word hw => exact ⟨_, plcD_word, good_nD _⟩
  | phrase a b c => exact ⟨_, plcD_phrase, good_nD _⟩
  | near a b c d => exact ⟨_, plcD_near, good_pD _⟩
  | join a _ _ => rcases a with a | a | a <;> contradiction
theorem plcD_list (held : List Str) {m : Nat} {d : PyData} (h : cnt 1 d = some m) : ∃ ds, plcD d held = .list ds := by
  cases cnt_inv h with
  | word hw => exact ⟨_, plcD_word⟩
  | phrase a b c => exact ⟨_, plcD_phrase⟩
  | near a b c d => exact ⟨_, plcD_near⟩
  | @join k ps _ a b c =>
    obtain ⟨j1, j2, j3⟩ := join_some c
    cases ps with
    | nil => simp at j1
    | cons p r =>
      obtain ⟨c, hc⟩ := j3 p (by simp)
      cases hc
theorem w_any {K : PySem.W.Frag} {bs : List Bool} {a : Addr} {xs : List V} {H : Hp} {Q : VK} (e : xs = bs.map V.bl) (h : SqL K H a xs) (q : Q (.bl (bs.any id)) H) : rAny K [.ref a] H Q := ⟨a, bs, rfl, e ▸ h, q⟩
theorem hasQ_and2 {n : Nat} {a b : PyData} {held : List Str} : hasQ (n + 1) (.tuple [.str "and", a, b]) held = (hasQ n a held && hasQ n b held) := by
  rw [hasQ_and]; simp
theorem hasQ_and3 {n : Nat} {a b c : PyData} {held : List Str} : hasQ (n + 1) (.tuple [.str "and", a, b, c]) held = (hasQ n a held && (hasQ n b held && hasQ n c held)) := by
  rw [hasQ_and]; simp
theorem hasQ_or2 {n : Nat} {a b : PyData} {held : List Str} : hasQ (n + 1) (.tuple [.str "or", a, b]) held = (hasQ n a held || hasQ n b held) := by
  rw [hasQ_or]; simp
theorem hasQ_or3 {n : Nat} {a b c : PyData} {held : List Str} : hasQ (n + 1) (.tuple [.str "or", a, b, c]) held = (hasQ n a held || (hasQ n b held || hasQ n c held)) := by
  rw [hasQ_or]; simp
theorem join2 {a b : PyData} {n x y : Nat} (h1 : cnt n a = some x) (h2 : cnt n b = some y) : joinC ([a, b].map (cnt n)) = some (x + y) := by
  simp [joinC, h1, h2]
theorem join3 {a b c : PyData} {n x y z : Nat} (h1 : cnt n a = some x) (h2 : cnt n b = some y) (h3 : cnt n c = some z) : joinC ([a, b, c].map (cnt n)) = some (x + (y + z)) := by
  simp [joinC, h1, h2, h3]
theorem cnt_and2 {a b : PyData} {n x y : Nat} (h1 : cnt n a = some x) (h2 : cnt n b = some y) : cnt (n + 1) (.tuple [.str "and", a, b]) = some (x + y) := cnt_and.trans (join2 h1 h2)
theorem cnt_or2 {a b : PyData} {n x y : Nat} (h1 : cnt n a = some x) (h2 : cnt n b = some y) : cnt (n + 1) (.tuple [.str "or", a, b]) = some (x + y) := cnt_or.trans (join2 h1 h2)
theorem cnt_and3 {a b c : PyData} {n x y z : Nat} (h1 : cnt n a = some x) (h2 : cnt n b = some y) (h3 : cnt n c = some z) : cnt (n + 1) (.tuple [.str "and", a, b, c]) = some (x + (y + z)) := cnt_and.trans (join3 h1 h2 h3)
theorem cnt_or3 {a b c : PyData} {n x y z : Nat} (h1 : cnt n a = some x) (h2 : cnt n b = some y) (h3 : cnt n c = some z) : cnt (n + 1) (.tuple [.str "or", a, b, c]) = some (x + (y + z)) := cnt_or.trans (join3 h1 h2 h3)
theorem cnt_but2 {a b : PyData} {n x y : Nat} (h1 : cnt n a = some x) (h2 : cnt n b = some y) : cnt (n + 1) (.tuple [.str "but", a, b]) = some (x + y) := by
  rw [cnt_but]
  unfold butC
  rw [if_pos (show ([a, b].map (cnt n)).length = 2 from rfl)]
  exact join2 h1 h2
/-- deeper alike -/
theorem hasQ_succ : ∀ {n : Nat} {d : PyData} {m : Nat} {held : List Str}, cnt n d = some m → hasQ (n + 1) d held = hasQ n d held
  | 0, d, m, held, h => by cases h
  | n + 1, d, m, held, h => by
    have key : ∀ {ps : List PyData} {m : Nat}, joinC (ps.map (cnt n)) = some m → (ps.map fun p => hasQ (n + 1) p held) = ps.map fun p => hasQ n p held := fun {ps m} hj => List.map_congr_left fun p hp => by
      obtain ⟨c, hc⟩ := (join_some hj).2.2 p hp
      exact hasQ_succ hc
    cases cnt_inv h with
    | word hw => rw [hasQ_plc (by decide +kernel) (by decide +kernel) (by decide +kernel), hasQ_plc (by decide +kernel) (by decide +kernel) (by decide +kernel)]
    | phrase h1 h2 h3 => rw [hasQ_plc (by decide +kernel) (by decide +kernel) (by decide +kernel), hasQ_plc (by decide +kernel) (by decide +kernel) (by decide +kernel)]
    | near h1 h2 ha hb => rw [hasQ_plc (by decide +kernel) (by decide +kernel) (by decide +kernel), hasQ_plc (by decide +kernel) (by decide +kernel) (by decide +kernel)]
    | @join k ps _ h1 h2 h3 =>
      rcases h1 with rfl | rfl | rfl
      · rw [hasQ_and, hasQ_and, key h3]
      · rw [hasQ_or, hasQ_or, key h3]
      · have hl := h2 rfl
        match ps, hl with
        | [a, b], _ =>
          obtain ⟨_, _, j3⟩ := join_some h3
          obtain ⟨x, hx⟩ := j3 a (by simp)
          obtain ⟨y, hy⟩ := j3 b (by simp)
          rw [hasQ_but, hasQ_but, hasQ_succ hx, hasQ_succ hy]
/-- an if whose answer is known, the heap not -/
theorem w_ifH {tt : TT} {t u : TS} {D : Ends} {σ : L2.St} {H : Hp} (b : Bool) (I : Hp → Prop) (h : ∀ QB : Bool → Hp → Prop, (∀ H', I H' → QB b H') → tt σ H QB) (k : ∀ H', I H' → if b = true then t D σ H' else u D σ H') : tIfS tt t u D σ H := h _ k
theorem in_two' {k : Str} : inV (.str k) [.str "word", .str "phrase"] = decide (k = "word" ∨ k = "phrase") := by
  unfold inV
  simp only [List.any_cons, List.any_nil, Bool.or_false, eqV]
  by_cases h1 : k = "word"
  · subst h1
    decide +kernel
  · by_cases h2 : k = "phrase"
    · subst h2
      decide +kernel
    · rw [decide_eq_false (fun z => z.elim h1 h2)]
      simp [Ne.symm h1, Ne.symm h2]
theorem rp_strs {H : Hp} : ∀ {xs : List V} {ws : List Str}, RpAll H xs (ws.map PyData.str) → xs = ws.map V.str := fun {xs ws} h => by
  induction ws generalizing xs with
  | nil => cases h; rfl
  | cons y r ih =>
    cases h with
    | cons h1 h2 =>
      cases h1
      rw [ih h2]
      rfl
end Bw

/-! phrases and nears -/
namespace Bw
open PySem PySem.Spec PyProof.Rows L2 LamX
theorem nearP_mem {f : Int} {a b : Str} {held : List Str} {i j : Nat} : (i, j) ∈ nearP f a b held ↔ held[i]? = some a ∧ held[j]? = some b ∧ isNear f i j = true := by
  unfold nearP
  rw [List.mem_flatten]
  constructor
  · rintro ⟨l, hl, h⟩
    obtain ⟨n, hn, rfl⟩ := List.mem_map.mp hl
    obtain ⟨m, hm, e⟩ := List.mem_map.mp h
    cases e
    rw [List.mem_filter] at hm
    exact ⟨plc_mem.mp hn, plc_mem.mp hm.1, hm.2⟩
  · rintro ⟨h1, h2, h3⟩
    exact ⟨_, List.mem_map.mpr ⟨i, plc_mem.mpr h1, rfl⟩, List.mem_map.mpr ⟨j, List.mem_filter.mpr ⟨plc_mem.mpr h2, h3⟩, rfl⟩⟩
theorem runP_mem {held ur : List Str} {u : Str} {i : Nat} : i ∈ runP held (u :: ur) ↔ (held.drop i).take (u :: ur).length = u :: ur := by
  unfold runP
  rw [List.mem_filter, List.headD_cons, plc_mem]
  constructor
  · rintro ⟨_, h⟩
    exact of_decide_eq_true h
  · intro h
    refine ⟨?_, decide_eq_true h⟩
    have e : ((held.drop i).take (u :: ur).length)[0]? = some u := by rw [h]; rfl
    rw [List.getElem?_take_of_lt (by simp), List.getElem?_drop] at e
    simpa using e
theorem take_two {l : List Str} {a b : Str} : l.take 2 = [a, b] ↔ l[0]? = some a ∧ l[1]? = some b := by
  match l with
  | [] => simp
  | [x] => simp
  | x :: y :: r => simp
theorem take_three {l : List Str} {a b c : Str} : l.take 3 = [a, b, c] ↔ l[0]? = some a ∧ l[1]? = some b ∧ l[2]? = some c := by
  match l with
  | [] => simp
  | [x] => simp
  | [x, y] => simp
  | x :: y :: z :: r => simp
theorem run2 {held : List Str} {a b : Str} {i : Nat} : i ∈ runP held [a, b] ↔ held[i]? = some a ∧ held[i + 1]? = some b := by
  rw [runP_mem]
  show (held.drop i).take 2 = [a, b] ↔ _
  rw [take_two, List.getElem?_drop, List.getElem?_drop]
  rfl
theorem run3 {held : List Str} {a b c : Str} {i : Nat} : i ∈ runP held [a, b, c] ↔ held[i]? = some a ∧ held[i + 1]? = some b ∧ held[i + 2]? = some c := by
  rw [runP_mem]
  show (held.drop i).take 3 = [a, b, c] ↔ _
  rw [take_three, List.getElem?_drop, List.getElem?_drop, List.getElem?_drop]
  rfl
theorem hasN_iff {α : Type} {f : α → PyData} {l : List α} : hasN (.list (l.map f)) = true ↔ ∃ x, x ∈ l := by
  cases l with
  | nil => simp [hasN]
  | cons x r => exact ⟨fun _ => ⟨x, by simp⟩, fun _ => rfl⟩
theorem has_near {n : Nat} {f : Int} {a b : Str} {held : List Str} : hasQ (n + 1) (.tuple [.str "near", .int f, .str a, .str b]) held = true ↔ ∃ i j, held[i]? = some a ∧ held[j]? = some b ∧ isNear f i j = true := by
  rw [hasQ_plc (by decide +kernel) (by decide +kernel) (by decide +kernel), plcD_near, hasN_iff]
  constructor
  · rintro ⟨⟨i, j⟩, h⟩
    exact ⟨i, j, nearP_mem.mp h⟩
  · rintro ⟨i, j, h⟩
    exact ⟨(i, j), nearP_mem.mpr h⟩
theorem has_phrase {n : Nat} {ws held : List Str} : hasQ (n + 1) (.tuple (.str "phrase" :: ws.map PyData.str)) held = true ↔ ∃ i, i ∈ runP held ws := by
  rw [hasQ_plc (by decide +kernel) (by decide +kernel) (by decide +kernel), plcD_phrase, hasN_iff]
theorem near_of {f : Int} {i j : Nat} (h1 : 1 ≤ ((i : Int) - j).natAbs) (h2 : ((((i : Int) - j).natAbs : Nat) : Int) ≤ f) : isNear f i j = true := decide_eq_true ⟨h1, h2⟩
theorem near_inv {f : Int} {i j : Nat} (h : isNear f i j = true) : 1 ≤ ((i : Int) - j).natAbs ∧ ((((i : Int) - j).natAbs : Nat) : Int) ≤ f := of_decide_eq_true h
theorem bool_ext {a b : Bool} (h : a = true ↔ b = true) : a = b := by
  cases a <;> cases b <;> simp_all
/-- a phrase is near -/
theorem phrase_nears {n : Nat} {a b c : Str} {held : List Str} (h : hasQ (n + 2) (.tuple [.str "phrase", .str a, .str b, .str c]) held = true) :
    hasQ (n + 2) (.tuple [.str "and", .tuple [.str "near", .int 1, .str a, .str b], .tuple [.str "near", .int 1, .str b, .str c], .tuple [.str "near", .int 2, .str a, .str c]]) held = true := by
  obtain ⟨i, hi⟩ := (has_phrase (n := n + 1) (ws := [a, b, c])).mp h
  obtain ⟨h1, h2, h3⟩ := run3.mp hi
  rw [hasQ_and3, has_near.mpr ⟨i, i + 1, h1, h2, near_of (by omega) (by omega)⟩, has_near.mpr ⟨i + 1, i + 2, h2, h3, near_of (by omega) (by omega)⟩, has_near.mpr ⟨i, i + 2, h1, h3, near_of (by omega) (by omega)⟩]
  rfl
theorem near_sym {n : Nat} {f : Int} {a b : Str} {held : List Str} : hasQ (n + 1) (.tuple [.str "near", .int f, .str a, .str b]) held = hasQ (n + 1) (.tuple [.str "near", .int f, .str b, .str a]) held := by
  refine bool_ext ⟨fun h => ?_, fun h => ?_⟩
  all_goals
    obtain ⟨i, j, h1, h2, h3⟩ := has_near.mp h
    have := near_inv h3
    exact has_near.mpr ⟨j, i, h2, h1, near_of (by omega) (by omega)⟩
theorem near_up {n : Nat} {f g : Int} {a b : Str} {held : List Str} (hg : f ≤ g) (h : hasQ (n + 1) (.tuple [.str "near", .int f, .str a, .str b]) held = true) : hasQ (n + 1) (.tuple [.str "near", .int g, .str a, .str b]) held = true := by
  obtain ⟨i, j, h1, h2, h3⟩ := has_near.mp h
  have := near_inv h3
  exact has_near.mpr ⟨i, j, h1, h2, near_of (by omega) (by omega)⟩
theorem near_one {n : Nat} {a b : Str} {held : List Str} : (hasQ (n + 1) (.tuple [.str "phrase", .str a, .str b]) held || hasQ (n + 1) (.tuple [.str "phrase", .str b, .str a]) held) = hasQ (n + 1) (.tuple [.str "near", .int 1, .str a, .str b]) held := by
  refine bool_ext ⟨fun h => ?_, fun h => ?_⟩
  · rw [Bool.or_eq_true] at h
    rcases h with h | h
    · obtain ⟨i, hi⟩ := (has_phrase (ws := [a, b])).mp h
      obtain ⟨h1, h2⟩ := run2.mp hi
      exact has_near.mpr ⟨i, i + 1, h1, h2, near_of (by omega) (by omega)⟩
    · obtain ⟨i, hi⟩ := (has_phrase (ws := [b, a])).mp h
      obtain ⟨h1, h2⟩ := run2.mp hi
      exact has_near.mpr ⟨i + 1, i, h2, h1, near_of (by omega) (by omega)⟩
  · obtain ⟨i, j, h1, h2, h3⟩ := has_near.mp h
    have hn := near_inv h3
    rw [Bool.or_eq_true]
    have hij : j = i + 1 ∨ i = j + 1 := by omega
    rcases hij with rfl | rfl
    · exact .inl ((has_phrase (ws := [a, b])).mpr ⟨i, run2.mpr ⟨h1, h2⟩⟩)
    · exact .inr ((has_phrase (ws := [b, a])).mpr ⟨j, run2.mpr ⟨h2, h1⟩⟩)
/-- a longer page keeps its places -/
theorem get_longer {held : List Str} {u : List Str} {i : Nat} {a : Str} (h : held[i]? = some a) : (held ++ u)[i]? = some a := by
  rw [List.getElem?_append_left (List.getElem?_eq_some_iff.mp h).1]
  exact h
theorem near_longer {f : Int} {a b : Str} {held u : List Str} {q : Nat × Nat} (h : q ∈ nearP f a b held) : q ∈ nearP f a b (held ++ u) := by
  obtain ⟨i, j⟩ := q
  obtain ⟨h1, h2, h3⟩ := nearP_mem.mp h
  exact nearP_mem.mpr ⟨get_longer h1, get_longer h2, h3⟩
theorem run_longer {held ur us : List Str} {u : Str} {i : Nat} (h : i ∈ runP held (u :: ur)) : i ∈ runP (held ++ us) (u :: ur) := by
  rw [runP_mem] at h ⊢
  have hl : (u :: ur).length ≤ (held.drop i).length := by
    have := congrArg List.length h
    rw [List.length_take] at this
    omega
  have hi : i ≤ held.length := by
    rw [List.length_drop] at hl
    simp only [List.length_cons] at hl
    omega
  rw [List.drop_append_of_le_length hi, List.take_append_of_le_length hl]
  exact h
/-- what is in a page is in a longer one -/
theorem plcD_longer {m : Nat} {d : PyData} {held us : List Str} (hc : cnt 1 d = some m) : ∃ ds es, plcD d held = .list ds ∧ plcD d (held ++ us) = .list es ∧ GoodD (.list ds) 2 ∧ GoodD (.list es) 2 ∧ (∀ e ∈ ds, GoodD e 1) ∧ ∀ e ∈ ds, e ∈ es := by
  cases cnt_inv hc with
  | word hw =>
    refine ⟨_, _, plcD_word, plcD_word, good_nD _, good_nD _, fun e he => ?_, fun e he => ?_⟩
    · obtain ⟨n, _, rfl⟩ := List.mem_map.mp he
      exact good_int
    · obtain ⟨n, hn, rfl⟩ := List.mem_map.mp he
      exact List.mem_map.mpr ⟨n, run_longer hn, rfl⟩
  | @phrase ws a b c =>
    refine ⟨_, _, plcD_phrase, plcD_phrase, good_nD _, good_nD _, fun e he => ?_, fun e he => ?_⟩
    · obtain ⟨n, _, rfl⟩ := List.mem_map.mp he
      exact good_int
    · obtain ⟨n, hn, rfl⟩ := List.mem_map.mp he
      match ws, a with
      | u :: ur, _ => exact List.mem_map.mpr ⟨n, run_longer hn, rfl⟩
  | near a b c d =>
    refine ⟨_, _, plcD_near, plcD_near, good_pD _, good_pD _, fun e he => ?_, fun e he => ?_⟩
    · obtain ⟨q, _, rfl⟩ := List.mem_map.mp he
      exact good_tuple fun e he => by
        simp only [List.mem_cons, List.not_mem_nil, or_false] at he
        rcases he with rfl | rfl
        · exact good_int
        · exact good_int
    · obtain ⟨q, hq, rfl⟩ := List.mem_map.mp he
      exact List.mem_map.mpr ⟨q, near_longer hq, rfl⟩
  | @join k ps _ a b c =>
    obtain ⟨j1, j2, j3⟩ := join_some c
    cases ps with
    | nil => simp at j1
    | cons p r =>
      obtain ⟨c, hc⟩ := j3 p (by simp)
      cases hc
theorem units65 {k : Nat} {A : Around} (r : Room k A) : A.units + 65 < cLine := by have := r.un; omega
theorem w_gunl {K : PySem.W.Frag} {n : Nat} {t : TGs} {a : Addr} {xs : List V} {σ : L2.St} {H : Hp} {Q2 : L2.St → Hp → Prop} (h : SqL K H a xs) (hn : xs.length = n) (q : t xs σ H Q2) : gUnl K n t (.ref a) σ H Q2 := ⟨a, xs, rfl, h, hn, q⟩
theorem w_notInD {K : PySem.W.Frag} {x y : V} {d : PyData} {ds : List PyData} {n : Nat} {H : Hp} {Q : VK} (hx : Dp K H x d) (hy : Dp K H y (.list ds)) (g : GoodD d n) (gs : GoodD (.list ds) n) (hn : n ≤ 64) (hm : d ∈ ds) (q : Q (.bl false) H) : rNotInD K x y H Q := by
  refine ⟨d, ds, hx, hy, g.shaped hn, gs.shaped hn, ?_⟩
  have e : (ds.any fun z => PyData.eqv z d) = true := by
    rw [List.any_eq_true]
    exact ⟨d, hm, g.refl⟩
  rw [e]
  exact q
end Bw

/-! the law's own way to runs and pairs -/
namespace Bw
open PySem PySem.Spec PyProof.Rows L2 LamX
def lrun (ws us : List Str) : List Nat := (List.range ws.length).filter fun i => decide ((ws.drop i).take us.length = us)
/-- a comprehension, the gathered list known -/
theorem lc_finD {J : It} {n : Nat} {ok : Hp → Prop} {it : Nat → V → Hp → Hp → Prop} {g : TG} {tt : TT} {te : TE} {vs : List Nat} {σ : L2.St} {H1 : Hp} {Qd : Hp → Prop} (F : Fini J n ok it) {D : Addr} (nD : H1 D = none) (Iv : Nat → List V → Hp → Prop)
    (h0 : ∀ H2, Same H1 H2 → H2 D = some (.lst []) → Iv 0 [] H2) (hl : ∀ i acc H, i ≤ n → Iv i acc H → ok H)
    (hs : ∀ i x acc H H', i < n → acc.length ≤ i → Iv i acc H → H D = some (.lst acc) → it i x H H' → g x (wipe σ vs) H' fun σ2 H2 => wipe σ2 vs = wipe σ vs ∧ tt σ2 H2 fun b H3 =>
      if b = true then te σ2 H3 fun y H4 => ∃ acc, H4 D = some (.lst acc) ∧ acc.length < sizeLine ∧ NxI D i Iv (upd H4 D (.lst (acc ++ [y]))) else NxI D i Iv H3)
    (hd : ∀ acc H, Iv n acc H → acc.length ≤ n → H D = some (.lst acc) → Qd H) :
    ∃ W : Nat → Nat → Hp → Prop, (∃ m, W 0 m (upd H1 D (.lst []))) ∧ ∀ i m H, W i m H →
      (J.stop i H ∧ Qd H) ∨ (J.go i H ∧ ∃ Nx : Hp → Prop, (∀ H', Nx H' → ∃ m', m' < m ∧ W (i + 1) m' H') ∧ ∀ x H', J.yld i H x H' → g x (wipe σ vs) H' fun σ2 H2 => wipe σ2 vs = wipe σ vs ∧ tt σ2 H2 fun b H3 =>
        if b = true then te σ2 H3 fun y H4 => ∃ acc, H4 D = some (.lst acc) ∧ acc.length < sizeLine ∧ Nx (upd H4 D (.lst (acc ++ [y]))) else Nx H3) := by
  refine ⟨fun i m H => m = n - i ∧ i ≤ n ∧ ∃ acc, acc.length ≤ i ∧ H D = some (.lst acc) ∧ Iv i acc H, ⟨n, by simp, Nat.zero_le _, [], Nat.le_refl _, upd_same, h0 _ (same_new nD) upd_same⟩, ?_⟩
  rintro i m H ⟨rfl, hi, acc, hacc, hD, p⟩
  have o := hl i acc H hi p
  rcases Nat.lt_or_ge i n with hlt | hge
  · exact .inr ⟨F.go i H hlt o, NxI D i Iv, fun H' p' => ⟨n - (i + 1), by omega, rfl, hlt, p'⟩, fun x H' y => hs i x acc H H' hlt hacc p hD (F.yl i H x H' hlt o y)⟩
  · obtain rfl : i = n := Nat.le_antisymm hi hge
    exact .inl ⟨F.st H o, hd acc H p hacc hD⟩
/-- a.join(l), within a comprehension -/
abbrev rJoin (K : PySem.W.Frag) : V → List V → Hp → VK → Prop := fun x xs H Q => ∃ a p, ∃ ys : List Str, x = .str a ∧ xs = [.ref p] ∧ (SqL K H p (ys.map V.str) ∨ SqT K H p (ys.map V.str)) ∧
      (ys.map (·.length)).sum + ys.length * a.length ≤ 16777216 ∧ Q (.str (Txt.join a ys)) H
/-- an if: what its test tells, whichever answer -/
theorem w_ifX {tt : TT} {t u : TS} {D : Ends} {σ : L2.St} {H : Hp} (I : Bool → Hp → Prop) (h : ∀ QB : Bool → Hp → Prop, (∀ b H', I b H' → QB b H') → tt σ H QB) (k : ∀ b H', I b H' → if b = true then t D σ H' else u D σ H') : tIfS tt t u D σ H := h _ k
theorem lrun_eq {ws us : List Str} (h : us ≠ []) : lrun ws us = runP ws us := by
  obtain ⟨u, ur, rfl⟩ : ∃ u ur, us = u :: ur := by
    cases us with
    | nil => exact absurd rfl h
    | cons u ur => exact ⟨u, ur, rfl⟩
  unfold lrun runP plc
  rw [List.filter_filter]
  refine List.filter_congr fun i hi => ?_
  rw [List.headD_cons]
  by_cases hp : (ws.drop i).take (u :: ur).length = u :: ur
  · have hm := runP_mem.mpr hp
    unfold runP at hm
    rw [List.mem_filter, List.headD_cons, plc_mem] at hm
    rw [decide_eq_true hp, decide_eq_true hm.1]
    rfl
  · rw [decide_eq_false hp]
    rfl
/-- plain data that fit, by reckoning -/
def fitB : Nat → PyData → Bool
  | _, .none => true
  | _, .bool _ => true
  | _, .int _ => true
  | _, .str x => decide (x.length ≤ 1000) && PyData.strOk x
  | n + 1, .tuple ds => decide (ds.length ≤ 1000) && ds.all (fitB n)
  | n + 1, .list ds => decide (ds.length ≤ 1000) && ds.all (fitB n)
  | _, _ => false
theorem fitB_ok : ∀ {n : Nat} {d : PyData}, fitB n d = true → Fit n d := by
  intro n
  induction n with
  | zero =>
    intro d h
    cases d with
    | none => exact .inl (.inl rfl)
    | bool b => exact .inl (.inr (.inl ⟨b, rfl⟩))
    | int i => exact .inl (.inr (.inr ⟨i, rfl⟩))
    | str x =>
      unfold fitB at h
      rw [Bool.and_eq_true] at h
      exact .inr ⟨x, rfl, of_decide_eq_true h.1, h.2⟩
    | _ => cases h
  | succ n ih =>
    intro d h
    cases d with
    | none => exact .inl (.inl (.inl rfl))
    | bool b => exact .inl (.inl (.inr (.inl ⟨b, rfl⟩)))
    | int i => exact .inl (.inl (.inr (.inr ⟨i, rfl⟩)))
    | str x =>
      unfold fitB at h
      rw [Bool.and_eq_true] at h
      exact .inl (.inr ⟨x, rfl, of_decide_eq_true h.1, h.2⟩)
    | tuple ds =>
      unfold fitB at h
      rw [Bool.and_eq_true, List.all_eq_true] at h
      exact .inr ⟨ds, .inl rfl, of_decide_eq_true h.1, fun e he => ih (h.2 e he)⟩
    | list ds =>
      unfold fitB at h
      rw [Bool.and_eq_true, List.all_eq_true] at h
      exact .inr ⟨ds, .inr rfl, of_decide_eq_true h.1, fun e he => ih (h.2 e he)⟩
    | _ => cases h
/-- the pairs of one place -/
def pairsAt (f : Nat) (a b : Str) (ws : List Str) (i e : Nat) : List (Nat × Nat) :=
  ((List.range' (i - f) e).filter fun j => decide (i ≠ j ∧ ws[i]? = some a ∧ ws[j]? = some b)).map fun j => (i, j)
def wide (f n i : Nat) : Nat := min n (i + f + 1) - (i - f)
def lpairs (f : Nat) (a b : Str) (ws : List Str) (e : Nat) : List (Nat × Nat) := ((List.range e).map fun i => pairsAt f a b ws i (wide f ws.length i)).flatten
theorem flat_filter {α β : Type} (p : α → Bool) (g : α → List β) (l : List α) : ((l.filter p).map g).flatten = (l.map fun i => if p i = true then g i else []).flatten := by
  induction l with
  | nil => rfl
  | cons x r ih =>
    rw [List.filter_cons]
    by_cases h : p x = true
    · rw [if_pos h, List.map_cons, List.flatten_cons, ih, List.map_cons, List.flatten_cons, if_pos h]
    · rw [if_neg h, ih, List.map_cons, List.flatten_cons, if_neg h, List.nil_append]
theorem filter_none {α : Type} {p : α → Bool} {l : List α} (h : ∀ x ∈ l, p x = false) : l.filter p = [] := by
  rw [List.filter_eq_nil_iff]
  intro x hx
  rw [h x hx]
  exact Bool.false_ne_true
/-- a window of the places -/
theorem win {p : Nat → Bool} {n lo hi : Nat} (h1 : lo ≤ hi) (h2 : hi ≤ n) (h : ∀ j, j < n → p j = true → lo ≤ j ∧ j < hi) : (List.range n).filter p = (List.range' lo (hi - lo)).filter p := by
  have e1 : List.range n = List.range' 0 lo ++ (List.range' lo (hi - lo) ++ List.range' hi (n - hi)) := by
    have z1 := List.range'_append_1 (s := lo) (m := hi - lo) (n := n - hi)
    rw [show lo + (hi - lo) = hi by omega] at z1
    have z2 := List.range'_append_1 (s := 0) (m := lo) (n := hi - lo + (n - hi))
    rw [Nat.zero_add] at z2
    rw [z1, z2, List.range_eq_range', show lo + (hi - lo + (n - hi)) = n by omega]
  rw [e1, List.filter_append, List.filter_append]
  rw [filter_none (l := List.range' 0 lo) (fun x hx => ?_), filter_none (l := List.range' hi (n - hi)) (fun x hx => ?_), List.nil_append, List.append_nil]
  · rw [List.mem_range'_1] at hx
    cases hp : p x with
    | false => rfl
    | true => have := h x (by omega) hp; omega
  · rw [List.mem_range'_1] at hx
    cases hp : p x with
    | false => rfl
    | true => have := h x (by omega) hp; omega
theorem lpairs_eq {f : Nat} {a b : Str} {ws : List Str} : lpairs f a b ws ws.length = nearP f a b ws := by
  unfold lpairs nearP plc
  rw [flat_filter]
  refine congrArg List.flatten (List.map_congr_left fun i hi => ?_)
  rw [List.mem_range] at hi
  unfold pairsAt wide
  by_cases ha : ws[i]? = some a
  · rw [if_pos (decide_eq_true ha)]
    congr 1
    rw [List.filter_filter, win (n := ws.length) (lo := i - f) (hi := min ws.length (i + f + 1)) (by omega) (by omega) (fun j hj hp => ?_)]
    · refine List.filter_congr fun j hj => ?_
      rw [List.mem_range'_1] at hj
      by_cases hb : ws[j]? = some b
      · rw [decide_eq_true hb, Bool.and_true]
        by_cases hij : i = j
        · rw [decide_eq_false (fun z => z.1 hij)]
          exact (decide_eq_false (fun z => by have := z.1; omega)).symm
        · rw [decide_eq_true ⟨hij, ha, hb⟩]
          exact (near_of (by omega) (by omega)).symm
      · rw [decide_eq_false hb, Bool.and_false, decide_eq_false (fun z => hb z.2.2)]
    · rw [Bool.and_eq_true] at hp
      have := near_inv hp.1
      omega
  · rw [if_neg (by rw [decide_eq_false ha]; exact Bool.false_ne_true), filter_none (fun j _ => decide_eq_false fun z => ha z.2.1)]
    rfl
end Bw

/-! data that stay while one list changes; data of bounded width and depth; tuples put together, any -/
namespace Bw
open PySem PySem.Spec PyProof.Rows L2 LamX
/-- all but what S holds stays -/
def KS (S : Addr → Prop) (H H' : Hp) : Prop := ∀ c o, H c = some o → ¬ S c → H' c = some o
/-- S holds lists alone -/
def SL (S : Addr → Prop) (H : Hp) : Prop := ∀ c, S c → ∃ ys, H c = some (.lst ys)
/-- stands for d, whatever becomes of S -/
def RpX (S : Addr → Prop) (H : Hp) (v : V) (d : PyData) : Prop := ∀ H', KS S H H' → Rp H' v d
def RpsX (S : Addr → Prop) (H : Hp) (xs : List V) (ds : List PyData) : Prop := ∀ H', KS S H H' → RpAll H' xs ds
section
variable {S : Addr → Prop} {H H' : Hp}
theorem KS.refl : KS S H H := fun _ _ h _ => h
theorem KS.trans {H2 : Hp} (a : KS S H H') (b : KS S H' H2) : KS S H H2 := fun c o h n => b c o (a c o h n) n
theorem KS.of (s : Same H H') : KS S H H' := fun c o h _ => s c o h
theorem KS.kb {p : Addr} (hp : S p) (k : KB p H H') : KS S H H' := fun c o h n => k c o h (fun z => n (z ▸ hp))
theorem SL.same (h : SL S H) (s : Same H H') : SL S H' := fun c hc => by
  obtain ⟨ys, hy⟩ := h c hc
  exact ⟨ys, s _ _ hy⟩
theorem SL.kb {p : Addr} (h : SL S H) (k : KB p H H') (hp : ∃ ys, H' p = some (.lst ys)) : SL S H' := fun c hc => by
  by_cases z : c = p
  · rw [z]
    exact hp
  · obtain ⟨ys, hy⟩ := h c hc
    exact ⟨ys, k _ _ hy z⟩
theorem SL.notup {t : Addr} {xs : List V} (h : SL S H) (ht : H t = some (.tup xs)) : ¬ S t := fun z => by
  obtain ⟨ys, hy⟩ := h t z
  rw [ht] at hy
  cases hy
theorem SL.fresh {t : Addr} (h : SL S H) (ht : H t = none) : ¬ S t := fun z => by
  obtain ⟨ys, hy⟩ := h t z
  rw [ht] at hy
  cases hy
theorem RpX.rp {v : V} {d : PyData} (h : RpX S H v d) : Rp H v d := h H KS.refl
theorem RpX.ks {v : V} {d : PyData} (h : RpX S H v d) (k : KS S H H') : RpX S H' v d := fun H2 k2 => h H2 (k.trans k2)
theorem RpX.same {v : V} {d : PyData} (h : RpX S H v d) (k : Same H H') : RpX S H' v d := h.ks (KS.of k)
theorem RpsX.ks {v : List V} {d : List PyData} (h : RpsX S H v d) (k : KS S H H') : RpsX S H' v d := fun H2 k2 => h H2 (k.trans k2)
theorem RpsX.same {v : List V} {d : List PyData} (h : RpsX S H v d) (k : Same H H') : RpsX S H' v d := h.ks (KS.of k)
theorem RpsX.length {v : List V} {d : List PyData} (h : RpsX S H v d) : v.length = d.length := (h H KS.refl).length
theorem RpsX.at {vs : List V} {ds : List PyData} (h : RpsX S H vs ds) {i : Nat} {v : V} (hv : vs[i]? = some v) : ∃ d, ds[i]? = some d ∧ RpX S H v d := by
  obtain ⟨d, h1, _⟩ := (h H KS.refl).at hv
  refine ⟨d, h1, fun H' k => ?_⟩
  obtain ⟨d', h2, h3⟩ := (h H' k).at hv
  rw [h1] at h2
  cases h2
  exact h3
theorem RpsX.take {vs : List V} {ds : List PyData} (n : Nat) (h : RpsX S H vs ds) : RpsX S H (vs.take n) (ds.take n) := fun H' k => (h H' k).take n
theorem RpsX.drop {vs : List V} {ds : List PyData} (n : Nat) (h : RpsX S H vs ds) : RpsX S H (vs.drop n) (ds.drop n) := fun H' k => (h H' k).drop n
theorem RpsX.append {vs us : List V} {ds es : List PyData} (h : RpsX S H vs ds) (g : RpsX S H us es) : RpsX S H (vs ++ us) (ds ++ es) := fun H' k => (h H' k).append (g H' k)
theorem RpsX.nil : RpsX S H [] [] := fun _ _ => .nil
theorem RpsX.cons {v : V} {d : PyData} {vs : List V} {ds : List PyData} (h : RpX S H v d) (g : RpsX S H vs ds) : RpsX S H (v :: vs) (d :: ds) := fun H' k => .cons (h H' k) (g H' k)
theorem RpX.tup {t : Addr} {xs : List V} {ds : List PyData} (hS : SL S H) (ht : H t = some (.tup xs)) (h : RpsX S H xs ds) : RpX S H (.ref t) (.tuple ds) := fun H' k => .tup (k _ _ ht (hS.notup ht)) (h H' k)
theorem RpX.lst {t : Addr} {xs : List V} {ds : List PyData} (n : ¬ S t) (ht : H t = some (.lst xs)) (h : RpsX S H xs ds) : RpX S H (.ref t) (.list ds) := fun H' k => .lst (k _ _ ht n) (h H' k)
theorem RpX.str (x : Str) : RpX S H (.str x) (.str x) := fun _ _ => .str x
theorem RpX.int (x : Int) : RpX S H (.int x) (.int x) := fun _ _ => .int x
theorem RpX.bl (x : Bool) : RpX S H (.bl x) (.bool x) := fun _ _ => .bl x
theorem RpX.non : RpX S H .non .none := fun _ _ => .non
theorem RpX.of {v : V} {d : PyData} (hS : SL S H) (h : Rp H v d) (n : noL d = true) : RpX S H v d := fun H' k => h.tupk (fun a xs ha => k _ _ ha (hS.notup ha)) n
/-- one new list more -/
theorem RpX.more {v : V} {d : PyData} {l : Addr} (h : RpX S H v d) (n : H l = none) (s : Same H H') : RpX (fun c => S c ∨ c = l) H' v d := fun H2 k => h H2 fun c o hc nc => k c o (s _ _ hc) (fun z => z.elim nc (fun z => by rw [z, n] at hc; cases hc))
/-- the things of a tuple -/
theorem RpX.things {a : Addr} {ds : List PyData} (hS : SL S H) (h : RpX S H (.ref a) (.tuple ds)) : ∃ xs, H a = some (.tup xs) ∧ RpsX S H xs ds := by
  cases h.rp with
  | @tup _ xs _ ha r =>
    refine ⟨xs, ha, fun H' k => ?_⟩
    have h' := k _ _ ha (hS.notup ha)
    cases h H' k with
    | tup ha' r' =>
      rw [h'] at ha'
      cases ha'
      exact r'
/-- an if: what its test tells, what is behind it once -/
theorem w_ifXR {tt : TT} {t u : TS} {D : Ends} {σ : L2.St} {H : Hp} (I : Bool → Hp → Prop) (R : L2.St → Hp → Prop) (h : ∀ QB : Bool → Hp → Prop, (∀ b H', I b H' → QB b H') → tt σ H QB)
    (k1 : ∀ H', I true H' → (∀ σ' H2, R σ' H2 → D.nx σ' H2) → t D σ H') (k2 : ∀ H', I false H' → (∀ σ' H2, R σ' H2 → D.nx σ' H2) → u D σ H') (go : ∀ σ' H2, R σ' H2 → D.nx σ' H2) : tIfS tt t u D σ H :=
  w_ifX I h (fun b H' i => by
    cases b with
    | true => rw [if_pos rfl]; exact k1 H' i go
    | false => rw [if_neg Bool.false_ne_true]; exact k2 H' i go)
end
/-! ### bounded width and depth -/
def FlatD (d : PyData) : Prop := (d = .none ∨ (∃ b, d = .bool b) ∨ (∃ i, d = .int i)) ∨ ∃ x, d = .str x ∧ x.length ≤ 1000 ∧ PyData.strOk x = true
def Lim (l : Nat) : Nat → PyData → Prop
  | 0, d => FlatD d
  | n + 1, d => FlatD d ∨ ∃ ds : List PyData, (d = .tuple ds ∨ d = .list ds) ∧ ds.length ≤ l ∧ ∀ e ∈ ds, Lim l n e
theorem Lim.flat {l n : Nat} {d : PyData} (h : FlatD d) : Lim l n d := by
  cases n with
  | zero => exact h
  | succ n => exact .inl h
theorem Lim.wide {l k : Nat} (hl : l ≤ k) : ∀ {n : Nat} {d : PyData}, Lim l n d → Lim k n d
  | 0, _, h => h
  | n + 1, _, h => by
    rcases h with h | ⟨ds, h1, h2, h3⟩
    · exact .inl h
    · exact .inr ⟨ds, h1, Nat.le_trans h2 hl, fun e he => Lim.wide hl (h3 e he)⟩
theorem Lim.succ {l : Nat} : ∀ {n : Nat} {d : PyData}, Lim l n d → Lim l (n + 1) d
  | 0, _, h => .inl h
  | n + 1, _, h => by
    rcases h with h | ⟨ds, h1, h2, h3⟩
    · exact .inl h
    · exact .inr ⟨ds, h1, h2, fun e he => (h3 e he).succ⟩
theorem Lim.mono {l k n m : Nat} {d : PyData} (h : Lim l n d) (hl : l ≤ k) (hn : n ≤ m) : Lim k m d := by
  refine Lim.wide hl ?_
  clear hl
  induction hn with
  | refl => exact h
  | step _ ih => exact ih.succ
theorem Lim.fit {l : Nat} (hl : l ≤ 1000) : ∀ {n : Nat} {d : PyData}, Lim l n d → Fit n d
  | 0, _, h => h
  | n + 1, _, h => by
    rcases h with h | ⟨ds, h1, h2, h3⟩
    · exact .inl h
    · exact .inr ⟨ds, h1, Nat.le_trans h2 hl, fun e he => Lim.fit hl (h3 e he)⟩
theorem Lim.tuple {l n : Nat} {ds : List PyData} (h1 : ds.length ≤ l) (h : ∀ e ∈ ds, Lim l n e) : Lim l (n + 1) (.tuple ds) := .inr ⟨ds, .inl rfl, h1, h⟩
theorem Lim.list {l n : Nat} {ds : List PyData} (h1 : ds.length ≤ l) (h : ∀ e ∈ ds, Lim l n e) : Lim l (n + 1) (.list ds) := .inr ⟨ds, .inr rfl, h1, h⟩
theorem Lim.parts {l n : Nat} {ds : List PyData} (h : Lim l (n + 1) (.tuple ds)) : ds.length ≤ l ∧ ∀ e ∈ ds, Lim l n e := by
  rcases h with ((h | ⟨b, h⟩ | ⟨i, h⟩) | ⟨x, h, _⟩) | ⟨es, h | h, h1, h2⟩
  · cases h
  · cases h
  · cases h
  · cases h
  · cases h
    exact ⟨h1, h2⟩
  · cases h
theorem Lim.no0 {l : Nat} {ds : List PyData} (h : Lim l 0 (.tuple ds)) : False := by
  rcases h with (h | ⟨b, h⟩ | ⟨i, h⟩) | ⟨x, h, _⟩ <;> cases h
def flatB : PyData → Bool
  | .none => true
  | .bool _ => true
  | .int _ => true
  | .str x => decide (x.length ≤ 1000) && PyData.strOk x
  | _ => false
theorem flat_of {d : PyData} (h : flatB d = true) : FlatD d := by
  cases d with
  | none => exact .inl (.inl rfl)
  | bool b => exact .inl (.inr (.inl ⟨b, rfl⟩))
  | int i => exact .inl (.inr (.inr ⟨i, rfl⟩))
  | str x =>
    unfold flatB at h
    rw [Bool.and_eq_true] at h
    exact .inr ⟨x, rfl, of_decide_eq_true h.1, h.2⟩
  | _ => cases h
theorem flat_word {x : Str} (h : isW x = true) : FlatD (.str x) := .inr ⟨x, rfl, Nat.le_trans (isW_len h) (by decide), isW_strOk h⟩
theorem cnt_lim : ∀ {n : Nat} {d : PyData} {m : Nat}, cnt n d = some m → Lim 6 n d
  | 0, _, _, h => by cases h
  | n + 1, d, m, h => by
    have str : ∀ x ∈ (["word", "phrase", "near", "and", "or", "but"] : List Str), FlatD (.str x) := fun x hx => by
      simp only [List.mem_cons, List.not_mem_nil, or_false] at hx
      rcases hx with rfl | rfl | rfl | rfl | rfl | rfl <;> exact flat_of (by decide +kernel)
    cases cnt_inv h with
    | word hw => exact Lim.tuple (by simp) (fun e he => by
        simp only [List.mem_cons, List.not_mem_nil, or_false] at he
        rcases he with rfl | rfl
        · exact Lim.flat (str _ (by simp))
        · exact Lim.flat (flat_word hw))
    | @phrase ws h1 h2 h3 => exact Lim.tuple (by simp; omega) (fun e he => by
        rcases List.mem_cons.mp he with rfl | he
        · exact Lim.flat (str _ (by simp))
        · obtain ⟨w, hw, rfl⟩ := List.mem_map.mp he
          exact Lim.flat (flat_word (h3 w hw)))
    | near h1 h2 h3 h4 => exact Lim.tuple (by simp) (fun e he => by
        simp only [List.mem_cons, List.not_mem_nil, or_false] at he
        rcases he with rfl | rfl | rfl | rfl
        · exact Lim.flat (str _ (by simp))
        · exact Lim.flat (flat_of rfl)
        · exact Lim.flat (flat_word h3)
        · exact Lim.flat (flat_word h4))
    | @join k ps _ a b c =>
      obtain ⟨j1, j2, j3⟩ := join_some c
      refine Lim.tuple (by simp; omega) (fun e he => ?_)
      rcases List.mem_cons.mp he with rfl | he
      · refine Lim.flat (str _ ?_)
        rcases a with rfl | rfl | rfl <;> simp
      · obtain ⟨c', hc'⟩ := j3 e he
        exact cnt_lim hc'
section
variable {K : PySem.W.Frag} {H : Hp} {Q : VK}
/-- t + u, any -/
theorem w_catA {a b : Addr} {xs ys : List V} (ha : H a = some (.tup xs)) (hb : H b = some (.tup ys)) (hl : xs.length + ys.length ≤ 100000) (k : ∀ p H2, Same H H2 → H2 p = some (.tup (xs ++ ys)) → Q (.ref p) H2) : rCatA K (.ref a) (.ref b) H Q :=
  ⟨a, b, xs, ys, rfl, rfl, .of ha, .of hb, Nat.le_trans hl (by decide), fun e => k b H (.refl _) (by rw [e, List.nil_append]; exact hb), fun _ e => k a H (.refl _) (by rw [e, List.append_nil]; exact ha), fun _ _ p n => k p _ (same_new n) upd_same⟩
theorem w_slA {a : Addr} {xs : List V} {lo hi : Option Int} (h : H a = some (.tup xs)) (k : ∀ p H2, Same H H2 → H2 p = some (.tup (cutV xs lo hi)) → Q (.ref p) H2) : rSlA K (.ref a) lo hi H Q := by
  refine ⟨a, xs, rfl, .of h, fun e => k a H (.refl _) ?_, fun _ p n => k p _ (same_new n) upd_same⟩
  rw [h]
  unfold cutV
  rw [e.1, e.2, List.drop_zero, Nat.sub_zero, List.take_length]
/-- t[:i] -/
theorem w_slA1 {a : Addr} {xs : List V} {i : Nat} (h : H a = some (.tup xs)) (hi : i ≤ xs.length) (k : ∀ p H2, Same H H2 → H2 p = some (.tup (xs.take i)) → Q (.ref p) H2) : rSlA K (.ref a) none (some (i : Int)) H Q := w_slA h fun p H2 s h2 => k p H2 s (by rw [h2, cutV_take hi])
/-- t[i:] -/
theorem w_slA2 {a : Addr} {xs : List V} {i : Nat} (h : H a = some (.tup xs)) (hi : i ≤ xs.length) (k : ∀ p H2, Same H H2 → H2 p = some (.tup (xs.drop i)) → Q (.ref p) H2) : rSlA K (.ref a) (some (i : Int)) none H Q := w_slA h fun p H2 s h2 => k p H2 s (by rw [h2, cutV_drop hi])
end
/-- a count as the law tells it -/
def cntI : Option Nat → Int
  | some m => m
  | none => -1
end Bw

/-! tuple[::-1]; zip of two tuples; list += list -/
namespace HT
open PySem PySem.Spec PyProof.Rows L2
section
variable {prog : Program} {w : World} {A : Around} {E : Value → Shared → Prop} {s : Shared}
theorem adjust_rev (n : Nat) : Builtin.Slice.sliceAdjust none none (-1) (n : Int) = ((n : Int) - 1, -1) := by
  unfold Builtin.Slice.sliceAdjust
  simp
theorem places_rev (n : Nat) : Builtin.Slice.slicePlaces ((n : Int) - 1) (-1) (-1) = n := by
  unfold Builtin.Slice.slicePlaces
  simp
  try omega
theorem pick_rev (xs : List Value) : ((List.range xs.length).filterMap fun (m : Nat) => xs.toArray[(((xs.length : Nat) : Int) - 1 + (m : Int) * (-1)).toNat]?) = xs.reverse := by
  have e : ∀ m, m < xs.length → xs.toArray[(((xs.length : Nat) : Int) - 1 + (m : Int) * (-1)).toNat]? = xs.reverse[m]? := fun m hm => by
    have : (((xs.length : Nat) : Int) - 1 + (m : Int) * (-1)).toNat = xs.length - 1 - m := by omega
    rw [this, List.getElem?_reverse hm]
    simp
  have cg : ∀ (l : List Nat) (f g : Nat → Option Value), (∀ m ∈ l, f m = g m) → l.filterMap f = l.filterMap g := fun l f g hfg => by
    induction l with
    | nil => rfl
    | cons x r ih =>
      rw [List.filterMap_cons, List.filterMap_cons, hfg x List.mem_cons_self, ih fun m hm => hfg m (List.mem_cons_of_mem _ hm)]
  rw [cg _ _ (fun m => xs.reverse[m]?) (fun m hm => e m (List.mem_range.mp hm))]
  have : ∀ (l : List Value), (List.range l.length).filterMap (fun m => l[m]?) = l := fun l => by
    induction l with
    | nil => rfl
    | cons a r ih =>
      rw [List.length_cons, List.range_succ_eq_map, List.filterMap_cons]
      simp [List.filterMap_map]
      exact ih
  have h := this xs.reverse
  rw [List.length_reverse] at h
  exact h
theorem sliceApplied_rev {sl : Addr} {vl vu vs : Value} {n : Nat} {Q : Int × Int × Nat → Shared → Prop} (hs : s.heap.IsSliceOf sl vl vu vs) (pl : IsPart vl none) (pu : IsPart vu none) (ps : IsPart vs (some (-1)))
    (h : Q (((n : Int) - 1), -1, n) s) : wpAny (model prog w) A (Builtin.Slice.sliceApplied (.ref sl) (pure (n : Int))) Q E s := by
  obtain ⟨os, hos, hcs, hds⟩ := id hs
  unfold Builtin.Slice.sliceApplied Builtin.Slice.sliceFields
  refine wpAny_bind (wpAny_bind (wpAny_field hos hds (x := vl) rfl (wpAny_bind (wpAny_field hos hds (x := vu) rfl (wpAny_bind (wpAny_field hos hds (x := vs) rfl (wpAny_pure ?_)))))))
  refine wpAny_bind (slicePart_ ps ?_)
  show wpAny _ _ (if ((-1 : Int) == 0) = true then _ else _) _ _ s
  rw [if_neg (by decide)]
  refine wpAny_bind (slicePart_ pl (wpAny_bind (slicePart_ pu (wpAny_bind (wpAny_pure ?_)))))
  show wpAny _ _ (match Builtin.Slice.sliceAdjust none none (-1) (n : Int) with | (lo, hi) => pure (lo, (-1 : Int), Builtin.Slice.slicePlaces lo hi (-1))) _ _ s
  rw [adjust_rev]
  show wpAny _ _ (pure (((n : Int) - 1), (-1 : Int), Builtin.Slice.slicePlaces ((n : Int) - 1) (-1) (-1))) _ _ s
  rw [places_rev]
  exact wpAny_pure h
theorem getItem_tuple_rev {t sl : Addr} {its : List Value} {vl vu vs : Value} {Q : Value → Shared → Prop} (ht : IsTup s.heap t its.toArray) (hs : s.heap.IsSliceOf sl vl vu vs) (pl : IsPart vl none) (pu : IsPart vu none) (ps : IsPart vs (some (-1)))
    (h : Q (.ref s.heap.objs.size) { s with heap := s.heap.push { cls := .type "tuple", data := .seq its.reverse.toArray } })
    (hsz : its.length ≤ sizeLine) : wpAny (model prog w) A (getItem (.ref t) (.ref sl)) Q E s := by
  have htake : sizeOk (.seq its.reverse.toArray) := by
    show its.reverse.toArray.size ≤ sizeLine
    rw [List.size_toArray, List.length_reverse]
    exact hsz
  obtain ⟨os, hos, hcs, hds⟩ := id hs
  have hTs : s.TypeIs (.ref sl) "slice" := ⟨os, hos, hcs⟩
  unfold getItem
  try with_reducible refine wpAny_holding ?_
  first | refine wpAny_bind (wpAny_pure ?_) | skip
  refine wpAny_bind (wpAny_sequenceKey ht.typeIs (by decide) ?_)
  refine wpAny_bind (wpAny_callSpecial?_slot (name := Str.ofString "__getitem__") ht.typeIs PyProof.Rows.slot_tuple_getitem
    (wpAny_call_entry PyProof.Rows.slot_tuple_getitem ht.typeIs entry_tuple_getitem ?_ (args_tuple_getitem _ _)))
  show wpAny _ _ (Builtin.Tuple.tupleItemsOf (.ref t) >>= _) _ _ s
  refine wpAny_bind (tupleItemsOf_ ht ?_)
  refine wpAny_bind (wpAny_typeOf hTs ?_)
  rw [if_pos (by decide)]
  refine wpAny_bind (sliceApplied_rev hs pl pu ps ?_)
  have hno : ¬ ((((its.toArray.size : Nat) : Int) - 1 == 0 && (-1 : Int) == 1 && its.toArray.size == its.toArray.size) = true) := by
    intro q
    rw [Bool.and_eq_true, Bool.and_eq_true] at q
    exact absurd q.1.2 (by decide)
  show wpAny _ _ (if (((its.toArray.size : Nat) : Int) - 1 == 0 && (-1 : Int) == 1 && its.toArray.size == its.toArray.size) = true then _ else _) _ _ s
  have ep : ((List.range its.toArray.size).filterMap fun (m : Nat) => its.toArray[(((its.toArray.size : Nat) : Int) - 1 + (m : Int) * (-1)).toNat]?) = its.reverse := by
    rw [List.size_toArray]
    exact pick_rev its
  rw [if_neg hno, ep]
  first
    | exact wpAny_bind (m := Builtin.Tuple.tupleExact _) (wpAny_newObj_type (wpAny_pure ⟨_, rfl, wpAny_pure h⟩) htake)
    | exact wpAny_bind (m := Builtin.Tuple.tupleExact _) (wpAny_newObj_type (wpAny_bind (wpAny_pure (wpAny_pure ⟨_, rfl, wpAny_pure h⟩))) htake)
    | exact wpAny_bind (wpAny_bind (m := Builtin.Tuple.tupleExact _) (wpAny_newObj_type (wpAny_pure (wpAny_pure ⟨_, rfl, wpAny_pure h⟩)) htake))
    | exact wpAny_bind (wpAny_bind (m := Builtin.Tuple.tupleExact _) (wpAny_newObj_type (wpAny_pure ⟨_, rfl, wpAny_pure h⟩) htake))
end
end HT

namespace L2
open PySem PySem.Spec PyProof.Rows
section
variable {X : Cx}
def tRevT (K : PySem.W.Frag) (te : TE) : TE := fun σ H Q => te σ H fun x H1 => ∃ a xs, x = .ref a ∧ SqT K H1 a xs ∧ ∀ p, H1 p = none → Q (.ref p) (upd H1 p (.tup xs.reverse))
theorem pe_revT {e : Expr} {te : TE} {k : Nat} {p1 p2 p3 pos : Pos} (he : PE X e te) : PE X (.Subscript e (.Slice none none (some (.UnaryOp .USub (.Constant (.int 1) k p1) p2)) p3) pos) (tRevT X.K te) := by
  refine ⟨fun pins s σ H Q I h => ?_⟩
  refine Subscript_ (thn (he.run pins s σ H _ I h) fun v s1 ⟨x, H1, I1, r1, q1⟩ => ?_)
  obtain ⟨a, xs, ex, hx, q⟩ := q1
  subst ex
  cases r1
  have hst : PO X (some (.UnaryOp .USub (.Constant (.int 1) k p1) p2)) (tPart (tUn (rU fun i => .int (-i)) (tC (.int 1)))) := po_some (pe_un un_neg pe_int)
  refine wpAny_Slice (thn (po_none.run pins s1 σ H1 (fun o H2 => o = none ∧ H2 = H1) I1 ⟨rfl, rfl⟩) fun vl s2 ⟨l, H2, I2, pl, el, e2⟩ => ?_)
  subst el e2
  refine thn (po_none.run pins s2 σ H2 (fun o H3 => o = none ∧ H3 = H2) I2 ⟨rfl, rfl⟩) fun vu s3 ⟨u, H3, I3, pu, eu, e3⟩ => ?_
  subst eu e3
  refine thn (hst.run pins s3 σ H3 (fun o H4 => o = some (-1) ∧ H4 = H3) I3 ⟨1, rfl, -1, rfl, rfl, rfl⟩) fun vs s4 ⟨o, H4, I4, ps, eo, e4⟩ => ?_
  subst eo e4
  have I5 : Inv X pins σ H4 { s4 with heap := s4.heap.push { cls := .type "slice", data := .fields #[vl, vu, vs] } } := I4.kept (t' := s4.toks) fun b ob q => Heap.get?_push_of_some _ q
  obtain ⟨its, r, ht, hz⟩ := I5.tuple hx
  have hlen := r.length
  show wpAny (model X.prog X.w) X.A (subscriptTail e (.Slice none none (some (.UnaryOp .USub (.Constant (.int 1) k p1) p2)) p3) (.ref a) (.ref s4.heap.objs.size)) (EP X pins σ Q) X.xe { s4 with heap := s4.heap.push { cls := .type "slice", data := .fields #[vl, vu, vs] } }
  refine tail_any (ops := [.ref a, .ref s4.heap.objs.size]) ht.typeIs (PyProof.Rows.slot_tuple_getitem.lookup) ?_ (by with_unfolding_all rfl)
  refine HT.getItem_tuple_rev ht (Heap.IsSliceOf.new _ vl vu vs) pl pu ps ?_ (by omega)
  refine ⟨.ref _, _, I5.laid (t' := s4.toks) (o := .tup xs.reverse) (fun b ob q => Heap.get?_push_of_some _ q) (Nat.le_refl _) ?_, rfl, q _ (I5.hok.fresh (Nat.le_refl _))⟩
  exact ⟨by rw [List.length_reverse]; exact hz, _, r.reverse, IsTup.new _ _⟩
end
end L2

namespace Bw
open PySem PySem.Spec PyProof.Rows L2 LamX RZ
theorem ip_ext {X : Cx} : PIp X .Add rExt2 := fun pins s σ H x y v u Q I rx ry h => iop_ext pins s σ H x y v u Q I rx ry h
section
variable {K : PySem.W.Frag} {H : Hp} {Q : VK} {σ : L2.St}
theorem w_revTE {te : TE} (h : te σ H fun x H1 => ∃ a xs, x = .ref a ∧ SqT K H1 a xs ∧ ∀ p, H1 p = none → Q (.ref p) (upd H1 p (.tup xs.reverse))) : tRevT K te σ H Q := h
theorem w_revT {a : Addr} {xs : List V} (h : H a = some (.tup xs)) (k : ∀ p H2, H p = none → Same H H2 → H2 p = some (.tup xs.reverse) → Q (.ref p) H2) : ∃ a' xs, V.ref a = .ref a' ∧ SqT K H a' xs ∧ ∀ p, H p = none → Q (.ref p) (upd H p (.tup xs.reverse)) := ⟨a, xs, rfl, .of h, fun p n => k p _ n (same_new n) upd_same⟩
theorem w_ext2 {l b : Addr} {xs zs : List V} (h1 : H l = some (.lst xs)) (h2 : H b = some (.lst zs)) (hl : xs.length + zs.length ≤ 100000) (k : ∀ H2, KB l H H2 → H2 l = some (.lst (xs ++ zs)) → Q (.ref l) H2) : rExt2 (.ref l) (.ref b) H Q := ⟨l, b, xs, zs, rfl, rfl, h1, h2, Nat.le_trans hl (by decide), k _ kb_upd upd_same⟩
theorem w_zipA {ta : TA} {R : It → Hp → Prop} (h : ta σ H fun vs H1 => ∃ a b xs ys, vs = [.ref a, .ref b] ∧ ((SqL K H1 a xs ∧ SqL K H1 b ys ∧ R (Itz K a b) H1) ∨ (SqT K H1 a xs ∧ SqT K H1 b ys ∧ R (ItzT K a b) H1))) : iZipA K ta σ H R := h
theorem fin_zipT {a b : Addr} {xs ys : List V} (n : Nat) (hn : n = min xs.length ys.length) : Fini (ItzT K a b) n (fun H => SqT K H a xs ∧ SqT K H b ys) (fun i v H H' => ∃ T x y, v = .ref T ∧ H T = none ∧ Same H H' ∧ H' T = some (.tup [x, y]) ∧ xs[i]? = some x ∧ ys[i]? = some y) :=
  ⟨fun i H h o => ⟨xs, ys, xs[i]'(by omega), ys[i]'(by omega), o.1, o.2, List.getElem?_eq_getElem _, List.getElem?_eq_getElem _⟩, fun i H v H' h o y => by
    obtain ⟨T, x, z, e, n, e', q, r⟩ := y
    subst e'
    exact ⟨T, x, z, e, n, same_new n, upd_same, q xs o.1, r ys o.2⟩, fun H o => ⟨xs, ys, o.1, o.2, by omega⟩⟩
end
end Bw

/-! xs.clear(); xs[:] = ys; range with a step -/
namespace L2
open PySem PySem.Spec PyProof.Rows
section
variable {prog : Program} {w : World} {A : Around} {E : Value → Shared → Prop} {s : Shared}
theorem bounds_all (n : Nat) : sliceBounds none none none n = ((0 : Int), (n : Int), 1) := by
  simp [sliceBounds]
/-- xs[:] = another list, at the model's level -/
theorem setItem_all {l b sl : Addr} {items new : Array Value} {n n2 : Nat} {Q : Unit → Shared → Prop}
    (e : s.heap.get? l = some { cls := .type "list", data := .seq items n }) (e2 : s.heap.get? b = some { cls := .type "list", data := .seq new n2 }) (hne : l ≠ b)
    (hs : s.heap.IsSliceOf sl .none .none .none) (hsz : items.size + new.size ≤ sizeLine) (h : Q () { s with heap := s.heap.update l (Obj.mapSeq fun xs => xs.extract 0 0 ++ new ++ xs.extract items.size xs.size) }) :
    wpAny (model prog w) A (setItem (.ref l) (.ref sl) (.ref b)) Q E s := by
  have hl : s.heap.IsList l items := PySem.IsL.isList e
  have hb : s.heap.IsList b new := PySem.IsL.isList e2
  obtain ⟨os, hos, hcs, hds⟩ := id hs
  have hTs : s.TypeIs (.ref sl) "slice" := ⟨os, hos, hcs⟩
  have hstep : ¬ ((rawPart none == rawInt 0) = true) := Bool.false_ne_true
  have hsame : Builtin.List.listSameRef (.ref l) (.ref b) = false := by
    unfold Builtin.List.listSameRef
    exact beq_eq_false_iff_ne.mpr hne
  have hmax : (max (0 : Int) (items.size : Int)).toNat = items.size := by omega
  have hz' : ((fun xs : Array Value => xs.extract 0 0 ++ new ++ xs.extract items.size xs.size) items).size ≤ sizeLine + 1 := by
    simp only [Array.size_append, Array.size_extract]
    omega
  unfold setItem
  try with_reducible refine wpAny_holding ?_
  first | refine wpAny_bind (wpAny_pure ?_) | skip
  refine wpAny_bind (wpAny_sequenceKey hl.typeIs (by decide) ?_)
  refine wpAny_bind (wpAny_callSpecial?_slot (name := Str.ofString "__setitem__") hl.typeIs slot_list_setitem
    (wpAny_call_entry slot_list_setitem hl.typeIs entry_list_setitem ?_ (args_list_setitem _ _ _)))
  show wpAny _ _ (Builtin.List.listSubscript? (.ref sl) >>= _) _ _ s
  refine wpAny_bind ?_
  unfold Builtin.List.listSubscript?
  refine wpAny_bind (wpAny_specialOf hTs slice_no_index ?_)
  simp only [Option.isNone_none, if_true]
  refine wpAny_pure ?_
  show wpAny _ _ (typeOf (.ref sl) >>= _) _ _ s
  refine wpAny_bind (wpAny_typeOf hTs ?_)
  first
    | rw [if_neg (by decide)]
    | refine PySem.W.KFB.if_not (by decide) ?_
  rw [listSliceParts_eq]
  refine wpAny_bind (wpAny_bind (wpAny_field hos hds (x := .none) rfl (wpAny_bind (wpAny_listPart .none ?_))))
  rw [if_neg hstep]
  refine wpAny_bind (wpAny_field hos hds (x := .none) rfl (wpAny_bind (wpAny_listPart .none ?_)))
  refine wpAny_bind (wpAny_field hos hds (x := .none) rfl (wpAny_bind (wpAny_listPart .none (wpAny_pure ?_))))
  first
    | simp only [hsame, Bool.false_eq_true, if_false]
    | refine PySem.W.KFB.if_not hsame ?_
    | (dsimp only
       rw [if_neg (by rw [hsame]; exact Bool.false_ne_true)])
  refine wpAny_bind (m := Builtin.List.listAllItems (.ref b) "must assign iterable to extended slice") ?_
  unfold Builtin.List.listAllItems
  refine wpAny_bind (wpAny_typeOf hb.typeIs ?_)
  first
    | refine PySem.W.KFB.if_so (by decide) ?_
    | rw [if_pos (by decide)]
    | simp only [beq_self_eq_true, Bool.true_or, if_true]
  unfold Builtin.List.listItems
  refine wpAny_bind (wpAny_seqItems e2 rfl (wpAny_pure ?_))
  refine wpAny_bind (wpAny_bind (wpAny_seqItems e rfl (wpAny_pure ?_)))
  refine wpAny_bind (wpAny_of_eq ((sliceIndices_raw none none none items.size (by simp)).trans (congrArg (pure : Int × Int × Int → Sem (Int × Int × Int)) (bounds_all items.size))) ?_)
  show wpAny _ _ (if ((1 : Int) == 1) = true then _ else _) _ _ s
  rw [if_pos (by decide)]
  refine wpAny_bind (wpAny_rule ?_)
  first
    | simp only [notLongL hsz, Bool.false_eq_true, if_false]
    | refine PySem.W.KFB.if_not (notLongL hsz) ?_
  first | refine wpAny_bind (wpAny_pure ?_) | skip
  show wpAny _ _ (updateSeq l (fun xs => xs.extract 0 ((0 : Int)).toNat ++ new ++ xs.extract (max (0 : Int) (items.size : Int)).toNat xs.size) >>= _) _ _ s
  rw [hmax]
  refine wpAny_bind (wpAny_updateSeq (hz := Nat.le_trans (Nat.le_add_right _ _) hsz) (_hz' := hz') e rfl ?_)
  refine wpAny_bind (wpAny_letGo ?_)
  first
    | exact wpAny_bind (wpAny_pure (wpAny_pure ⟨.none, rfl, wpAny_pure h⟩))
    | exact wpAny_pure ⟨.none, rfl, wpAny_pure h⟩
end
section
variable {X : Cx}
theorem set_all {pins : List (Addr × Obj)} {s : Shared} {σ : St} {H : Hp} {l b sl : Addr} {xs ys : List V} {Q : Unit → Shared → Prop} (I : Inv X pins σ H s)
    (hH : H l = some (.lst xs)) (hB : H b = some (.lst ys)) (hne : l ≠ b) (hs : s.heap.IsSliceOf sl .none .none .none) (hz : xs.length + ys.length ≤ sizeLine) (h : ∀ s', Inv X pins σ (upd H l (.lst ys)) s' → Q () s') :
    wpAny (model X.prog X.w) X.A (setItem (.ref l) (.ref sl) (.ref b)) Q X.xe s := by
  obtain ⟨z, its, n, r, hl, e⟩ := I.lstM hH
  obtain ⟨z2, its2, n2, r2, hl2, e2⟩ := I.lstM hB
  refine setItem_all e e2 hne hs (by rw [List.size_toArray, List.size_toArray]; omega) (h _ ?_)
  refine I.lset (its' := its2) (t' := s.toks) hH e ?_ r2 (by omega)
  show its.toArray.extract 0 0 ++ its2.toArray ++ its.toArray.extract its.toArray.size its.toArray.size = its2.toArray
  rw [List.size_toArray]
  have := splice_eq its its2 0 its.length
  rw [List.size_toArray] at this
  rw [this]
  simp
def gAll (to : TE) : TG := fun v σ H Q => to σ H fun x H1 => ∃ l b xs ys, x = .ref l ∧ v = .ref b ∧ H1 l = some (.lst xs) ∧ H1 b = some (.lst ys) ∧ l ≠ b ∧ xs.length + ys.length ≤ sizeLine ∧ Q σ (upd H1 l (.lst ys))
theorem pg_all {o : Expr} {to : TE} {p2 pos : Pos} (ho : PE X o to)
    (ha : ∀ v, assign (.Subscript o (.Slice none none none p2) pos) X.env v = (do
      let ov ← holding [v] (eval o X.env)
      let iv ← holding [v, ov] (eval (.Slice none none none p2) X.env)
      standAt pos
      holding [v, ov, iv] (setItem ov iv v)
      release [iv, v, ov] []) := by intro _; rfl) : PG X (.Subscript o (.Slice none none none p2) pos) (gAll to) := by
  refine ⟨fun pins s σ H v u Q I r h => ?_⟩
  rw [ha]
  refine wpAny_bind (wpAny_holding (thn (ho.run pins s σ H _ I h) fun ov s1 ⟨x, H1, I1, r1, q1⟩ => ?_))
  obtain ⟨l, b, xs, ys, rfl, rfl, hl, hb, hne, hz, q⟩ := q1
  cases r1
  cases r
  refine wpAny_bind (wpAny_holding (wpAny_Slice ?_))
  rw [evalPart_none]
  refine wpAny_pure (wpAny_pure (wpAny_pure ?_))
  have I4 : Inv X pins σ H1 { s1 with heap := s1.heap.push { cls := .type "slice", data := .fields #[.none, .none, .none] } } := I1.kept (t' := s1.toks) fun b ob q => Heap.get?_push_of_some _ q
  refine wpAny_bind (wpAny_standAt (wpAny_bind (wpAny_holding (set_all I4 hl hb hne (Heap.IsSliceOf.new ..) hz fun s' I5 => ?_))))
  exact wpAny_release ⟨σ, _, I5, q⟩
end
end L2
namespace Bw
open PySem PySem.Spec PyProof.Rows L2
section
variable {K : PySem.W.Frag} {H : Hp} {Q : VK}
theorem w_clear {l : Addr} {xs : List V} (h : H l = some (.lst xs)) (k : ∀ H2, KB l H H2 → H2 l = some (.lst []) → Q .non H2) : rClear (.ref l) [] H Q := ⟨l, xs, rfl, rfl, h, k _ kb_upd upd_same⟩
theorem fin_rngC {lo c : Int} {n : Nat} : Fini (Itc lo c n) n (fun _ => True) (fun i x H H' => H' = H ∧ x = .int (lo + i * c)) := ⟨fun _ _ h _ => h, fun _ _ _ _ _ _ h => h, fun _ _ => Nat.le_refl _⟩
theorem w_gall {to : TE} {v : V} {σ : L2.St} {R : L2.St → Hp → Prop} (h : to σ H fun x H1 => ∃ l b xs ys, x = .ref l ∧ v = .ref b ∧ H1 l = some (.lst xs) ∧ H1 b = some (.lst ys) ∧ l ≠ b ∧ xs.length + ys.length ≤ sizeLine ∧ R σ (upd H1 l (.lst ys))) : gAll to v σ H R := h
end
/-- how many blocks -/
def cuts (len c : Nat) : Nat := (len + c - 1) / c
theorem rg_small : ∀ len : Nat, len ≤ 60 → ∀ c : Nat, 1 ≤ c → c ≤ 8 → RgC 0 (len : Int) (c : Int) (cuts len c) := by
  have h : ∀ len : Nat, len ≤ 60 → ∀ c : Nat, c ≤ 8 → 1 ≤ c → ((c : Int) ≠ 0 ∧ (c : Int).natAbs < 1073741824 ∧ Builtin.Range.small 0 (len : Int) (c : Int) = true ∧ Builtin.Range.rangeSize 0 (len : Int) (c : Int) = ((cuts len c : Nat) : Int)) := by decide +kernel
  intro len hl c h1 h8
  exact h len hl c h8 h1
end Bw

/-! entries, plainly -/
namespace Bw
open PySem PySem.Spec PyProof.Rows L2 LamX
abbrev Etr := Nat × List Nat
def eD (e : Etr) : PyData := .tuple [.int e.1, .tuple (e.2.map nD)]
/-- whole numbers, rising behind the last one -/
def risD : Int → List PyData → Bool
  | _, [] => true
  | l, .int n :: r => decide (l < n) && risD n r
  | _, _ :: _ => false
def isE : PyData → Bool
  | .tuple [.int s, .tuple ps] => decide (0 ≤ s) && (!ps.isEmpty && risD (-1) ps)
  | _ => false
def slotD : PyData → Int
  | .tuple (.int s :: _) => s
  | _ => 0
/-- the first wrong entry -/
def wrE : Int → Nat → List PyData → Option Nat
  | _, _, [] => none
  | l, k, d :: r => if isE d = true ∧ l < slotD d then wrE (slotD d) (k + 1) r else some k
theorem risD_nats : ∀ {ps : List PyData} {b : Nat}, risD ((b : Int) - 1) ps = true → ∃ ns : List Nat, ps = ns.map nD ∧ CM.Rising b ns
  | [], b, _ => ⟨[], rfl, trivial⟩
  | d :: r, b, h => by
    cases d with
    | int n =>
      unfold risD at h
      rw [Bool.and_eq_true] at h
      have h1 := of_decide_eq_true h.1
      obtain ⟨m, rfl⟩ : ∃ m : Nat, n = (m : Int) := ⟨n.toNat, by omega⟩
      obtain ⟨ns, e, hr⟩ := risD_nats (b := m + 1) (by rw [show (((m + 1 : Nat) : Int) - 1) = (m : Int) by omega]; exact h.2)
      exact ⟨m :: ns, by rw [e]; rfl, ⟨by omega, hr⟩⟩
    | _ => cases h
theorem nats_risD : ∀ {ns : List Nat} {b : Nat}, CM.Rising b ns → risD ((b : Int) - 1) (ns.map nD) = true
  | [], _, _ => rfl
  | n :: r, b, h => by
    obtain ⟨h1, h2⟩ := h
    have := nats_risD h2
    rw [List.map_cons]
    show (decide (((b : Int) - 1) < (n : Int)) && risD (n : Int) (r.map nD)) = true
    rw [show (((n + 1 : Nat) : Int) - 1) = (n : Int) by omega] at this
    rw [this, decide_eq_true (by omega)]
    rfl
theorem isE_of {d : PyData} (h : isE d = true) : ∃ e : Etr, d = eD e ∧ e.2 ≠ [] ∧ CM.Rising 0 e.2 := by
  unfold isE at h
  split at h
  · rename_i s ps
    rw [Bool.and_eq_true, Bool.and_eq_true] at h
    have h1 := of_decide_eq_true h.1
    obtain ⟨ns, rfl, hr⟩ := risD_nats (b := 0) h.2.2
    obtain ⟨m, rfl⟩ : ∃ m : Nat, s = (m : Int) := ⟨s.toNat, by omega⟩
    refine ⟨(m, ns), rfl, fun z => ?_, hr⟩
    have h2 := h.2.1
    rw [show ns = [] from z] at h2
    cases h2
  · cases h
theorem eD_isE {e : Etr} (h1 : e.2 ≠ []) (h2 : CM.Rising 0 e.2) : isE (eD e) = true := by
  show (decide ((0 : Int) ≤ (e.1 : Int)) && ((!(e.2.map nD).isEmpty) && risD (-1) (e.2.map nD))) = true
  have := nats_risD h2
  rw [show (((0 : Nat) : Int) - 1) = -1 by rfl] at this
  rw [this, decide_eq_true (by omega)]
  cases he : e.2 with
  | nil => exact absurd he h1
  | cons _ _ => rfl
def EntOk (b : Nat) (es : List Etr) : Prop := CM.Rising b (es.map (·.1)) ∧ ∀ e ∈ es, e.2 ≠ [] ∧ CM.Rising 0 e.2
theorem wrE_none : ∀ {ds : List PyData} {b k : Nat}, wrE ((b : Int) - 1) k ds = none → ∃ es : List Etr, ds = es.map eD ∧ EntOk b es
  | [], b, k, _ => ⟨[], rfl, trivial, fun e he => absurd he (by simp)⟩
  | d :: r, b, k, h => by
    unfold wrE at h
    split at h
    · rename_i hc
      obtain ⟨e, rfl, h1, h2⟩ := isE_of hc.1
      have hs : slotD (eD e) = (e.1 : Int) := rfl
      rw [hs] at h
      obtain ⟨es, rfl, h3, h4⟩ := wrE_none (b := e.1 + 1) (by rw [show (((e.1 + 1 : Nat) : Int) - 1) = (e.1 : Int) by omega]; exact h)
      have hb : b ≤ e.1 := by have := hc.2; rw [hs] at this; omega
      refine ⟨e :: es, rfl, ⟨hb, h3⟩, fun e' he => ?_⟩
      rcases List.mem_cons.mp he with rfl | he
      · exact ⟨h1, h2⟩
      · exact h4 e' he
    · cases h
theorem none_wrE : ∀ {es : List Etr} {b k : Nat}, EntOk b es → wrE ((b : Int) - 1) k (es.map eD) = none
  | [], _, _, _ => rfl
  | e :: r, b, k, h => by
    obtain ⟨⟨h1, h2⟩, h3⟩ := h
    obtain ⟨h4, h5⟩ := h3 e List.mem_cons_self
    rw [List.map_cons]
    unfold wrE
    have hs : slotD (eD e) = (e.1 : Int) := rfl
    have h1' : b ≤ e.1 := h1
    rw [hs, if_pos ⟨eD_isE h4 h5, by omega⟩]
    have := none_wrE (k := k + 1) (b := e.1 + 1) (es := r) ⟨h2, fun e' he => h3 e' (List.mem_cons_of_mem _ he)⟩
    rw [show (((e.1 + 1 : Nat) : Int) - 1) = (e.1 : Int) by omega] at this
    exact this
theorem wrE_some : ∀ {ds : List PyData} {l : Int} {k j : Nat}, wrE l k ds = some j → k ≤ j ∧ j < k + ds.length
  | [], _, _, _, h => by cases h
  | d :: r, l, k, j, h => by
    unfold wrE at h
    split at h
    · have := wrE_some h
      simp
      omega
    · cases h
      simp
/-- the numbers of entries -/
def numsT (es : List Etr) : List Nat := (es.map fun e => (e.2.length - 1) :: CM.gapsN 0 e.2).flatten
def numsE (es : List Etr) : List Nat := es.length :: (CM.gapsN 0 (es.map (·.1)) ++ numsT es)
theorem numsT_snoc {es : List Etr} {e : Etr} : numsT (es ++ [e]) = numsT es ++ ((e.2.length - 1) :: CM.gapsN 0 e.2) := by
  unfold numsT
  simp
end Bw

/-! what lies within N stays; classes made by places and keywords -/
namespace Bw
open PySem PySem.Spec PyProof.Rows L2
def KN (N : Addr → Prop) (H H' : Hp) : Prop := ∀ c o, H c = some o → N c → H' c = some o
section
variable {N : Addr → Prop} {H H' : Hp}
theorem KN.refl : KN N H H := fun _ _ h _ => h
theorem KN.trans {H2 : Hp} (a : KN N H H') (b : KN N H' H2) : KN N H H2 := fun c o h n => b c o (a c o h n) n
theorem KN.of (s : Same H H') : KN N H H' := fun c o h _ => s c o h
theorem KN.kb {p : Addr} (hp : ¬ N p) (k : KB p H H') : KN N H H' := fun c o h n => k c o h (fun z => hp (z ▸ n))
theorem KN.less {M : Addr → Prop} (i : ∀ c, M c → N c) (k : KN N H H') : KN M H H' := fun c o h n => k c o h (i c n)
end
structure MkrK (P : Program) (w : World) (K : PySem.W.Frag) (mg : Str → Option Value) (base : Heap) (x : Str) (C : Addr) (k : Nat) (ps : List Str) (n : Nat) (ks : List Str) (gV : List V → List V → List V) (sp : Sp) : Prop where
  ex : ∃ (f : Addr) (fd : FuncData) (g : List Value → List Value → List Value), Mk K C f ∧ FnOk P w K mg base CX0 k f fd ps sp ∧ mg x = some (.ref C) ∧ KBn K fd ps (n + 1) ks g gV
section
variable {X : Cx}
theorem pe_mkk {x : Str} {C : Addr} {k n : Nat} {ps ks : List Str} {gV : List V → List V → List V} {sp : Sp} {e : Expr} {es : List Expr} {kws : List Keyword} {t tk : TA} {p pos : Pos} (M : MkrK X.prog X.w X.K X.mg X.base x C k ps n ks gV sp) (hr : Room (k + 1) X.A) (hg : Gl X x) (ha : PA X (e :: es) t) (hkw : PK X kws tk)
    (hall : (backToKw pos (keywordEach kws X.env)).all (·.1.isSome) = true := by rfl) (hks : (backToKw pos (keywordEach kws X.env)).filterMap (·.1) = ks := by rfl) (hdb : (x == ("__debug__" : Str)) = false := by decide)
    (he : starEach (e :: es) X.env = (false, eval e X.env) :: starEach es X.env := by rfl) (hpl : ((backTo pos (starEach (e :: es) X.env)).any (·.1) || (backToKw pos (keywordEach kws X.env)).any (·.1.isNone)) = false := by rfl) :
    PE X (.Call (.Name x p) (e :: es) kws pos) (tMakeK C n ks.length sp gV E0 t tk) := by
  obtain ⟨f, fd, g, M, G, hm, hb⟩ := M.ex
  exact pe_makeK M G hr hg hm hb pass0 ha hkw hall hks hdb he hpl
end
section
variable {σ : L2.St} {H : Hp} {Q : VK}
theorem w_makeK {C : Addr} {n m : Nat} {sp : Sp} {gV : List V → List V → List V} {E : XK} {t tk : TA} (h : t σ H fun vs H1 => tk σ H1 fun zs H2 => vs.length = n ∧ zs.length = m ∧ ∀ x dx, H2 x = none → H2 dx = none → dx ≠ x →
  sp (gV (.ref x :: vs) zs) (upd (upd H2 dx (.own x)) x (.ins C dx [])) (fun v H3 => v = .non ∧ Q (.ref x) H3) E) : tMakeK C n m sp gV E t tk σ H Q := h
theorem w_iRng3 {ta : TA} {R : It → Hp → Prop} (h : ta σ H fun vs H1 => ∃ (i j c : Int) (n : Nat), vs = [.int i, .int j, .int c] ∧ RgC i j c n ∧ R (Itc i c n) H1) : iRng3 ta σ H R := h
theorem w_makeR {C : Addr} {sp : Sp} {vs : List V} {E : XK} {H1 : Hp} (k : ∀ r d H2, H1 r = none → Same H1 H2 → H2 r = some (.ins C d []) → (∀ c, H2 c = none → H1 c = none) → sp (.ref r :: vs) H2 (fun v H3 => v = .non ∧ Q (.ref r) H3) E) :
    ∀ x dx, H1 x = none → H1 dx = none → dx ≠ x → sp (.ref x :: vs) (upd (upd H1 dx (.own x)) x (.ins C dx [])) (fun v H2 => v = .non ∧ Q (.ref x) H2) E := fun x dx nx nd _ =>
  k x dx _ nx (same_make nx nd rfl) (at_gen rfl) (fun c h => by
    cases hq : H1 c with
    | none => rfl
    | some o =>
      have := same_make (o := .ins C dx []) (u := .own x) nx nd rfl c o hq
      rw [h] at this
      cases this)
end
end Bw

/-! dicts by whole numbers; two targets; changes at two places -/
namespace Bw
open PySem PySem.Spec PyProof.Rows L2
abbrev kI (n : Nat) : Key := Sum.inl (n : Int)
def rLenD : List V → Hp → VK → Prop := fun xs H Q => ∃ a kvs, xs = [V.ref a] ∧ H a = some (.dK kvs) ∧ Q (.int kvs.length) H
theorem cl_lenD {X : Cx} : CallR X (.builtin "len") rLenD := call_lenD
section
variable {σ : L2.St} {H : Hp} {Q : VK} {D : Ends}
theorem w_lenD {a : Addr} {kvs : List (Key × V)} (h : H a = some (.dK kvs)) (q : Q (.int kvs.length) H) : rLenD [.ref a] H Q := ⟨a, kvs, rfl, h, q⟩
theorem w_dgetE {td ty : TE} (h : td σ H fun x H1 => ty σ H1 fun y H2 => ∃ a v, x = .ref a ∧ DGet H2 a y (some v) ∧ Q v H2) : tDGet td ty σ H Q := h
theorem w_dget {a : Addr} {kvs : List (Key × V)} {n : Nat} {v : V} {R : V → Prop} (h : H a = some (.dK kvs)) (hv : valV kvs (kI n) = some v) (q : R v) : ∃ a' v, V.ref a = .ref a' ∧ DGet H a' (.int (n : Int)) (some v) ∧ R v := ⟨a, v, rfl, hv ▸ DGet.k (k := kI n) h, q⟩
theorem w_dnotE {td ty : TE} (h : ty σ H fun y H1 => td σ H1 fun x H2 => ∃ a o, x = .ref a ∧ DGet H2 a y o ∧ Q (.bl (!o.isSome)) H2) : tDNotIn ty td σ H Q := h
theorem w_dnot {a : Addr} {kvs : List (Key × V)} {n : Nat} {R : Option V → Prop} (h : H a = some (.dK kvs)) (q : R (valV kvs (kI n))) : ∃ a' o, V.ref a = .ref a' ∧ DGet H a' (.int (n : Int)) o ∧ R o := ⟨a, _, rfl, DGet.k (k := kI n) h, q⟩
theorem w_dputE {td ty tv : TE} (h : tv σ H fun v H1 => td σ H1 fun x H2 => ty σ H2 fun y H3 => ∃ a H4, x = .ref a ∧ DPut H3 a y v H4 ∧ D.nx σ H4) : sDPut td ty tv D σ H := h
theorem w_dput {a : Addr} {kvs : List (Key × V)} {n : Nat} {v : V} {R : Hp → Prop} (h : H a = some (.dK kvs)) (hl : kvs.length ≤ 100000) (k : ∀ H2, KB a H H2 → H2 a = some (.dK (putK kvs (kI n) v)) → R H2) : ∃ a' H4, V.ref a = .ref a' ∧ DPut H a' (.int (n : Int)) v H4 ∧ R H4 :=
  ⟨a, _, rfl, DPut.k (k := kI n) h (Nat.lt_of_le_of_lt hl (by decide)), k _ kb_upd upd_same⟩
theorem w_asg2 {te : TE} {g1 g2 : TG} (h : te σ H fun x H1 => g1 x σ H1 fun σ2 H2 => g2 x σ2 H2 D.nx) : tAsg2 te g1 g2 D σ H := h
end
/-- all but two stays -/
def KW (r d : Addr) (H H' : Hp) : Prop := ∀ c o, H c = some o → c ≠ r → c ≠ d → H' c = some o
section
variable {r d : Addr} {H H' : Hp}
theorem KW.refl : KW r d H H := fun _ _ h _ _ => h
theorem KW.trans {H2 : Hp} (a : KW r d H H') (b : KW r d H' H2) : KW r d H H2 := fun c o h n m => b c o (a c o h n m) n m
theorem KW.of (s : Same H H') : KW r d H H' := fun c o h _ _ => s c o h
theorem KW.kb (k : KB r H H') : KW r d H H' := fun c o h n _ => k c o h n
theorem KW.kb2 (k : KB d H H') : KW r d H H' := fun c o h _ m => k c o h m
theorem KW.same {H0 : Hp} (k : KW r d H H') (s : Same H0 H) (n : H0 r = none) (m : H0 d = none) : Same H0 H' := fun c o h => k c o (s c o h) (fun z => by rw [z, n] at h; cases h) (fun z => by rw [z, m] at h; cases h)
theorem KW.kn {N : Addr → Prop} (k : KW r d H H') (n : ¬ N r) (m : ¬ N d) : KN N H H' := fun c o h z => k c o h (fun e => n (e ▸ z)) (fun e => m (e ▸ z))
end
end Bw
namespace Bw
open PySem PySem.Spec PyProof.Rows L2
theorem w_itR {b : Bool} {A : Prop} {D : Ends} {σ : L2.St} {H : Hp} (Inv : L2.St → Hp → Prop) (h2 : b = false → Inv σ H) (h1 : (∀ σ H, Inv σ H → D.nx σ H) → b = true → A) (hi : ∀ σ H, Inv σ H → D.nx σ H) : if b = true then A else tNext D σ H := by
  cases b with
  | false => exact hi _ _ (h2 rfl)
  | true => exact h1 hi rfl
end Bw

/-! the steps through a reading, found by their goal -/
namespace Bw
open PySem PySem.Spec L2
class Stp (g : Prop) (n : outParam Prop) : Prop where
  pf : n → g
instance st_w_seq : type_of% (fun {x0 x1 x2 x3 x4} => Stp.mk (@Bw.w_seq x0 x1 x2 x3 x4)) := fun {x0 x1 x2 x3 x4} => Stp.mk (@Bw.w_seq x0 x1 x2 x3 x4)
instance st_w_next : type_of% (fun {x0 x1 x2} => Stp.mk (@Bw.w_next x0 x1 x2)) := fun {x0 x1 x2} => Stp.mk (@Bw.w_next x0 x1 x2)
instance st_w_set : type_of% (fun {x0 x1 x2 x3 x4} => Stp.mk (@Bw.w_set x0 x1 x2 x3 x4)) := fun {x0 x1 x2 x3 x4} => Stp.mk (@Bw.w_set x0 x1 x2 x3 x4)
instance st_w_asg : type_of% (fun {x0 x1 x2 x3 x4} => Stp.mk (@Bw.w_asg x0 x1 x2 x3 x4)) := fun {x0 x1 x2 x3 x4} => Stp.mk (@Bw.w_asg x0 x1 x2 x3 x4)
instance st_w_par : type_of% (fun {x0 x1 x2 x3 x4 x5} => Stp.mk (@Bw.w_par x0 x1 x2 x3 x4 x5)) := fun {x0 x1 x2 x3 x4 x5} => Stp.mk (@Bw.w_par x0 x1 x2 x3 x4 x5)
instance st_w_ret : type_of% (fun {x0 x1 x2 x3} => Stp.mk (@Bw.w_ret x0 x1 x2 x3)) := fun {x0 x1 x2 x3} => Stp.mk (@Bw.w_ret x0 x1 x2 x3)
instance st_w_drop : type_of% (fun {x0 x1 x2 x3} => Stp.mk (@Bw.w_drop x0 x1 x2 x3)) := fun {x0 x1 x2 x3} => Stp.mk (@Bw.w_drop x0 x1 x2 x3)
instance st_w_if : type_of% (fun {x0 x1 x2 x3 x4 x5} => Stp.mk (@Bw.w_if x0 x1 x2 x3 x4 x5)) := fun {x0 x1 x2 x3 x4 x5} => Stp.mk (@Bw.w_if x0 x1 x2 x3 x4 x5)
instance st_w_ifE : type_of% (fun {x0 x1 x2 x3 x4 x5} => Stp.mk (@Bw.w_ifE x0 x1 x2 x3 x4 x5)) := fun {x0 x1 x2 x3 x4 x5} => Stp.mk (@Bw.w_ifE x0 x1 x2 x3 x4 x5)
instance st_w_c : type_of% (fun {x0 x1 x2 x3} => Stp.mk (@Bw.w_c x0 x1 x2 x3)) := fun {x0 x1 x2 x3} => Stp.mk (@Bw.w_c x0 x1 x2 x3)
instance st_w_op : type_of% (fun {x0 x1 x2 x3 x4 x5} => Stp.mk (@Bw.w_op x0 x1 x2 x3 x4 x5)) := fun {x0 x1 x2 x3 x4 x5} => Stp.mk (@Bw.w_op x0 x1 x2 x3 x4 x5)
instance st_w_un : type_of% (fun {x0 x1 x2 x3 x4} => Stp.mk (@Bw.w_un x0 x1 x2 x3 x4)) := fun {x0 x1 x2 x3 x4} => Stp.mk (@Bw.w_un x0 x1 x2 x3 x4)
instance st_w_I0 : type_of% (fun {x0 x1 x2 x3 x4} => Stp.mk (@Bw.w_I0 x0 x1 x2 x3 x4)) := fun {x0 x1 x2 x3 x4} => Stp.mk (@Bw.w_I0 x0 x1 x2 x3 x4)
instance st_w_U : type_of% (fun {x0 x1 x2 x3} => Stp.mk (@Bw.w_U x0 x1 x2 x3)) := fun {x0 x1 x2 x3} => Stp.mk (@Bw.w_U x0 x1 x2 x3)
instance st_w_pow10_5 : type_of% (fun {x0 x1} => Stp.mk (@Bw.w_pow10_5 x0 x1)) := fun {x0 x1} => Stp.mk (@Bw.w_pow10_5 x0 x1)
instance st_w_pow10_8 : type_of% (fun {x0 x1} => Stp.mk (@Bw.w_pow10_8 x0 x1)) := fun {x0 x1} => Stp.mk (@Bw.w_pow10_8 x0 x1)
instance st_w_pow10_9 : type_of% (fun {x0 x1} => Stp.mk (@Bw.w_pow10_9 x0 x1)) := fun {x0 x1} => Stp.mk (@Bw.w_pow10_9 x0 x1)
instance st_w_pow10_10 : type_of% (fun {x0 x1} => Stp.mk (@Bw.w_pow10_10 x0 x1)) := fun {x0 x1} => Stp.mk (@Bw.w_pow10_10 x0 x1)
instance st_w_pow10_11 : type_of% (fun {x0 x1} => Stp.mk (@Bw.w_pow10_11 x0 x1)) := fun {x0 x1} => Stp.mk (@Bw.w_pow10_11 x0 x1)
instance st_w_pow10_12 : type_of% (fun {x0 x1} => Stp.mk (@Bw.w_pow10_12 x0 x1)) := fun {x0 x1} => Stp.mk (@Bw.w_pow10_12 x0 x1)
instance st_w_pow10_18 : type_of% (fun {x0 x1} => Stp.mk (@Bw.w_pow10_18 x0 x1)) := fun {x0 x1} => Stp.mk (@Bw.w_pow10_18 x0 x1)
instance st_w_is0 : type_of% (fun {x0 x1 x2} => Stp.mk (@Bw.w_is0 x0 x1 x2)) := fun {x0 x1 x2} => Stp.mk (@Bw.w_is0 x0 x1 x2)
instance st_w_isnot0 : type_of% (fun {x0 x1 x2} => Stp.mk (@Bw.w_isnot0 x0 x1 x2)) := fun {x0 x1 x2} => Stp.mk (@Bw.w_isnot0 x0 x1 x2)
instance st_w_test : type_of% (fun {x0 x1 x2 x3} => Stp.mk (@Bw.w_test x0 x1 x2 x3)) := fun {x0 x1 x2 x3} => Stp.mk (@Bw.w_test x0 x1 x2 x3)
instance st_w_tB : type_of% (fun {x0 x1 x2 x3} => Stp.mk (@Bw.w_tB x0 x1 x2 x3)) := fun {x0 x1 x2 x3} => Stp.mk (@Bw.w_tB x0 x1 x2 x3)
instance st_w_bl : type_of% (fun {x0 x1} => Stp.mk (@Bw.w_bl x0 x1)) := fun {x0 x1} => Stp.mk (@Bw.w_bl x0 x1)
instance st_w_bmL : type_of% (fun {x0 x1 x2 x3 x4 x5 x6 x7} => Stp.mk (@Bw.w_bmL x0 x1 x2 x3 x4 x5 x6 x7)) := fun {x0 x1 x2 x3 x4 x5 x6 x7} => Stp.mk (@Bw.w_bmL x0 x1 x2 x3 x4 x5 x6 x7)
instance st_w_bm0 : type_of% (fun {x0 x1 x2 x3 x4 x5 x6} => Stp.mk (@Bw.w_bm0 x0 x1 x2 x3 x4 x5 x6)) := fun {x0 x1 x2 x3 x4 x5 x6} => Stp.mk (@Bw.w_bm0 x0 x1 x2 x3 x4 x5 x6)
instance st_w_callP : type_of% (fun {x0 x1 x2 x3 x4 x5 x6 x7} => Stp.mk (@Bw.w_callP x0 x1 x2 x3 x4 x5 x6 x7)) := fun {x0 x1 x2 x3 x4 x5 x6 x7} => Stp.mk (@Bw.w_callP x0 x1 x2 x3 x4 x5 x6 x7)
instance st_w_lcE : type_of% (fun {x0 x1 x2 x3 x4 x5 x6 x7} => Stp.mk (@Bw.w_lcE x0 x1 x2 x3 x4 x5 x6 x7)) := fun {x0 x1 x2 x3 x4 x5 x6 x7} => Stp.mk (@Bw.w_lcE x0 x1 x2 x3 x4 x5 x6 x7)
instance st_w_lc2E : type_of% (fun {x0 x1 x2 x3 x4 x5 x6 x7 x8 x9 x10 x11} => Stp.mk (@Bw.w_lc2E x0 x1 x2 x3 x4 x5 x6 x7 x8 x9 x10 x11)) := fun {x0 x1 x2 x3 x4 x5 x6 x7 x8 x9 x10 x11} => Stp.mk (@Bw.w_lc2E x0 x1 x2 x3 x4 x5 x6 x7 x8 x9 x10 x11)
instance st_w_iStr : type_of% (fun {x0 x1 x2 x3} => Stp.mk (@Bw.w_iStr x0 x1 x2 x3)) := fun {x0 x1 x2 x3} => Stp.mk (@Bw.w_iStr x0 x1 x2 x3)
instance st_w_strE : type_of% (fun {x0 x1} => Stp.mk (@Bw.w_strE x0 x1)) := fun {x0 x1} => Stp.mk (@Bw.w_strE x0 x1)
instance st_w_iEnum : type_of% (fun {x0 x1 x2 x3 x4} => Stp.mk (@Bw.w_iEnum x0 x1 x2 x3 x4)) := fun {x0 x1 x2 x3 x4} => Stp.mk (@Bw.w_iEnum x0 x1 x2 x3 x4)
instance st_w_yes : type_of% (fun {x0 x1 x2} => Stp.mk (@Bw.w_yes x0 x1 x2)) := fun {x0 x1 x2} => Stp.mk (@Bw.w_yes x0 x1 x2)
instance st_w_m1 : type_of% (fun {x0 x1 x2 x3 x4 x5} => Stp.mk (@Bw.w_m1 x0 x1 x2 x3 x4 x5)) := fun {x0 x1 x2 x3 x4 x5} => Stp.mk (@Bw.w_m1 x0 x1 x2 x3 x4 x5)
instance st_w_sl : type_of% (fun {x0 x1 x2 x3 x4 x5 x6} => Stp.mk (@Bw.w_sl x0 x1 x2 x3 x4 x5 x6)) := fun {x0 x1 x2 x3 x4 x5 x6} => Stp.mk (@Bw.w_sl x0 x1 x2 x3 x4 x5 x6)
instance st_w_noPart : type_of% (fun {x0 x1 x2} => Stp.mk (@Bw.w_noPart x0 x1 x2)) := fun {x0 x1 x2} => Stp.mk (@Bw.w_noPart x0 x1 x2)
instance st_w_part : type_of% (fun {x0 x1 x2 x3} => Stp.mk (@Bw.w_part x0 x1 x2 x3)) := fun {x0 x1 x2 x3} => Stp.mk (@Bw.w_part x0 x1 x2 x3)
instance st_w_intE : type_of% (fun {x0 x1} => Stp.mk (@Bw.w_intE x0 x1)) := fun {x0 x1} => Stp.mk (@Bw.w_intE x0 x1)
instance st_w_m0 : type_of% (fun {x0 x1 x2 x3 x4} => Stp.mk (@Bw.w_m0 x0 x1 x2 x3 x4)) := fun {x0 x1 x2 x3 x4} => Stp.mk (@Bw.w_m0 x0 x1 x2 x3 x4)
instance st_w_isS : type_of% (fun {x0 x1} => Stp.mk (@Bw.w_isS x0 x1)) := fun {x0 x1} => Stp.mk (@Bw.w_isS x0 x1)
instance st_w_inS : type_of% (fun {x0 x1 x2 x3} => Stp.mk (@Bw.w_inS x0 x1 x2 x3)) := fun {x0 x1 x2 x3} => Stp.mk (@Bw.w_inS x0 x1 x2 x3)
instance st_w_notInS : type_of% (fun {x0 x1 x2 x3} => Stp.mk (@Bw.w_notInS x0 x1 x2 x3)) := fun {x0 x1 x2 x3} => Stp.mk (@Bw.w_notInS x0 x1 x2 x3)
instance st_w_xmk : type_of% (fun {x0 x1 x2 x3 x4 x5 x6} => Stp.mk (@Bw.w_xmk x0 x1 x2 x3 x4 x5 x6)) := fun {x0 x1 x2 x3 x4 x5 x6} => Stp.mk (@Bw.w_xmk x0 x1 x2 x3 x4 x5 x6)
instance st_w_xv : type_of% (fun {x0 x1} => Stp.mk (@Bw.w_xv x0 x1)) := fun {x0 x1} => Stp.mk (@Bw.w_xv x0 x1)
instance st_w_xv0 : type_of% (fun {x0 x1} => Stp.mk (@Bw.w_xv0 x0 x1)) := fun {x0 x1} => Stp.mk (@Bw.w_xv0 x0 x1)
instance st_w_ipI : type_of% (fun {x0 x1 x2 x3 x4} => Stp.mk (@Bw.w_ipI x0 x1 x2 x3 x4)) := fun {x0 x1 x2 x3 x4} => Stp.mk (@Bw.w_ipI x0 x1 x2 x3 x4)
instance st_w_rAdd : type_of% (fun {x0 x1 x2 x3} => Stp.mk (@Bw.w_rAdd x0 x1 x2 x3)) := fun {x0 x1 x2 x3} => Stp.mk (@Bw.w_rAdd x0 x1 x2 x3)
instance st_w_faug : type_of% (fun {x0 x1 x2 x3 x4 x5 x6 x7} => Stp.mk (@Bw.w_faug x0 x1 x2 x3 x4 x5 x6 x7)) := fun {x0 x1 x2 x3 x4 x5 x6 x7} => Stp.mk (@Bw.w_faug x0 x1 x2 x3 x4 x5 x6 x7)
instance st_w_xfE : type_of% (fun {x0 x1 x2 x3 x4 x5 x6 x7 x8} => Stp.mk (@Bw.w_xfE x0 x1 x2 x3 x4 x5 x6 x7 x8)) := fun {x0 x1 x2 x3 x4 x5 x6 x7 x8} => Stp.mk (@Bw.w_xfE x0 x1 x2 x3 x4 x5 x6 x7 x8)
instance st_w_fmtE : type_of% (fun {x0 x1 x2 x3} => Stp.mk (@Bw.w_fmtE x0 x1 x2 x3)) := fun {x0 x1 x2 x3} => Stp.mk (@Bw.w_fmtE x0 x1 x2 x3)
instance st_w_joinE : type_of% (fun {x0 x1 x2 x3} => Stp.mk (@Bw.w_joinE x0 x1 x2 x3)) := fun {x0 x1 x2 x3} => Stp.mk (@Bw.w_joinE x0 x1 x2 x3)
instance st_w_js : type_of% (fun {x0 x1 x2 x3 x4 x5} => Stp.mk (@Bw.w_js x0 x1 x2 x3 x4 x5)) := fun {x0 x1 x2 x3 x4 x5} => Stp.mk (@Bw.w_js x0 x1 x2 x3 x4 x5)
instance st_w_jn : type_of% (fun {x0 x1 x2 x3} => Stp.mk (@Bw.w_jn x0 x1 x2 x3)) := fun {x0 x1 x2 x3} => Stp.mk (@Bw.w_jn x0 x1 x2 x3)
instance st_w_isB : type_of% (fun {x0 x1 x2 x3} => Stp.mk (@Bw.w_isB x0 x1 x2 x3)) := fun {x0 x1 x2 x3} => Stp.mk (@Bw.w_isB x0 x1 x2 x3)
instance st_w_isnB : type_of% (fun {x0 x1 x2 x3} => Stp.mk (@Bw.w_isnB x0 x1 x2 x3)) := fun {x0 x1 x2 x3} => Stp.mk (@Bw.w_isnB x0 x1 x2 x3)
instance st_w_and : type_of% (fun {x0 x1 x2 x3 x4} => Stp.mk (@Bw.w_and x0 x1 x2 x3 x4)) := fun {x0 x1 x2 x3 x4} => Stp.mk (@Bw.w_and x0 x1 x2 x3 x4)
instance st_w_or : type_of% (fun {x0 x1 x2 x3 x4} => Stp.mk (@Bw.w_or x0 x1 x2 x3 x4)) := fun {x0 x1 x2 x3 x4} => Stp.mk (@Bw.w_or x0 x1 x2 x3 x4)
instance st_w_not : type_of% (fun {x0 x1 x2 x3} => Stp.mk (@Bw.w_not x0 x1 x2 x3)) := fun {x0 x1 x2 x3} => Stp.mk (@Bw.w_not x0 x1 x2 x3)
instance st_w_andV : type_of% (fun {x0 x1 x2 x3 x4} => Stp.mk (@Bw.w_andV x0 x1 x2 x3 x4)) := fun {x0 x1 x2 x3 x4} => Stp.mk (@Bw.w_andV x0 x1 x2 x3 x4)
instance st_w_orV : type_of% (fun {x0 x1 x2 x3 x4} => Stp.mk (@Bw.w_orV x0 x1 x2 x3 x4)) := fun {x0 x1 x2 x3 x4} => Stp.mk (@Bw.w_orV x0 x1 x2 x3 x4)
instance st_w_notV : type_of% (fun {x0 x1 x2 x3} => Stp.mk (@Bw.w_notV x0 x1 x2 x3)) := fun {x0 x1 x2 x3} => Stp.mk (@Bw.w_notV x0 x1 x2 x3)
instance st_w_chain : type_of% (fun {x0 x1 x2 x3 x4 x5 x6 x7} => Stp.mk (@Bw.w_chain x0 x1 x2 x3 x4 x5 x6 x7)) := fun {x0 x1 x2 x3 x4 x5 x6 x7} => Stp.mk (@Bw.w_chain x0 x1 x2 x3 x4 x5 x6 x7)
instance st_w_cons : type_of% (fun {x0 x1 x2 x3 x4} => Stp.mk (@Bw.w_cons x0 x1 x2 x3 x4)) := fun {x0 x1 x2 x3 x4} => Stp.mk (@Bw.w_cons x0 x1 x2 x3 x4)
instance st_w_nil : type_of% (fun {x0 x1 x2} => Stp.mk (@Bw.w_nil x0 x1 x2)) := fun {x0 x1 x2} => Stp.mk (@Bw.w_nil x0 x1 x2)
instance st_w_call : type_of% (fun {x0 x1 x2 x3 x4 x5} => Stp.mk (@Bw.w_call x0 x1 x2 x3 x4 x5)) := fun {x0 x1 x2 x3 x4 x5} => Stp.mk (@Bw.w_call x0 x1 x2 x3 x4 x5)
instance st_w_cb : type_of% (fun {x0 x1 x2 x3 x4} => Stp.mk (@Bw.w_cb x0 x1 x2 x3 x4)) := fun {x0 x1 x2 x3 x4} => Stp.mk (@Bw.w_cb x0 x1 x2 x3 x4)
instance st_w_tupE : type_of% (fun {x0 x1 x2 x3} => Stp.mk (@Bw.w_tupE x0 x1 x2 x3)) := fun {x0 x1 x2 x3} => Stp.mk (@Bw.w_tupE x0 x1 x2 x3)
instance st_w_lstE : type_of% (fun {x0 x1 x2 x3} => Stp.mk (@Bw.w_lstE x0 x1 x2 x3)) := fun {x0 x1 x2 x3} => Stp.mk (@Bw.w_lstE x0 x1 x2 x3)
instance st_w_abs : type_of% (fun {x0 x1 x2} => Stp.mk (@Bw.w_abs x0 x1 x2)) := fun {x0 x1 x2} => Stp.mk (@Bw.w_abs x0 x1 x2)
instance st_w_max : type_of% (fun {x0 x1 x2 x3} => Stp.mk (@Bw.w_max x0 x1 x2 x3)) := fun {x0 x1 x2 x3} => Stp.mk (@Bw.w_max x0 x1 x2 x3)
instance st_w_min : type_of% (fun {x0 x1 x2 x3} => Stp.mk (@Bw.w_min x0 x1 x2 x3)) := fun {x0 x1 x2 x3} => Stp.mk (@Bw.w_min x0 x1 x2 x3)
instance st_w_intI : type_of% (fun {x0 x1 x2} => Stp.mk (@Bw.w_intI x0 x1 x2)) := fun {x0 x1 x2} => Stp.mk (@Bw.w_intI x0 x1 x2)
instance st_w_intB : type_of% (fun {x0 x1 x2} => Stp.mk (@Bw.w_intB x0 x1 x2)) := fun {x0 x1 x2} => Stp.mk (@Bw.w_intB x0 x1 x2)
instance st_w_gname : type_of% (fun {x0 x1 x2 x3 x4} => Stp.mk (@Bw.w_gname x0 x1 x2 x3 x4)) := fun {x0 x1 x2 x3 x4} => Stp.mk (@Bw.w_gname x0 x1 x2 x3 x4)
instance st_w_gsub : type_of% (fun {x0 x1 x2 x3 x4 x5 x6} => Stp.mk (@Bw.w_gsub x0 x1 x2 x3 x4 x5 x6)) := fun {x0 x1 x2 x3 x4 x5 x6} => Stp.mk (@Bw.w_gsub x0 x1 x2 x3 x4 x5 x6)
instance st_w_fldE : type_of% (fun {x0 x1 x2 x3 x4 x5} => Stp.mk (@Bw.w_fldE x0 x1 x2 x3 x4 x5)) := fun {x0 x1 x2 x3 x4 x5} => Stp.mk (@Bw.w_fldE x0 x1 x2 x3 x4 x5)
instance st_w_two : type_of% (fun {x0 x1 x2} => Stp.mk (@Bw.w_two x0 x1 x2)) := fun {x0 x1 x2} => Stp.mk (@Bw.w_two x0 x1 x2)
instance st_w_forE : type_of% (fun {x0 x1 x2 x3 x4 x5} => Stp.mk (@Bw.w_forE x0 x1 x2 x3 x4 x5)) := fun {x0 x1 x2 x3 x4 x5} => Stp.mk (@Bw.w_forE x0 x1 x2 x3 x4 x5)
instance st_w_iTup : type_of% (fun {x0 x1 x2 x3 x4} => Stp.mk (@Bw.w_iTup x0 x1 x2 x3 x4)) := fun {x0 x1 x2 x3 x4} => Stp.mk (@Bw.w_iTup x0 x1 x2 x3 x4)
instance st_w_iList : type_of% (fun {x0 x1 x2 x3 x4} => Stp.mk (@Bw.w_iList x0 x1 x2 x3 x4)) := fun {x0 x1 x2 x3 x4} => Stp.mk (@Bw.w_iList x0 x1 x2 x3 x4)
instance st_w_iRng1 : type_of% (fun {x0 x1 x2 x3} => Stp.mk (@Bw.w_iRng1 x0 x1 x2 x3)) := fun {x0 x1 x2 x3} => Stp.mk (@Bw.w_iRng1 x0 x1 x2 x3)
instance st_w_iRng2 : type_of% (fun {x0 x1 x2 x3} => Stp.mk (@Bw.w_iRng2 x0 x1 x2 x3)) := fun {x0 x1 x2 x3} => Stp.mk (@Bw.w_iRng2 x0 x1 x2 x3)
instance st_w_methE : type_of% (fun {x0 x1 x2 x3 x4 x5 x6 x7 x8 x9} => Stp.mk (@Bw.w_methE x0 x1 x2 x3 x4 x5 x6 x7 x8 x9)) := fun {x0 x1 x2 x3 x4 x5 x6 x7 x8 x9} => Stp.mk (@Bw.w_methE x0 x1 x2 x3 x4 x5 x6 x7 x8 x9)
instance st_w_makeE : type_of% (fun {x0 x1 x2 x3 x4 x5 x6 x7} => Stp.mk (@Bw.w_makeE x0 x1 x2 x3 x4 x5 x6 x7)) := fun {x0 x1 x2 x3 x4 x5 x6 x7} => Stp.mk (@Bw.w_makeE x0 x1 x2 x3 x4 x5 x6 x7)
instance st_w_sfld : type_of% (fun {x0 x1 x2 x3 x4 x5 x6} => Stp.mk (@Bw.w_sfld x0 x1 x2 x3 x4 x5 x6)) := fun {x0 x1 x2 x3 x4 x5 x6} => Stp.mk (@Bw.w_sfld x0 x1 x2 x3 x4 x5 x6)
instance st_w_gfldE : type_of% (fun {x0 x1 x2 x3 x4 x5 x6} => Stp.mk (@Bw.w_gfldE x0 x1 x2 x3 x4 x5 x6)) := fun {x0 x1 x2 x3 x4 x5 x6} => Stp.mk (@Bw.w_gfldE x0 x1 x2 x3 x4 x5 x6)
instance st_w_gcons : type_of% (fun {x0 x1 x2 x3 x4 x5 x6} => Stp.mk (@Bw.w_gcons x0 x1 x2 x3 x4 x5 x6)) := fun {x0 x1 x2 x3 x4 x5 x6} => Stp.mk (@Bw.w_gcons x0 x1 x2 x3 x4 x5 x6)
instance st_w_gnil : type_of% (fun {x0 x1 x2} => Stp.mk (@Bw.w_gnil x0 x1 x2)) := fun {x0 x1 x2} => Stp.mk (@Bw.w_gnil x0 x1 x2)
instance st_w_dnotE : type_of% (fun {x0 x1 x2 x3 x4} => Stp.mk (@Bw.w_dnotE x0 x1 x2 x3 x4)) := fun {x0 x1 x2 x3 x4} => Stp.mk (@Bw.w_dnotE x0 x1 x2 x3 x4)
instance st_w_dgetE : type_of% (fun {x0 x1 x2 x3 x4} => Stp.mk (@Bw.w_dgetE x0 x1 x2 x3 x4)) := fun {x0 x1 x2 x3 x4} => Stp.mk (@Bw.w_dgetE x0 x1 x2 x3 x4)
instance st_w_dputE : type_of% (fun {x0 x1 x2 x3 x4 x5} => Stp.mk (@Bw.w_dputE x0 x1 x2 x3 x4 x5)) := fun {x0 x1 x2 x3 x4 x5} => Stp.mk (@Bw.w_dputE x0 x1 x2 x3 x4 x5)
instance st_w_asg2 : type_of% (fun {x0 x1 x2 x3 x4 x5} => Stp.mk (@Bw.w_asg2 x0 x1 x2 x3 x4 x5)) := fun {x0 x1 x2 x3 x4 x5} => Stp.mk (@Bw.w_asg2 x0 x1 x2 x3 x4 x5)
instance st_w_iRng3 : type_of% (fun {x0 x1 x2 x3} => Stp.mk (@Bw.w_iRng3 x0 x1 x2 x3)) := fun {x0 x1 x2 x3} => Stp.mk (@Bw.w_iRng3 x0 x1 x2 x3)
instance st_w_makeK : type_of% (fun {x0 x1 x2 x3 x4 x5 x6 x7 x8 x9 x10} => Stp.mk (@Bw.w_makeK x0 x1 x2 x3 x4 x5 x6 x7 x8 x9 x10)) := fun {x0 x1 x2 x3 x4 x5 x6 x7 x8 x9 x10} => Stp.mk (@Bw.w_makeK x0 x1 x2 x3 x4 x5 x6 x7 x8 x9 x10)
instance st_iteT : type_of% (fun {x0 x1} => Stp.mk (@L2.iteT x0 x1)) := fun {x0 x1} => Stp.mk (@L2.iteT x0 x1)
instance st_iteF : type_of% (fun {x0 x1} => Stp.mk (@L2.iteF x0 x1)) := fun {x0 x1} => Stp.mk (@L2.iteF x0 x1)
end Bw

/-! own exceptions above IndexError -/
namespace Bw
open PySem PySem.Spec PyProof.Rows L2
def ixTail : List Value := [.type "IndexError", .type "LookupError", .type "Exception", .type "BaseException", .type "object"]
structure XpI (K : PySem.W.Frag) (C : Addr) : Prop where
  q : PySem.W.excIn K C ixTail "IndexError.__new__" = true
  kp : PySem.W.keepIn K (.ref C) = true
  h1 : PySem.W.subIn K (.ref C) (.type "BaseException") = some true
  h2 : PySem.W.typeIn K (.ref C) = some (.type "type")
section
variable {X : Cx}
theorem pmk_ownI {C : Addr} {x : Str} {p pos : Pos} (h : XpI X.K C) (gC : X.mg x = some (.ref C)) (hg : Gl X x) (hdb : (x == ("__debug__" : Str)) = false := by decide) : PMk X (.Call (.Name x p) [] [] pos) (fun _ H Q => Q (.ref C) none H) :=
  pmk_own0 PySem.F.excBase_IndexError h.q gC h.kp (raises_own h.h1 h.h2) hg hdb
end
end Bw

namespace L2
open PySem PySem.Spec PyProof.Rows
section
variable {X : Cx} {body : List Stmt} {f₀ : Stmt} {fs : List Stmt} {pos : Pos} {t tf : TS}
/-- try: body / finally: suite, where neither raises and the body doesn't return -/
def tFin0 (t tf : TS) : TS := fun D σ H => t { nx := fun σ1 H1 => tf D σ1 H1, rt := fun _ _ => False } σ H
theorem ps_fin0 (hb : PSs X.nox body t) (hf : PSs X.nox (f₀ :: fs) tf) : PS X (.Try body [] [] (f₀ :: fs) pos) (tFin0 t tf) := by
  refine ⟨fun pins s σ H D I h => ?_⟩
  refine wpAny_Try_finally (wpAny_mono (hb.run pins s σ H { nx := fun σ1 H1 => tf D σ1 H1, rt := fun _ _ => False } (I.wish _) h) (fun f s1 q => ?_) fun e s1 z => z.elim)
  have q' : SP X pins { nx := fun σ1 H1 => tf D σ1 H1, rt := fun _ _ => False } f s1 := q.unwish
  cases f with
  | next =>
    obtain ⟨σ', H', I', q2⟩ := q'
    refine wpAny_execs_nil ?_
    refine wpAny_mono (hf.run pins s1 σ' H' D (I'.wish _) q2) (fun g s2 z => ?_) fun e s1 z => z.elim
    have z' : SP X pins D g s2 := z.unwish
    cases g <;> exact z'
  | ret v =>
    obtain ⟨_, _, _, _, _, z⟩ := q'
    exact z.elim
  | brk =>
    obtain ⟨_, _, _, z⟩ := q'
    exact z.elim
  | cont =>
    obtain ⟨_, _, _, z⟩ := q'
    exact z.elim
end
end L2
namespace Bw
open PySem PySem.Spec PyProof.Rows L2
theorem w_fin0 {t tf : TS} {D : Ends} {σ : L2.St} {H : Hp} (h : t { nx := fun σ1 H1 => tf D σ1 H1, rt := fun _ _ => False } σ H) : tFin0 t tf D σ H := h
end Bw

namespace L2
open PySem PySem.Spec PyProof.Rows
section
variable {X : Cx} {body : List Stmt} {f₀ : Stmt} {fs : List Stmt} {pos : Pos} {tb : WX → TS} {tf tfs : TS} {Wout : WX}
/-- try: body / finally: suite, where the body may raise but doesn't return -/
def tFinX (tb : WX → TS) (tf tfs : TS) (Wout : WX) : TS := fun D σ H => tb (wFin tfs Wout) { nx := fun σ1 H1 => tf D σ1 H1, rt := fun _ _ => False } σ H
theorem ps_finX (hs : X.stack = X.env :: X.outer) (hf : X.env.frame = some X.env.locals) (hex : X.ex = []) (tk : Takes X Wout)
    (hb : ∀ (W : WX) (pn : List (Addr × Obj)) (xe : Value → Shared → Prop), Takes (X.tr pn xe) W → PassesOwn (model X.prog X.w) X.A X.env xe → PSs (X.tr pn xe) body (tb W))
    (hfin : PSs X.nox (f₀ :: fs) tf) (hsu : ∀ (a : Addr) (pn : List (Addr × Obj)), PSs (X.suite a pn) (f₀ :: fs) tfs) : PS X (.Try body [] [] (f₀ :: fs) pos) (tFinX tb tf tfs Wout) := by
  refine ⟨fun pins s σ H D I h => ?_⟩
  have ok := I.ok
  refine wpAny_Try_finally ?_
  refine wpAny_mono ((hb (wFin tfs Wout) (X.pn ++ pins) (fun x s₁ => wpAny (model X.prog X.w) X.A (noteFrame x X.env) (fun _ s₂ => FinallyRaised X.prog X.w X.A X.xe X.env (f₀ :: fs) (SP X pins D) x s₂) (FinallyRaised X.prog X.w X.A X.xe X.env (f₀ :: fs) (SP X pins D)) s₁)
    (fun u s' xx => ?_) PassesOwn.looking).run [] s σ H { nx := fun σ1 H1 => tf D σ1 H1, rt := fun _ _ => False } (I.toTry _) h) (fun f s1 q => ?_) (fun x s1 hx => hx)
  · exact fin_exc hs hf hex ok tk hsu xx
  · cases f with
    | next =>
      obtain ⟨σ', H', I', q2⟩ := q
      refine wpAny_execs_nil ?_
      refine wpAny_mono (hfin.run pins s1 σ' H' D ((I'.ofTry ok).wish _) q2) (fun g s2 z => ?_) fun e s1 z => z.elim
      have z' : SP X pins D g s2 := z.unwish
      cases g <;> exact z'
    | ret v =>
      obtain ⟨_, _, _, _, _, z⟩ := q
      exact z.elim
    | brk =>
      obtain ⟨_, _, _, z⟩ := q
      exact z.elim
    | cont =>
      obtain ⟨_, _, _, z⟩ := q
      exact z.elim
/-- the body and the suite by any readings of them -/
def tAnyS (X : Cx) (b : List Stmt) : TS := fun D σ H => ∀ (a : Addr) (pn : List (Addr × Obj)), ∃ t : TS, PSs (X.suite a pn) b t ∧ t D σ H
theorem pss_anyS {X : Cx} {b : List Stmt} (a : Addr) (pn : List (Addr × Obj)) : PSs (X.suite a pn) b (tAnyS X b) :=
  ⟨fun pins s σ H D I h => by
    obtain ⟨t, ht, hq⟩ := h a pn
    exact ht.run pins s σ H D I hq⟩
def tAnyT (X : Cx) (b : List Stmt) : WX → TS := fun W D σ H => ∀ (pn : List (Addr × Obj)) (xe : Value → Shared → Prop), Takes (X.tr pn xe) W → PassesOwn (model X.prog X.w) X.A X.env xe → ∃ t : TS, PSs (X.tr pn xe) b t ∧ t D σ H
theorem pss_anyT {X : Cx} {b : List Stmt} {W : WX} {pn : List (Addr × Obj)} {xe : Value → Shared → Prop} (tk : Takes (X.tr pn xe) W) (po : PassesOwn (model X.prog X.w) X.A X.env xe) : PSs (X.tr pn xe) b (tAnyT X b W) :=
  ⟨fun pins s σ H D I h => by
    obtain ⟨t, ht, hq⟩ := h pn xe tk po
    exact ht.run pins s σ H D I hq⟩
def tFinA (X : Cx) (body fs : List Stmt) (tf : TS) (Wout : WX) : TS := tFinX (tAnyT X body) tf (tAnyS X fs) Wout
theorem ps_finA (hs : X.stack = X.env :: X.outer) (hf : X.env.frame = some X.env.locals) (hex : X.ex = []) (tk : Takes X Wout) (hfin : PSs X.nox (f₀ :: fs) tf) :
    PS X (.Try body [] [] (f₀ :: fs) pos) (tFinA X body (f₀ :: fs) tf Wout) := ps_finX hs hf hex tk (fun _ _ _ tk' po => pss_anyT tk' po) hfin fun a pn => pss_anyS a pn
end
end L2
namespace Bw
open PySem PySem.Spec PyProof.Rows L2
theorem w_finX {tb : WX → TS} {tf tfs : TS} {Wout : WX} {D : Ends} {σ : L2.St} {H : Hp} (h : tb (wFin tfs Wout) { nx := fun σ1 H1 => tf D σ1 H1, rt := fun _ _ => False } σ H) : tFinX tb tf tfs Wout D σ H := h
theorem w_finA {X : Cx} {body fs : List Stmt} {tf : TS} {Wout : WX} {D : Ends} {σ : L2.St} {H : Hp} (h : ∀ (pn : List (Addr × Obj)) (xe : Value → Shared → Prop), Takes (X.tr pn xe) (wFin (tAnyS X fs) Wout) → PassesOwn (model X.prog X.w) X.A X.env xe → ∃ t : TS, PSs (X.tr pn xe) body t ∧ t { nx := fun σ1 H1 => tf D σ1 H1, rt := fun _ _ => False } σ H) :
    tFinA X body fs tf Wout D σ H := h
theorem w_wFin {tfs : TS} {Wout : WX} {cls : Value} {d : Option Addr} {σ : L2.St} {H : Hp} (h : tfs { nx := fun σ2 H2 => Wout cls d σ2 H2, rt := fun _ _ => False } σ H) : wFin tfs Wout cls d σ H := h
end Bw

/-! own == against an object of another own class; comparisons of plain data, decided -/
namespace Bw
open PySem PySem.Spec PyProof.Rows L2 LamX
/-- an own object of C against one of C' -/
def BOth (K : PySem.W.Frag) (C C' : Addr) (R : Addr → V → Hp → Bool → Prop) : Eqb := fun x y H b => ∃ a dx fs r dx' fs', x = .ref a ∧ H a = some (.ins C dx fs) ∧ y = .ref r ∧ H r = some (.ins C' dx' fs') ∧ PySem.W.notFirst K C (.ref C') = true ∧ R a y H b
section
variable {X : Cx} {n : Nat}
theorem rcb_oth {C C' : Addr} {ps : List Str} {R : Addr → V → Hp → Bool → Prop} (O : EqO X.prog X.w X.K X.mg X.base C n ps (spEqb R)) : RcbX X n (BOth X.K C C' R) := by
  intro A pins s σ H x y u v b sb I rx ry d
  obtain ⟨a, dx, fs, r, dx', fs', rfl, ha, rfl, hr', nf, hR⟩ := d
  obtain ⟨f, fd, F, hs, hf, hb⟩ := O.ex
  cases rx
  obtain ⟨mB, J', _⟩ := (show _ from by
    cases (show v = Value.ref r from ry)
    exact ins_get I.hok hr')
  obtain ⟨od', J', _⟩ := J'.look
  cases (show v = Value.ref r from ry)
  obtain ⟨mA, J, _⟩ := ins_get I.hok ha
  obtain ⟨od, J, _⟩ := J.look
  obtain ⟨m, hF⟩ := I.fr
  refine PySem.W.cmp_K (op := .Eq) sb.room.units0 hF I.ok.mod.kin J J'.type nf hs hf ?_
  have hsp : spEqb R [.ref a, .ref r] H (fun v H' => v = .bl b ∧ Same H H') C8.E0 := ⟨a, .ref r, b, rfl, hR, fun H' e => ⟨rfl, e⟩⟩
  have e0 : Env0 X.prog X.w X.K X.mg X.base A X.stack s H := by
    have e := I.env0
    exact ⟨by rw [sb.fr]; exact e.frames, e.mod, e.bs, e.bsz, e.funs, e.frf, e.hok, e.bare⟩
  have hl := F.len _ _ _ _ hsp
  have r2 : Vals [V.ref a, V.ref r] [Value.ref a, Value.ref r] := .cons rfl (.cons rfl .nil)
  refine wpAny_call (codeAny_mono (F.run A X.stack s H ⟨[.ref a, .ref r], []⟩ [.ref a, .ref r] [.ref a, .ref r] _ _ sb.room e0 (by
    have := hb s [.ref a, .ref r] I.kIn (by simpa using hl)
    simpa using this) r2 hsp) fun r s' hq => ?_)
  cases r with
  | error e => exact pass0 pins σ H s e s' I hq
  | ok fl =>
    cases fl with
    | ret w =>
      obtain ⟨z, H', I', rz, ez, ex⟩ := I.after hq
      subst ez
      cases rz
      exact ⟨rfl, H', I', ex⟩
    | next => exact False.elim hq
    | brk => exact False.elim hq
    | cont => exact False.elim hq
end
/-- data of whole numbers, texts, tuples and lists -/
inductive Pl : PyData → Prop
  | int (i : Int) : Pl (.int i)
  | str (x : Str) : Pl (.str x)
  | tup {ds : List PyData} : (∀ d ∈ ds, Pl d) → Pl (.tuple ds)
  | lst {ds : List PyData} : (∀ d ∈ ds, Pl d) → Pl (.list ds)
theorem eqvAll_pl {ds : List PyData} (h : ∀ d ∈ ds, ∀ e, Pl e → (PyData.eqv d e = true ↔ d = e)) : ∀ es : List PyData, (∀ e ∈ es, Pl e) → (PyData.eqvAll ds es = true ↔ ds = es) := by
  induction ds with
  | nil =>
    intro es _
    cases es with
    | nil => simp [PyData.eqvAll]
    | cons e r => simp [PyData.eqvAll]
  | cons d r ih =>
    intro es he
    cases es with
    | nil => simp [PyData.eqvAll]
    | cons e s =>
      have h1 := h d List.mem_cons_self e (he e List.mem_cons_self)
      have h2 := ih (fun x hx => h x (List.mem_cons_of_mem _ hx)) s (fun x hx => he x (List.mem_cons_of_mem _ hx))
      rw [PyData.eqvAll, Bool.and_eq_true, h1, h2, List.cons.injEq]
theorem eqv_pl {d : PyData} (h : Pl d) : ∀ e, Pl e → (PyData.eqv d e = true ↔ d = e) := by
  induction h with
  | int i =>
    intro e he
    cases he <;> simp [PyData.eqv]
  | str x =>
    intro e he
    cases he <;> simp [PyData.eqv]
  | tup _ ih =>
    intro e he
    cases he with
    | tup h2 => rw [PyData.eqv, eqvAll_pl ih _ h2, PyData.tuple.injEq]
    | int i => simp [PyData.eqv]
    | str i => simp [PyData.eqv]
    | lst i => simp [PyData.eqv]
  | lst _ ih =>
    intro e he
    cases he with
    | lst h2 => rw [PyData.eqv, eqvAll_pl ih _ h2, PyData.list.injEq]
    | int i => simp [PyData.eqv]
    | str i => simp [PyData.eqv]
    | tup i => simp [PyData.eqv]
end Bw

/-! a comprehension within a comprehension -/
namespace Bw
open PySem PySem.Spec PyProof.Rows L2
theorem blkOk_in {N : List PySem.Str} {sc scope1 scope2 : Scope} {own : List (PySem.Str × Nat)} {env : Env} {cl : List (PySem.Str × Addr)} {C : Addr} (he : env.scope = sc) (h : blkC N (relS scope1 sc) scope2 own = true) : BlkOk N (compEnvC scope1 cl C env).scope scope2 own := by
  subst he
  have e : (compEnvC scope1 cl C env).scope = relS scope1 env.scope := rfl
  rw [e]
  exact blkOk_by h
end Bw

/-! exceptions whose contexts are a chain that ends (raised anywhere, also in an except suite) -/
namespace Bw
open PySem PySem.Spec PyProof.Rows L2 L2H HotX
/-! ### chains of contexts -/
inductive Chn (h : Heap) (N : Addr → Prop) : Value → Prop
  | non : Chn h N .none
  | ref {x : Addr} {o : Obj} {vs : Array Value} {c : Value} : h.get? x = some o → o.data = .fields vs → N x → vs[2]? = some c → Chn h N c → Chn h N (.ref x)
theorem Chn.keeps {h h' : Heap} {N : Addr → Prop} (k : ∀ b o, h.get? b = some o → h'.get? b = some o) : ∀ {c : Value}, Chn h N c → Chn h' N c
  | _, .non => .non
  | _, .ref a b n d e => .ref (k _ _ a) b n d (e.keeps k)
theorem Chn.imp {h : Heap} {N N' : Addr → Prop} (n : ∀ x o, h.get? x = some o → N x → N' x) : ∀ {c : Value}, Chn h N c → Chn h N' c
  | _, .non => .non
  | _, .ref a b m d e => .ref a b (n _ _ a m) d (e.imp n)
theorem Chn.both {h h' : Heap} {N N' : Addr → Prop} (k : ∀ b o vs, h.get? b = some o → o.data = .fields vs → N b → h'.get? b = some o ∧ N' b) : ∀ {c : Value}, Chn h N c → Chn h' N' c
  | _, .non => .non
  | _, .ref a b m d e => .ref (k _ _ _ a b m).1 b (k _ _ _ a b m).2 d (e.both k)
/-- from y to x along the contexts -/
inductive Way (h : Heap) : Addr → Addr → Prop
  | refl (x : Addr) : Way h x x
  | step {y z x : Addr} {o : Obj} {vs : Array Value} : h.get? y = some o → o.data = .fields vs → vs[2]? = some (.ref z) → Way h z x → Way h y x
theorem Way.snoc {h : Heap} {x z : Addr} {o : Obj} {vs : Array Value} (h1 : h.get? x = some o) (h2 : o.data = .fields vs) (h3 : vs[2]? = some (.ref z)) : ∀ {y : Addr}, Way h y x → Way h y z
  | _, .refl _ => .step h1 h2 h3 (.refl _)
  | _, .step a b c w => .step a b c (w.snoc h1 h2 h3)
section
variable {prog : Program} {w : World} {A : Around} {E : Value → Shared → Prop} {s : Shared}
theorem unchain_any {a : Addr} {c : Value} (C : Chn s.heap (fun x => x ≠ a) c) : ∀ {A : Around} {x y : Addr} {o : Obj} {vs : Array Value} {t : Bool} {R : Result → Shared → Prop}, s.heap.get? x = some o → o.data = .fields vs → vs[2]? = some c → Way s.heap y x → R (.ok (.ret .none)) s →
    codeAny (model prog w) A (.builtin "proto.unchain" ⟨[.ref a, .ref x, .ref y, .bool t], []⟩) R s := by
  induction C with
  | non =>
    intro A x y o vs t R h1 h2 h3 W q
    refine codeAny_builtin HotX.entry_unchain ?_
    show wpAny _ _ (field (.ref x) 2 >>= _) _ _ s
    refine wpAny_bind (wpAny_field h1 h2 h3 ?_)
    rw [if_pos (show (Value.none == Value.none) = true from rfl)]
    first
    | exact wpAny_bind (wpAny_pure (wpAny_pure q))
    | exact wpAny_pure q
  | @ref z oz vz cz g1 g2 g3 g4 C ih =>
    intro A x y o vs t R h1 h2 h3 W q
    refine codeAny_builtin HotX.entry_unchain ?_
    show wpAny _ _ (field (.ref x) 2 >>= _) _ _ s
    refine wpAny_bind (wpAny_field h1 h2 h3 ?_)
    have n1 : ¬ ((Value.ref z == Value.none) = true) := by simp
    have n2 : ¬ ((Value.ref z == Value.ref a) = true) := by
      simp
      exact g3
    rw [if_neg n1]
    first
    | rw [if_neg n2]
    | (refine wpAny_bind (wpAny_pure ?_); rw [if_neg n2])
    have go : ∀ (y' : Addr), Way s.heap y' z → wpAny (model prog w) (A.under (.builtin "proto.unchain" ⟨[.ref a, .ref x, .ref y, .bool t], []⟩)) (again (.builtin "proto.unchain" ⟨[.ref a, .ref z, .ref y', .bool !t], []⟩))
        (fun fin s' => match fin with | .done f => R (.ok f) s' | .again c' => c'.quiet = true ∧ codeAny (model prog w) A c' R s') (fun e s' => R (.error e) s') s := fun y' W' => by
      refine wpAny_pure ⟨Code.quiet_builtin _ (by decide +kernel), ?_⟩
      exact ih g1 g2 g4 W' q
    have W1 : Way s.heap y z := W.snoc h1 h2 h3
    by_cases hy : z = y
    · have e1 : (Value.ref z == Value.ref y) = true := by simp [hy]
      first
      | rw [if_pos e1]
      | (refine wpAny_bind (wpAny_pure ?_); rw [if_pos e1])
      first
      | exact wpAny_rule (wpAny_pure q)
      | exact wpAny_bind (wpAny_rule (wpAny_pure q))
      | exact wpAny_rule (wpAny_bind (wpAny_pure (wpAny_pure q)))
    · have e1 : ¬ ((Value.ref z == Value.ref y) = true) := by
        simp
        exact hy
      first
      | rw [if_neg e1]
      | (refine wpAny_bind (wpAny_pure ?_); rw [if_neg e1])
      cases t with
      | false =>
        first
        | (show wpAny _ _ (again _) _ _ _; exact go y W1)
        | (simp only [Bool.false_eq_true, if_false]; first | exact wpAny_bind (wpAny_pure (go y W1)) | exact go y W1)
        | exact wpAny_bind (wpAny_pure (go y W1))
      | true =>
        cases W with
        | refl _ =>
          simp only [if_true]
          refine wpAny_bind (wpAny_field h1 h2 h3 ?_)
          exact go z (.refl z)
        | @step _ z2 _ o2 v2 k1 k2 k3 W2 =>
          simp only [if_true]
          refine wpAny_bind (wpAny_field k1 k2 k3 ?_)
          exact go z2 (W2.snoc h1 h2 h3)
/-- the exception that is handled, the chain behind it -/
def HotL (A : Around) (x1 : Addr) (h : Heap) : Prop := A.handled = some (.ref x1) ∧ Chn h (fun _ => True) (.ref x1)
theorem raiseNewL {α : Type} {a x1 : Addr} {oe : Obj} {vs : Array Value} {Q : α → Shared → Prop} (hot : HotL A x1 s.heap) (hne : Chn s.heap (fun x => x ≠ a) (.ref x1)) (ha : s.heap.get? a = some oe) (da : oe.data = .fields vs) (hi : 2 < vs.size)
    (hE : E (.ref a) { s with heap := s.heap.update a (Obj.mapFields (·.setIfInBounds 2 (.ref x1))) }) : wpAny (model prog w) A (raiseNew (.ref a) : Sem α) Q E s := by
  obtain ⟨hh, _⟩ := hot
  cases hne with
  | @ref _ o1 vs1 c h1 d1 n1 c1 C =>
    unfold raiseNew
    refine wpAny_bind (wpAny_handled ?_)
    rw [hh]
    have hb : (Value.ref x1 != Value.ref a) = true := ref_bne n1
    have U : ∀ {Q : Value → Shared → Prop}, Q .none s → wpAny (model prog w) A (holding [Value.ref a] (runValue (.builtin "proto.unchain" ⟨[.ref a, .ref x1, .ref x1, .bool false], []⟩))) Q E s := fun q =>
      wpAny_holding (wpAny_runValue (unchain_any C h1 d1 c1 (.refl x1) q))
    first
    | (show wpAny _ _ (if (Value.ref x1 != Value.ref a) = true then _ else _) _ _ _
       rw [if_pos hb]
       first
       | exact wpAny_bind (U (wpAny_bind (chained ha da hi (wpAny_throw hE))))
       | exact wpAny_bind (wpAny_bind (U (chained ha da hi (wpAny_throw hE)))))
    | (refine wpAny_bind ?_
       show wpAny _ _ (if (Value.ref x1 != Value.ref a) = true then _ else _) _ _ _
       rw [if_pos hb]
       exact wpAny_bind (U (chained ha da hi (wpAny_throw hE))))
/-- a new object isn't on the chain -/
theorem chn_new {h h' : Heap} {a : Addr} {N : Addr → Prop} {c : Value} (C : Chn h N c) (k : ∀ b o, h.get? b = some o → h'.get? b = some o) (na : h.get? a = none) : Chn h' (fun x => x ≠ a) c :=
  C.both fun b o vs e _ _ => ⟨k b o e, fun z => by rw [z, na] at e; cases e⟩
end
/-! ### exceptions in the air, with their chains -/
/-- what is kept of the exception's object -/
def Zb (B : Heap) (H : Hp) (cls : Value) (d : Option Addr) : Obj → Prop := fun o => o.cls = cls ∧ o.dict = d ∧ ∀ vs : Array Value, o.data = .fields vs → ∃ c, vs[2]? = some c ∧ Chn B (fun x => H x = none) c
theorem Zb.zc {B : Heap} {H : Hp} {cls : Value} {d : Option Addr} {o : Obj} (h : Zb B H cls d o) : Zc cls d o := ⟨h.1, h.2.1⟩
theorem Zb.steady {B : Heap} {H : Hp} {cls : Value} {d : Option Addr} : PXN.Steady1 (Zb B H cls d) := fun o v h => ⟨PXN.steady_cls o v h.1, PXN.steady_dict o v h.2.1, by
  obtain ⟨c, d, dt, sl⟩ := o
  cases dt with
  | fields vs0 =>
    intro vs e
    have e2 : vs0.setIfInBounds 1 v = vs := Data.fields.inj e
    obtain ⟨k, hk, C⟩ := h.2.2 vs0 rfl
    refine ⟨k, ?_, C⟩
    rw [← e2]
    exact set_other (by decide) hk
  | _ =>
    intro vs e
    first
    | exact Data.noConfusion e
    | cases e⟩
def XEc (X : Cx) (W : WX) (u : Value) (s' : Shared) : Prop :=
  ∃ (a : Addr) (B : Heap) (sI : Shared) (pins : List (Addr × Obj)) (σ : L2.St) (H : Hp) (cls : Value) (d : Option Addr),
    u = .ref a ∧ Inv X pins σ H sI ∧ (∀ b o, sI.heap.get? b = some o → b ∉ frs X.stack → B.get? b = some o) ∧ sI.heap.UpToSlots s'.heap ∧
      Sky B X.stack a (Zb B H cls d) X.env.locals s'.heap ∧ H a = none ∧ s'.os = sI.os ∧ AllBare s'.gens ∧ W cls d σ H
def TakesC (X : Cx) (W : WX) : Prop := ∀ u s', XEc X W u s' → X.xe u s'
theorem TakesC.imp {X : Cx} {W W' : WX} (t : TakesC X W) (h : ∀ c d σ H, W' c d σ H → W c d σ H) : TakesC X W' := fun u s' ⟨a, B, sI, pins, σ, H, cls, d, e, I, nb, up, sky, na, os, ag, w⟩ =>
  t u s' ⟨a, B, sI, pins, σ, H, cls, d, e, I, nb, up, sky, na, os, ag, h _ _ _ _ w⟩
theorem heldZ_imp {h B : Heap} {l : List Env} {a L : Addr} {Z Z' : Obj → Prop} (z : ∀ o, Z o → Z' o) (x : HandSPX.HeldZ B l a Z L h) : HandSPX.HeldZ B l a Z' L h := ⟨x.1, x.2.1, x.2.2.1, tracedZ_imp z x.2.2.2⟩
theorem sky_imp {h B : Heap} {l : List Env} {a L : Addr} {Z Z' : Obj → Prop} (z : ∀ o, Z o → Z' o) (x : Sky B l a Z L h) : Sky B l a Z' L h := by
  rcases x with ⟨h1, h2, h3, oe, vs, h4, h5, h6⟩ | x | x
  · exact .inl ⟨h1, h2, h3, oe, vs, h4, z _ h5, h6⟩
  · exact .inr (.inl (flyingZ_imp z x))
  · exact .inr (.inr (heldZ_imp z x))
/-- what takes any exception takes these -/
theorem TakesC.of {X : Cx} {W : WX} (t : L2.Takes X W) : TakesC X W := fun u s' ⟨a, B, sI, pins, σ, H, cls, d, e, I, nb, up, sky, na, os, ag, w⟩ =>
  t u s' ⟨a, B, sI, pins, σ, H, cls, d, e, I, nb, up, sky_imp (fun _ z => z.zc) sky, na, os, ag, w⟩
def CXc (P : Program) (w : World) (outer : List Env) (H : Hp) (s : Shared) (E : XK) (u : Value) (s' : Shared) : Prop :=
  ∃ (a : Addr) (B : Heap) (H' : Hp) (cls : Value) (d : Option Addr), u = .ref a ∧ HandSPX.FlyingZ B outer a (Zb B H' cls d) s'.heap ∧ HOk P w H' B ∧ UB (frs outer) H H' s.heap B s'.heap ∧ H' a = none ∧ s'.os = s.os ∧ AllBare s'.gens ∧ E cls d H'
section
variable {X : Cx} {pins : List (Addr × Obj)} {σ : L2.St} {H : Hp} {sI s s' : Shared} {B : Heap} {W : WX} {E : XK}
theorem XEc.of_call (I : Inv X pins σ H s) (hW : ∀ cls d H', E cls d H' → W cls d σ H') {u : Value} (c : CXc X.prog X.w X.stack H s E u s') : XEc X W u s' := by
  obtain ⟨a, B, H', cls, d, rfl, fl, hok, ub, na, os, ag, hE⟩ := c
  obtain ⟨G, g1, g2⟩ := restrict s'.heap fun b => (B.get? b).isSome || decide (b ∈ frs X.stack)
  have st : B.StaysIn s'.heap := fl.1
  have gB : ∀ b o, B.get? b = some o → G.get? b = some o := fun b o e => by
    rw [g1 b (by simp [e])]
    exact st b o e
  have gF : ∀ b, b ∈ frs X.stack → G.get? b = s'.heap.get? b := fun b hb => g1 b (by simp [hb])
  have og : ∀ b o, G.get? b = some o → s'.heap.get? b = some o ∧ ((B.get? b).isSome = true ∨ b ∈ frs X.stack) := fun b o e => by
    cases q : ((B.get? b).isSome || decide (b ∈ frs X.stack)) with
    | false => rw [g2 b q] at e; cases e
    | true =>
      rw [g1 b q] at e
      exact ⟨e, by simpa [Bool.or_eq_true] using q⟩
  refine ⟨a, B, { s with heap := G, gens := s'.gens, drawn := s'.drawn, toks := s'.toks }, pins, σ, H', cls, d, rfl, ?_, fun b o e hb => ?_, Heap.UpToSlots.of_keeps fun b o e => (og b o e).1, .inr (.inl fl), na, os, ag, hW _ _ _ hE⟩
  · refine I.call (ch := []) ⟨fun b o e n hb _ => gB b o (ub.keep b o e n hb), fun b o e n hb _ => ?_, fun b o e n _ => ub.free b o e n, fun b o e _ => ?_, ub.tups, ub.frzs, ub.tbls⟩ (hok.kept gB) ag (fun _ z => nomatch z)
    · obtain ⟨sl, q⟩ := ub.slot b o e hb
      exact ⟨sl, by rw [gF b hb]; exact q⟩
    · by_cases hb : b ∈ frs X.stack
      · obtain ⟨sl, q⟩ := ub.slot b o e hb
        exact ⟨_, by rw [gF b hb]; exact q⟩
      · obtain ⟨o', q⟩ := ub.there b o e hb
        exact ⟨o', gB b o' q⟩
  · obtain ⟨e', h⟩ := og b o e
    rcases h with h | h
    · obtain ⟨o', q⟩ := Option.isSome_iff_exists.mp h
      have z := st b o' q
      rw [e'] at z; cases z
      exact q
    · exact absurd h hb
theorem chn_ground (I : Inv X pins σ H sI) {N : Addr → Prop} {c : Value} (C : Chn sI.heap N c) : Chn (PySem.W.hideAll sI.heap (frs X.stack)) N c :=
  C.both fun b o vs e d n => ⟨PySem.W.hideAll_get _ e fun hb => by
    obtain ⟨_, o', e', hd⟩ := I.stack.mem hb
    rw [e] at e'; cases e'
    exact hd _ d, n⟩
/-- a new exception is in our air -/
theorem XEc.new {a : Addr} {oe : Obj} {vs : Array Value} {cls : Value} {d : Option Addr} {c : Value} (I : Inv X pins σ H sI) (k : ∀ b o, sI.heap.get? b = some o → s'.heap.get? b = some o) (hne : sI.heap.get? a = none) (he : s'.heap.get? a = some oe)
    (hz : Zc cls d oe) (hd : oe.data = .fields vs) (h1 : vs[1]? = some .none) (h2 : vs[2]? = some c) (C : Chn sI.heap (fun x => H x = none) c) (na : H a = none) (os : s'.os = sI.os) (ag : AllBare s'.gens) (w : W cls d σ H) : XEc X W (.ref a) s' := by
  refine ⟨a, PySem.W.hideAll sI.heap (frs X.stack), sI, pins, σ, H, cls, d, rfl, I, fun b o e hb => PySem.W.hideAll_get _ e hb, Heap.UpToSlots.of_keeps k,
    .inl ⟨fun b o e => k b o (PySem.W.of_hideAll _ e), ?_, ?_, oe, vs, he, ⟨hz.1, hz.2, fun vs' e => ?_⟩, hd, h1⟩, na, os, ag, w⟩
  · cases q : (PySem.W.hideAll sI.heap (frs X.stack)).get? a with
    | none => rfl
    | some o =>
      have z := PySem.W.of_hideAll _ q
      rw [hne] at z; cases z
  · exact Heap.FunFrames.of_keeps (fun b o e _ => ⟨o, k b o e, rfl⟩) (funFrames_none I.stack fun b hb => PySem.W.hideAll_none _ hb)
  · rw [hd] at e
    cases e
    exact ⟨c, h2, chn_ground I C⟩
theorem XEc.leave (hs : X.stack = X.env :: X.outer) (hf : X.env.frame = some X.env.locals) (hex : X.ex = []) {E₁ : Value → Shared → Prop} (hW : ∀ cls d σ H, W cls d σ H → E cls d H) {u : Value} (x : XEc X W u s') :
    wpAny (model X.prog X.w) X.A (leaving X.env u) (fun _ s'' => CXc X.prog X.w X.outer X.H_0 X.s_0 E u s'') E₁ s' := by
  obtain ⟨a, B, sI, pins, σ, H, cls, d, rfl, I, nb, up, sky, na, os, ag, w⟩ := x
  have hfr : X.A.frames = some (X.env :: X.outer) := by rw [I.ok.frames, hs]
  have nst : ∀ b o, X.s_0.heap.get? b = some o → b ∉ X.fs → b ∉ frs X.stack := fun b o e hb hm => by
    rcases List.mem_cons.mp (I.stkSub b hm) with z | z
    · have h1 := Heap.lt_size e
      have h2 := I.ok.above
      rw [z] at h1
      exact absurd (Nat.lt_of_lt_of_le h1 h2) (Nat.lt_irrefl _)
    · exact hb z
  have hex' : ∀ b, b ∉ X.ex := fun b hb => by rw [hex] at hb; cases hb
  have hokB := I.inGround nb
  have fin : ∀ h', HandSPX.FlyingZ B X.outer a (Zb B H cls d) h' → s'.heap.UpToSlots h' → CXc X.prog X.w X.outer X.H_0 X.s_0 E (.ref a) { s' with heap := h' } := fun h' fl up' => by
    refine ⟨a, B, H, cls, d, rfl, fl, hokB, ⟨fun b o e n hb => nb b o (I.base.keep b o e n hb (hex' b)) (nst b o e hb), fun b o e hb => ?_, fun b o e n => I.base.free b o e n (hex' b), fun b o e hb => ?_, I.base.tups, I.base.frzs, I.base.tbls⟩,
      na, os.trans I.os, ag, hW _ _ _ _ w⟩
    · obtain ⟨_, o₀, e₀, hnf⟩ := I.ok.funs.mem hb
      rw [e] at e₀; cases e₀
      obtain ⟨sl, e1⟩ := I.base.slot b o e (I.ok.frf b hb) hb (hex' b)
      obtain ⟨sl2, e2⟩ := up b _ e1 hnf
      obtain ⟨sl3, e3⟩ := up' b _ e2 hnf
      exact ⟨sl3, e3⟩
    · obtain ⟨o', e1⟩ := I.base.there b o e (hex' b)
      exact ⟨o', nb b o' e1 (nst b o e hb)⟩
  rw [hs] at sky
  rcases sky with ⟨hB, hn, hl, oe, vs, he, hz, hd, h1⟩ | fl | hd
  · exact PXN.leaving_firstZ Zb.steady hfr hl hf he hB hn hd h1 hz fin
  · exact PXN.leaves_onZ Zb.steady hfr hf fl fin
  · exact HandSPX.leaves_heldZ hf hd fin
theorem takesC_of (hs : X.stack = X.env :: X.outer) (hf : X.env.frame = some X.env.locals) (hex : X.ex = []) {E₁ : Value → Shared → Prop}
    (hx : X.xe = fun e s' => wpAny (model X.prog X.w) X.A (leaving X.env e) (fun _ s'' => CXc X.prog X.w X.outer X.H_0 X.s_0 E e s'') E₁ s') : TakesC X (fun cls d _ H => E cls d H) := fun u s' x => by
  rw [hx]
  exact XEc.leave (W := fun cls d _ H => E cls d H) (E := E) hs hf hex (fun _ _ _ _ h => h) x
theorem passesC_call (tk : TakesC X W) (hW : ∀ cls d σ H, E cls d H → W cls d σ H) : ∀ (pins : List (Addr × Obj)) (σ : L2.St) (H : Hp) (s : Shared) (e : Value) (s' : Shared), Inv X pins σ H s → CXc X.prog X.w X.stack H s E e s' → X.xe e s' :=
  fun _ σ _ _ e s' I c => tk e s' (XEc.of_call I (fun cls d H' h => hW cls d σ H' h) c)
end
theorem CXc.cx {P : Program} {w : World} {outer : List Env} {H : Hp} {s : Shared} {E : XK} {u : Value} {s' : Shared} (h : CXc P w outer H s E u s') : L2.CX P w outer H s E u s' := by
  obtain ⟨a, B, H', cls, d, e, fl, r⟩ := h
  exact ⟨a, B, H', cls, d, e, flyingZ_imp (fun _ z => z.zc) fl, r⟩
/-! ### an except suite's context -/
/-- the chain stands among the pins -/
inductive ChP (pn : List (Addr × Obj)) : Value → Prop
  | non : ChP pn .none
  | ref {q : Addr × Obj} {vs : Array Value} {c : Value} : q ∈ pn → q.2.data = .fields vs → vs[2]? = some c → ChP pn c → ChP pn (.ref q.1)
theorem ChP.mono {pn pn' : List (Addr × Obj)} (k : ∀ q ∈ pn, q ∈ pn') : ∀ {c : Value}, ChP pn c → ChP pn' c
  | _, .non => .non
  | _, .ref a b d e => .ref (k _ a) b d (e.mono k)
/-- p is handled, its chain ends -/
structure HotP (A : Around) (pn : List (Addr × Obj)) (p : Addr × Obj) : Prop where
  mem : p ∈ pn
  hd : A.handled = some (.ref p.1)
  ch : ChP pn (.ref p.1)
def HotD (X : Cx) : Prop := ∃ p : Addr × Obj, HotP X.A X.pn p
theorem ChP.at {X : Cx} {pins : List (Addr × Obj)} {σ : L2.St} {H : Hp} {s : Shared} (I : Inv X pins σ H s) : ∀ {c : Value}, ChP X.pn c → Chn s.heap (fun x => H x = none) c
  | _, .non => .non
  | _, .ref a b d e => .ref (I.pin _ (List.mem_append_left _ a)).1 b (I.pin _ (List.mem_append_left _ a)).2.1 d (e.at I)
theorem HotD.at {X : Cx} {pins : List (Addr × Obj)} {σ : L2.St} {H : Hp} {s : Shared} (c : HotD X) (I : Inv X pins σ H s) : ∃ x1, X.A.handled = some (.ref x1) ∧ Chn s.heap (fun x => H x = none) (.ref x1) := by
  obtain ⟨p, h⟩ := c
  exact ⟨p.1, h.hd, h.ch.at I⟩
theorem Chn.pins {h : Heap} {N : Addr → Prop} : ∀ {c : Value}, Chn h N c → ∃ pl : List (Addr × Obj), (∀ q ∈ pl, h.get? q.1 = some q.2 ∧ N q.1 ∧ ∃ vs, q.2.data = .fields vs) ∧ ChP pl c
  | _, .non => ⟨[], fun q hq => absurd hq (by simp), .non⟩
  | _, @Chn.ref _ _ x o vs c a b n d e => by
    obtain ⟨pl, h1, h2⟩ := e.pins
    refine ⟨(x, o) :: pl, fun q hq => ?_, .ref (q := (x, o)) List.mem_cons_self b d (h2.mono fun q hq => List.mem_cons_of_mem _ hq)⟩
    rcases List.mem_cons.mp hq with rfl | hq
    · exact ⟨a, n, _, b⟩
    · exact h1 q hq
/-! ### raise -/
section
variable {X : Cx} {W : WX} {e : Expr} {t : L2.St → Hp → XK → Prop} {pos : Pos}
theorem ps_rse (hc : X.calm = true) (tk : TakesC X W) (he : L2N.PMk X e t) : PS X (.Raise (some e) none pos) (fun _ σ H => t σ H fun cls d H' => W cls d σ H') := by
  refine ⟨fun pins s σ H D I h => ?_⟩
  show wpAny _ _ (do standAt pos; raiseStmt X.env (some (do let v ← eval e X.env; standAt pos; pure v)) none) _ _ _
  refine wpAny_bind (wpAny_standAt (raise_made (I.ok.hd hc) (wpAny_bind (wpAny_mono (he pins s σ H _ I h) (fun u s1 hu => wpAny_bind (wpAny_standAt (wpAny_pure ?_))) fun _ _ x => x))))
  obtain ⟨a, oe, vs, sI, H', cls, d, rfl, J, k, hne, ha, hz, hd, h1, na, os, ag, r, q⟩ := hu
  obtain ⟨r1, r2⟩ := r (model X.prog X.w) s1.heap (J.kIn.keeps k)
  exact ⟨a, oe, vs, cls, rfl, ha, hz.1, hd, h1, r1, r2, tk _ _ (XEc.new J k hne ha hz.zc hd h1 (hz.2.2 vs hd) .non na os ag q)⟩
end
end Bw

/-! list comprehensions over a text while an exception is handled -/
namespace Bw
open PySem PySem.Spec PyProof.Rows L2 L2H HotX
section
variable {prog : Program} {w : World} {A : Around} {E : Value → Shared → Prop} {s : Shared}
/-- the StopIteration at an iterator's end, the handled exception put behind it -/
theorem stop_hot {x1 : Addr} (hot : HotL A x1 s.heap)
    (hE : ∀ h' e, (∀ b o, s.heap.get? b = some o → h'.get? b = some o) → (∃ o, h'.get? e = some o ∧ o.cls = .type "StopIteration") → E (.ref e) { s with heap := h' }) {Q : Fin → Shared → Prop} :
    wpAny (model prog w) A (do raiseNew (← newExc (.type "StopIteration") []) : Sem Fin) Q E s := by
  obtain ⟨hh, C⟩ := hot
  refine wpAny_bind ?_
  simp only [newExc, newTuple]
  refine wpAny_bind (wpAny_newObj_type ?_ (by size_fits))
  refine wpAny_bind (m := firstArgMember _ _) (wpAny_of_eq (a := Value.none) (by first | rfl | (simp only [firstArgMember]; rfl)) ?_)
  refine wpAny_newObj_type ?_ (by size_fits)
  refine raiseNewL ⟨hh, C.keeps fun b o e => Heap.get?_push_of_some _ (Heap.get?_push_of_some _ e)⟩ (chn_new C (fun b o e => Heap.get?_push_of_some _ (Heap.get?_push_of_some _ e)) ?_) (Heap.get?_push_size _ rfl) rfl (by first | (simp; done) | (simp; omega) | (simp only [Array.size_append]; simp; omega)) ?_
  · cases q : s.heap.get? _ with
    | none => rfl
    | some o =>
      have z : (s.heap.push _).objs.size < s.heap.objs.size := Heap.lt_size q
      rw [Heap.size_push] at z
      exact absurd z (by omega)
  refine hE _ _ (fun b o e => ?_) ⟨_, Heap.get?_update_self _ (Heap.get?_push_size _ rfl) rfl, rfl⟩
  rw [Heap.get?_update_other _ _ (Nat.ne_of_gt (Heap.lt_size (Heap.get?_push_of_some _ e)))]
  exact Heap.get?_push_of_some _ (Heap.get?_push_of_some _ e)
theorem chn_iter {h : Heap} {N : Addr → Prop} {it : Addr} {ty : String} {x : Str} {t : Tok} {i : Nat} (hit : h.IsStrIter it ty x t i) : ∀ {c : Value}, Chn h N c → Chn h (fun y => N y ∧ y ≠ it) c
  | _, .non => .non
  | _, .ref a b n d e => .ref a b ⟨n, fun z => by
      obtain ⟨o, ho, hc, hd⟩ := hit
      rw [z, ho] at a
      cases a
      rw [hd] at b
      cases b
      simp at d⟩ d (chn_iter hit e)
theorem ascii_end_hot {it x1 : Addr} {x : Str} {t : Tok} {i : Nat} {Q : Option Value → Shared → Prop} (hot : HotL A x1 s.heap)
    (hit : s.heap.IsStrIter it "str_ascii_iterator" x t i) (hx : x.cps[i]? = none)
    (hQ : ∀ h', Heap.ExtBut it s.heap h' → Q none { s with heap := h' }) : wpAny (model prog w) A (pyNext (.ref it)) Q E s := by
  obtain ⟨o, ho, hc, hd⟩ := id hit
  unfold pyNext
  refine wpAny_bind (wpAny_attempt (wpAny_callSpecial?_slot (name := Str.ofString "__next__") hit.typeIs F.slot_str_ascii_iterator_next
    (wpAny_call_entry F.slot_str_ascii_iterator_next hit.typeIs F.entry_str_ascii_iterator_next ?_ (F.args_str_ascii_iterator_next_1 _))))
  show wpAny _ _ (field (.ref it) 0 >>= _) _ _ s
  refine wpAny_bind (wpAny_field ho hd (x := .str x t) rfl ?_)
  show wpAny _ _ (field (.ref it) 1 >>= _) _ _ s
  refine wpAny_bind (wpAny_field ho hd (x := .int i 0) rfl ?_)
  simp only [Int.toNat_natCast, hx]
  refine wpAny_bind (wpAny_rule (wpAny_bind (wpAny_setField ho hd (by simp) (wpAny_bind (wpAny_letGo ?_)))))
  obtain ⟨hh, C⟩ := hot
  refine stop_hot (x1 := x1) (by refine ⟨hh, ?_⟩; exact (chn_iter hit C).both fun b o vs e _ n => ⟨(Heap.get?_update_other _ _ (Ne.symm n.2)).trans e, trivial⟩) (fun h' e hk he => ?_)
  obtain ⟨oe, hoe, hce⟩ := he
  refine wpAny_bind (wpAny_isInstance (T := "StopIteration") (b := true) ⟨oe, hoe, hce⟩ isSubtype_stop ?_)
  refine wpAny_pure (hQ _ fun b o' nb e => hk _ _ ?_)
  exact (Heap.get?_update_other _ _ (Ne.symm nb)).trans e
theorem wide_end_hot {it x1 : Addr} {x : Str} {t : Tok} {i : Nat} {Q : Option Value → Shared → Prop} (hot : HotL A x1 s.heap)
    (hit : s.heap.IsStrIter it "str_iterator" x t i) (hx : x.cps[i]? = none)
    (hQ : ∀ h', Heap.ExtBut it s.heap h' → Q none { s with heap := h' }) : wpAny (model prog w) A (pyNext (.ref it)) Q E s := by
  obtain ⟨o, ho, hc, hd⟩ := id hit
  unfold pyNext
  refine wpAny_bind (wpAny_attempt (wpAny_callSpecial?_slot (name := Str.ofString "__next__") hit.typeIs F.slot_str_iterator_next
    (wpAny_call_entry F.slot_str_iterator_next hit.typeIs F.entry_str_iterator_next ?_ (F.args_str_iterator_next_1 _))))
  show wpAny _ _ (field (.ref it) 0 >>= _) _ _ s
  refine wpAny_bind (wpAny_field ho hd (x := .str x t) rfl ?_)
  show wpAny _ _ (field (.ref it) 1 >>= _) _ _ s
  refine wpAny_bind (wpAny_field ho hd (x := .int i 0) rfl ?_)
  simp only [Int.toNat_natCast, hx]
  refine wpAny_bind (wpAny_rule (wpAny_bind (wpAny_setField ho hd (by simp) (wpAny_bind (wpAny_letGo ?_)))))
  obtain ⟨hh, C⟩ := hot
  refine stop_hot (x1 := x1) (by refine ⟨hh, ?_⟩; exact (chn_iter hit C).both fun b o vs e _ n => ⟨(Heap.get?_update_other _ _ (Ne.symm n.2)).trans e, trivial⟩) (fun h' e hk he => ?_)
  obtain ⟨oe, hoe, hce⟩ := he
  refine wpAny_bind (wpAny_isInstance (T := "StopIteration") (b := true) ⟨oe, hoe, hce⟩ isSubtype_stop ?_)
  refine wpAny_pure (hQ _ fun b o' nb e => hk _ _ ?_)
  exact (Heap.get?_update_other _ _ (Ne.symm nb)).trans e
end
/-! ### walks that end while an exception is handled -/
structure TurnK (P : Program) (w : World) (K : PySem.W.Frag) (tg : Expr) (J : It) (fp : List Addr) (it : Addr) (tn : Nat → Heap → Prop) : Prop where
  mem : it ∈ fp
  obj : ∀ i h, tn i h → ∀ b ∈ fp, ∃ o, h.get? b = some o ∧ ∀ v, o.data ≠ .cell v
  keep : ∀ i h h', tn i h → (∀ b ∈ fp, ∀ o, h.get? b = some o → h'.get? b = some o) → tn i h'
  item : ∀ (X : Cx), X.prog = P → X.w = w → X.K = K → ∀ (i : Nat) (pins : List (Addr × Obj)) (s : Shared) (σ : L2.St) (H : Hp) (E : Value → Shared → Prop), Inv X pins σ H s → (∀ b ∈ fp, FpOk X pins H b) → tn i s.heap → J.go i H →
    wpAny (model P w) X.A (pyNext (.ref it)) (fun r s1 => ∃ u, r = some u ∧
      wpAny (model P w) X.A (letOwnedTupleGo tg (.ref it) u) (fun _ s2 => ∃ x H', Inv X pins σ H' s2 ∧ RelV x u ∧ J.yld i H x H' ∧ tn (i + 1) s2.heap ∧ ∀ b ∈ fp, H' b = none) E s1) E s
  done : ∀ (X : Cx), X.prog = P → X.w = w → X.K = K → ∀ (i : Nat) (pins : List (Addr × Obj)) (s : Shared) (σ : L2.St) (H : Hp) (E : Value → Shared → Prop), (∃ x1, HotL X.A x1 s.heap) → Inv X pins σ H s → (∀ b ∈ fp, FpOk X pins H b) → tn i s.heap → J.stop i H →
    wpAny (model P w) X.A (pyNext (.ref it)) (fun r s1 => r = none ∧ Inv X pins σ H s1) E s
  self : ∀ (A : Around) (i : Nat) (s : Shared) (Q : Value → Shared → Prop) (E : Value → Shared → Prop), tn i s.heap → Q (.ref it) s → wpAny (model P w) A (pyIter (.ref it)) Q E s
theorem turn_strK {P : Program} {w : World} {K : PySem.W.Frag} {tg : Expr} (it : Addr) (x : Str) (t : Tok) (ty : String) (hty : ty = "str_ascii_iterator" ∨ ty = "str_iterator") :
    TurnK P w K tg (Its x) [it] it (fun i h => h.IsStrIter it ty x t i) where
  mem := by simp
  obj := fun i h st b hb => by
    have e : b = it := by simpa using hb
    subst e
    obtain ⟨o, e, c, d⟩ := st
    exact ⟨o, e, fun v z => by rw [d] at z; cases z⟩
  keep := fun i h h' st k => let ⟨o, ho, r⟩ := st; ⟨o, k it (by simp) o ho, r⟩
  item := by
    intro X hP hw hK i pins s σ H E I hf st hg
    subst hP hw hK
    obtain ⟨f0, f1, f2, f3, f4, f5⟩ := hf it (by simp)
    have hlt : i < x.cps.size := hg
    have hx : x.cps[i]? = some x.cps[i] := Array.getElem?_eq_getElem hlt
    have hno : ["enumerate", "zip", "dict_itemiterator", "dict_reverseitemiterator", "odict_iterator", "itertools.zip_longest", "itertools.pairwise"].contains ty = false := by
      rcases hty with e | e
      · rw [e]; decide
      · rw [e]; decide
    have fin : ∀ h', h'.IsStrIter it ty x t (i + 1) → Heap.SameBut it s.heap h' → ∃ u, some (Value.str ⟨#[x.cps[i]]⟩ s.toks) = some u ∧
        wpAny (model X.prog X.w) X.A (letOwnedTupleGo tg (.ref it) u) (fun _ s2 => ∃ y H', Inv X pins σ H' s2 ∧ RelV y u ∧ (Its x).yld i H y H' ∧ s2.heap.IsStrIter it ty x t (i + 1) ∧ ∀ b ∈ [it], H' b = none) E { s with heap := h', toks := s.toks + 1 } := fun h' st' sb => by
      have I1 : Inv X pins σ H { s with heap := h', toks := s.toks + 1 } := I.turned (fun b o hb e => (sb.2 b hb).trans e) f0 f1 f3 f4 f5
      obtain ⟨oi, e, cc, dd⟩ := id st'
      exact ⟨_, rfl, go_of (s := { s with heap := h', toks := s.toks + 1 }) e cc dd hno ⟨.str ⟨#[x.cps[i]]⟩, H, I1, ⟨s.toks, rfl⟩, ⟨rfl, _, hx, rfl⟩, st', fun b hb => (hf b hb).1⟩⟩
    rcases hty with e | e
    · subst e
      exact wpAny_pyNext_ascii_item st hx fun h' st' sb => fin h' st' sb
    · subst e
      exact wpAny_pyNext_wide_item st hx fun h' st' sb => fin h' st' sb
  done := by
    intro X hP hw hK i pins s σ H E hot I hf st hg
    subst hP hw hK
    obtain ⟨f0, f1, f2, f3, f4, f5⟩ := hf it (by simp)
    obtain ⟨x1, hot⟩ := hot
    have hx : x.cps[i]? = none := Array.getElem?_eq_none hg
    rcases hty with e | e
    · rw [e] at st
      exact ascii_end_hot hot st hx fun h' eb => ⟨rfl, I.turned (t' := s.toks) (fun b o hb e => eb b o hb e) f0 f1 f3 f4 f5⟩
    · rw [e] at st
      exact wide_end_hot hot st hx fun h' eb => ⟨rfl, I.turned (t' := s.toks) (fun b o hb e => eb b o hb e) f0 f1 f3 f4 f5⟩
  self := fun A i s Q E st h => by
    rcases hty with e | e
    · rw [e] at st; exact wpAny_pyIter_striter_ascii st h
    · rw [e] at st; exact wpAny_pyIter_striter_wide st h
def PIEK (X : Cx) (pins : List (Addr × Obj)) (σ : L2.St) (tg : Expr) (R : It → Hp → Prop) (itv : Value) (s2 : Shared) : Prop :=
  ∃ (it : Addr) (fp : List Addr) (tn : Nat → Heap → Prop) (J : It) (H' : Hp), itv = .ref it ∧ Inv X pins σ H' s2 ∧ TurnK X.prog X.w X.K tg J fp it tn ∧ tn 0 s2.heap ∧ (∀ b ∈ fp, FpOk X pins H' b) ∧ R J H'
structure PIK (X : Cx) (tg iter : Expr) (wi : TI) : Prop where
  run : ∀ (pins : List (Addr × Obj)) (s : Shared) (σ : L2.St) (H : Hp) (R : It → Hp → Prop), Inv X pins σ H s → wi σ H R →
    wpAny (model X.prog X.w) X.A (eval iter X.env) (fun v s1 => wpAny (model X.prog X.w) X.A (pyIter v) (PIEK X pins σ tg R) X.xe s1) X.xe s
theorem pi_oneK {X : Cx} {tg : Expr} {pins : List (Addr × Obj)} {σ : L2.St} {H : Hp} {s : Shared} {R : It → Hp → Prop} {J : It} {tn : Nat → Heap → Prop} {tk : Nat} (I : Inv X pins σ H s) (o : Obj)
    (T : TurnK X.prog X.w X.K tg J [s.heap.objs.size] s.heap.objs.size tn) (st : tn 0 (s.heap.push o)) (q : R J H) : PIEK X pins σ tg R (.ref s.heap.objs.size) { s with heap := s.heap.push o, toks := tk } := by
  refine ⟨s.heap.objs.size, [s.heap.objs.size], tn, J, H, rfl, I.kept fun b ob e => Heap.get?_push_of_some _ e, T, st, fun b hb => ?_, q⟩
  have e : b = s.heap.objs.size := by simpa using hb
  subst e
  exact I.fpOk (Nat.le_refl _) (I.hok.fresh (Nat.le_refl _))
theorem pi_strK {X : Cx} {tg e : Expr} {te : TE} (he : PE X e te) : PIK X tg e (iStr te) := by
  refine ⟨fun pins s σ H R I h => ?_⟩
  refine thn (he.run pins s σ H _ I h) fun v s1 ⟨y, H1, I1, r1, x, ex, q⟩ => ?_
  subst ex
  obtain ⟨t, rfl⟩ := r1
  cases ha : x.cps.all (· < 128)
  · exact wpAny_pyIter_wide ha (pi_oneK (tk := s1.toks) I1 _ (turn_strK _ x t "str_iterator" (.inr rfl)) ⟨_, Heap.get?_push_size _ rfl, rfl, rfl⟩ q)
  · exact wpAny_pyIter_ascii ha (pi_oneK (tk := s1.toks) I1 _ (turn_strK _ x t "str_ascii_iterator" (.inl rfl)) ⟨_, Heap.get?_push_size _ rfl, rfl, rfl⟩ q)
section
variable {X : Cx}
/-- as the library's lc_core, the walk's end while an exception is handled -/
theorem lc_coreK {pins : List (Addr × Obj)} {s : Shared} {σ : L2.St} {H : Hp} {Q : VK} {elt tg iter : Expr} {ifs : List Expr} {scope : Scope} {own : List (Str × Nat)} {pos pos' : Pos} {wi : TI} {g : TG} {tt : TT} {te : TE} {use : Option (Value → Sem Unit)} {Qf : Value → Shared → Prop}
    (hc : HotD X) (hN : X.N.Nodup) (I : Inv X pins σ H s) (hi : PIK X tg iter wi) (ok : BlkOk X.N X.env.scope scope own)
    (hg : ∀ (s : Shared) (H : Hp) (C : Addr) (cl : List (Str × Addr)) (fp : List Addr), PG (X.blk s H scope (compEnvC scope cl C X.env) fp) tg g) (ht : ∀ (s : Shared) (H : Hp) (C : Addr) (cl : List (Str × Addr)) (fp : List Addr), PTs (X.blk s H scope (compEnvC scope cl C X.env) fp) ifs tt)
    (he : ∀ (s : Shared) (H : Hp) (C : Addr) (cl : List (Str × Addr)) (fp : List Addr), PE (X.blk s H scope (compEnvC scope cl C X.env) fp) elt te) (hs : ∀ x, foldedSetIterable iter X.env x = pure x)
    (h : tLc wi g tt te (own.map (·.2)) σ H Q)
    (hRR : ∀ D C s' m H', Inv X pins σ H' s' → Q (.ref D) H' → s'.heap.Ns C m → FpOk X pins H' C → compPost (model X.prog X.w) X.A X.xe use Qf (.ref D) C (.ok .next) s') :
    wpAny (model X.prog X.w) X.A (comprehension (.ListComp elt [⟨tg, iter, ifs, 0⟩] scope pos) scope X.env pos' (newList []) false (eval iter X.env) use) Qf X.xe s := by
  have hfree : ∀ y ∈ scope.names, y.2 = .free → ∃ c, X.env.cells.lookup y.1 = some c := fun y hy e => by
    rcases ok.free y hy e with k | k
    · exact I.ok.has _ (.inl k)
    · exact I.ok.has _ (.inr k)
  refine wpAny_comprehension_free (use := use) rfl hs (closure_ok hfree) ok.kind (fun y hy e => by rw [ok.uniq y hy, e])
    (thn (hi.run pins s σ H _ I h) fun xv s1 hx => thn hx fun itv s2 h2 => ?_)
  obtain ⟨it, fp, tn, J, H2, e, I2, T, st2, f2, q⟩ := h2
  subst e
  refine wpAny_newObj_type (newEnv_comp ?_) (by show 0 ≤ sizeLine; decide)
  generalize hD : s2.heap.objs.size = D
  have hDn : H2 D = none := I2.hok.fresh (Nat.le_of_eq hD)
  obtain ⟨W, ⟨m0, w0⟩, turn⟩ := q D hDn
  generalize hs3 : ({ s2 with heap := s2.heap.push { cls := .type "list", data := .seq ([] : List Value).toArray } } : Shared) = s3
  have I3 : Inv X pins σ (upd H2 D (.lst [])) s3 := by
    rw [← hs3]
    refine I2.laid (t' := s2.toks) (fun b o e => Heap.get?_push_of_some _ e) (Nat.le_of_eq hD) ⟨Nat.zero_le _, [], 0, .nil, ?_⟩
    rw [← hD]
    exact Heap.get?_push_size _ rfl
  have h3 : s3.heap = s2.heap.push { cls := .type "list", data := .seq ([] : List Value).toArray } := by rw [← hs3]
  have sz : ∀ b ∈ fp, b < s2.heap.objs.size := fun b hb => by
    obtain ⟨o, e, _⟩ := T.obj _ _ st2 b hb
    exact Heap.lt_size e
  have f3 : ∀ b ∈ fp, FpOk X pins (upd H2 D (.lst [])) b ∧ b < s3.heap.objs.size := fun b hb => by
    have hlt := sz b hb
    refine ⟨⟨?_, (f2 b hb).2⟩, by rw [h3, Heap.size_push]; exact Nat.lt_succ_of_lt hlt⟩
    rw [upd_ne (by rw [← hD]; exact Nat.ne_of_lt hlt)]
    exact (f2 b hb).1
  have st3 : tn 0 s3.heap := T.keep _ _ _ st2 fun b _ o e => by rw [h3]; exact Heap.get?_push_of_some _ e
  have I4 := block_start I3 ok hN f3
  have pg := hg s3 (upd H2 D (.lst [])) s3.heap.objs.size (cellsFrom (s3.heap.objs.size + 1) scope.names (cloFrom X.env.cells scope.names [])) fp
  have pt := ht s3 (upd H2 D (.lst [])) s3.heap.objs.size (cellsFrom (s3.heap.objs.size + 1) scope.names (cloFrom X.env.cells scope.names [])) fp
  have pe := he s3 (upd H2 D (.lst [])) s3.heap.objs.size (cellsFrom (s3.heap.objs.size + 1) scope.names (cloFrom X.env.cells scope.names [])) fp
  show codeAny _ _ (.compStart (.ListComp elt [⟨tg, iter, ifs, 0⟩] scope pos) 0 (.ref it) (.ref D) (compEnvC scope (cellsFrom (s3.heap.objs.size + 1) scope.names (cloFrom X.env.cells scope.names [])) s3.heap.objs.size X.env)) (compPost (model X.prog X.w) X.A X.xe use Qf (.ref D) s3.heap.objs.size) { s3 with heap := pushCells (s3.heap.push { cls := .type "dict", data := .dict #[] }) scope.names }
  have nfp : ∀ b ∈ fp, (upd H2 D (.lst [])) b = none := fun b hb => (f3 b hb).1.1
  generalize hce : compEnvC scope (cellsFrom (s3.heap.objs.size + 1) scope.names (cloFrom X.env.cells scope.names [])) s3.heap.objs.size X.env = ce at I4 pg pt pe ⊢
  have cL : ce.locals = s3.heap.objs.size := by subst hce; rfl
  generalize hH3 : upd H2 D (.lst []) = H3 at I3 I4 pg pt pe w0 nfp f3
  generalize hs4 : ({ s3 with heap := pushCells (s3.heap.push { cls := .type "dict", data := .dict #[] }) scope.names } : Shared) = s4 at I4 ⊢
  have st4 : tn 0 s4.heap := T.keep _ _ _ st3 fun b _ o e => by rw [← hs4]; exact pushCells_keeps _ _ _ _ (Heap.get?_push_of_some _ e)
  have stat : ∀ {σ' : L2.St} {H' : Hp} {s' : Shared}, Inv (X.blk s3 H3 scope ce fp) [] σ' H' s' → (∀ b ∈ fp, H' b = none) → ∀ b ∈ fp, FpOk (X.blk s3 H3 scope ce fp) [] H' b := fun {σ' H' s'} I' hn b hb =>
    ⟨hn b hb, (I'.ok.exf b hb).1, I'.ok.exfs b hb, .inl hb, fun x c e => (I'.ok.exf b hb).2 x c e, fun p hp => absurd (show p ∈ ([] : List (Addr × Obj)) ++ [] from hp) (by simp)⟩
  have loop : codeAny (model X.prog X.w) X.A (.compLoop (.ListComp elt [⟨tg, iter, ifs, 0⟩] scope pos) 0 (.ref it) (.ref D) ce) (compPost (model X.prog X.w) X.A X.xe use Qf (.ref D) s3.heap.objs.size) s4 := by
    refine compLoop_any (fun n s' => ∃ i H', Inv (X.blk s3 H3 scope ce fp) [] (wipe σ (own.map (·.2))) H' s' ∧ tn i s'.heap ∧ (∀ b ∈ fp, H' b = none) ∧ W i n H') ?_ m0 ⟨0, H3, I4, st4, nfp, w0⟩
    rintro n s5 ⟨i, H5, I5, st5, n5, w5⟩
    have out : ∀ {σ' : L2.St} {H' : Hp} {s' : Shared}, Inv (X.blk s3 H3 scope ce fp) [] σ' H' s' → Inv X pins σ H' s' := fun {σ' H' s'} I' =>
      I3.call' (ch := fp) I'.os I'.base I'.hok I'.bare fun b hb => ⟨(f3 b hb).1.2.2.2.1, (f3 b hb).1.2.1, (f3 b hb).1.2.2.2.2.1, (f3 b hb).1.2.2.2.2.2⟩
    rcases turn i n H5 w5 with ⟨stop, qq⟩ | ⟨go, Nx, hNx, step⟩
    · have td := T.done (X.blk s3 H3 scope ce fp) rfl rfl rfl i [] s5 _ H5 (fun _ _ => False) (let ⟨x1, h1, h2⟩ := hc.at (out I5); ⟨x1, h1, h2.imp fun _ _ _ _ => trivial⟩) I5 (stat I5 n5) st5 stop
      refine thnF td fun r s6 ⟨hr, I6⟩ => ?_
      subst hr
      have I7 : Inv X pins σ H5 s6 := out I6
      have nC : H5 s3.heap.objs.size = none := by
        have z : H5 ce.locals = none := I6.free
        rw [cL] at z
        exact z
      obtain ⟨m, hn, _⟩ := I6.loc
      have hn : s6.heap.Ns ce.locals m := hn
      rw [cL] at hn
      exact hRR D s3.heap.objs.size s6 m H5 I7 qq hn (I3.fpOk (Nat.le_refl _) nC)
    · have ti := T.item (X.blk s3 H3 scope ce fp) rfl rfl rfl i [] s5 _ H5 (fun _ _ => False) I5 (stat I5 n5) st5 go
      refine thnF ti fun r s6 ⟨u, hr, h6⟩ => ?_
      subst hr
      refine thnF h6 fun _ s7 ⟨x, H7, I7, r7, y7, st7, n7⟩ => ?_
      have I7' := I7.pinned (stat I7 n7) (T.obj _ _ st7)
      refine thnF (pg.run _ s7 _ H7 x u _ I7' r7 (step x H7 y7)) fun _ s8 ⟨σ8, H8, I8, hw8, q8⟩ => ?_
      refine thnF (pt.run _ s8 σ8 H8 _ I8 q8) fun b s9 ⟨H9, I9, q9⟩ => ?_
      have fin : ∀ {s' : Shared} {H' : Hp}, Inv (X.blk s3 H3 scope ce fp) ([] ++ pinsAt fp s7.heap) σ8 H' s' → Nx H' → ∃ m, m < n ∧ ∃ i H', Inv (X.blk s3 H3 scope ce fp) [] (wipe σ (own.map (·.2))) H' s' ∧ tn i s'.heap ∧ (∀ b ∈ fp, H' b = none) ∧ W i m H' := fun {s' H'} I' nx => by
        obtain ⟨m', hm, w'⟩ := hNx H' nx
        have pin' : ∀ b ∈ fp, ∀ o, s7.heap.get? b = some o → s'.heap.get? b = some o ∧ H' b = none := fun b hb o e =>
          let z := I'.pin (b, o) (List.mem_append_right _ (List.mem_append_right _ (mem_pinsAt hb e)))
          ⟨z.1, z.2.1⟩
        have hl : (wipe σ (own.map (·.2))).length = σ8.length := by rw [← hw8, wipe_length]
        refine ⟨m', hm, i + 1, H', (I'.unpinned (pins := [])).weak hl (fun j v e => ?_), T.keep _ _ _ st7 fun b hb o e => (pin' b hb o e).1, fun b hb => ?_, w'⟩
        · rw [← hw8] at e
          exact (wipe_some e).1
        · obtain ⟨o, e, _⟩ := T.obj _ _ st7 b hb
          exact (pin' b hb o e).2
      cases b with
      | false =>
        simp only [Bool.false_eq_true, if_false] at q9 ⊢
        exact fin I9 q9
      | true =>
        simp only [if_true] at q9 ⊢
        refine thnF (pe.run _ s9 σ8 H9 _ I9 q9) fun z s10 ⟨yv, H10, I10, r10, acc, hD10, hz10, nx⟩ => ?_
        exact app_ok (X := X.blk s3 H3 scope ce fp) I10 hD10 hz10 r10 fun s11 I11 => fin I11 nx
  exact codeAny_compStart_list loop (T.self X.A 0 _ _ _ st4 loop)
/-- as a value, while an exception is handled -/
theorem pe_lcK {elt tg iter : Expr} {ifs : List Expr} {scope : Scope} {own : List (Str × Nat)} {pos : Pos} {wi : TI} {g : TG} {tt : TT} {te : TE} (hc : HotD X) (hN : X.N.Nodup) (hi : PIK X tg iter wi) (ok : BlkOk X.N X.env.scope scope own)
    (hg : ∀ (s : Shared) (H : Hp) (C : Addr) (cl : List (Str × Addr)) (fp : List Addr), PG (X.blk s H scope (compEnvC scope cl C X.env) fp) tg g) (ht : ∀ (s : Shared) (H : Hp) (C : Addr) (cl : List (Str × Addr)) (fp : List Addr), PTs (X.blk s H scope (compEnvC scope cl C X.env) fp) ifs tt)
    (he : ∀ (s : Shared) (H : Hp) (C : Addr) (cl : List (Str × Addr)) (fp : List Addr), PE (X.blk s H scope (compEnvC scope cl C X.env) fp) elt te) (hs : ∀ x, foldedSetIterable iter X.env x = pure x := by intro _; rfl) :
    PE X (.ListComp elt [⟨tg, iter, ifs, 0⟩] scope pos) (tLc wi g tt te (own.map (·.2))) := by
  refine ⟨fun pins s σ H Q I h => ?_⟩
  rw [eval_ListComp]
  refine lc_coreK hc hN I hi ok hg ht he hs h fun D C s' m H' I' q hn f => ⟨m, hn, fun h'' sb => ?_⟩
  obtain ⟨f0, f1, f2, f3, f4, f5⟩ := f
  exact ⟨.ref D, H', I'.turned (t' := s'.toks) (fun b o hb e => (sb.2 b hb).trans e) f0 f1 f3 f4 f5, rfl, q⟩
end
end Bw

/-! except suites in which an iteration may end, defs that are called there -/
namespace Bw
open PySem PySem.Spec PyProof.Rows L2 L2H HotX
inductive HdsC (X : Cx) : List ExceptHandler → List (List Value × Nat × (Addr → Value → Option Addr → TS)) → Prop
  | nil : HdsC X [] []
  | cons {te : Expr} {cs : List Value} {n : Str} {i : Nat} {ts : Addr → Value → Option Addr → TS} {b₀ : Stmt} {suite : List Stmt} {pos' : Pos} {hds : List ExceptHandler} {l : List (List Value × Nat × (Addr → Value → Option Addr → TS))} (hc : ClsE X te cs)
      (hi : X.N[i]? = some n) (hln : X.env.kindOf n = some .local)
      (hsu : ∀ (a : Addr) (oe : Obj) (cls : Value) (d : Option Addr) (pn : List (Addr × Obj)), Zc cls d oe → (∃ vs, oe.data = .fields vs) → HotD (X.suite a ((a, oe) :: pn)) → PSs (X.suite a ((a, oe) :: pn)) (b₀ :: suite) (ts a cls d)) (r : HdsC X hds l) :
      HdsC X (.ExceptHandler (some te) (some n) (b₀ :: suite) pos' :: hds) ((cs, i, ts) :: l)
section
variable {X : Cx} {body : List Stmt} {h₀ : ExceptHandler} {hds : List ExceptHandler} {l : List (List Value × Nat × (Addr → Value → Option Addr → TS))} {pos : Pos} {tb : WX → TS} {Wout : WX}
theorem ps_try_mac (hs : X.stack = X.env :: X.outer) (hf : X.env.frame = some X.env.locals) (hN : X.N.Nodup) (tk : TakesC X Wout) (hsz : ∀ x ∈ l, x.1.length ≤ 1000)
    (hb : ∀ (W : WX) (pn : List (Addr × Obj)) (xe : Value → Shared → Prop), TakesC (X.tr pn xe) W → PassesOwn (model X.prog X.w) X.A X.env xe → PSs (X.tr pn xe) body (tb W))
    (hh : HdsC X (h₀ :: hds) l) : PS X (.Try body (h₀ :: hds) [] [] pos) (fun D σ H => tb (wMas X.K Wout D l) D σ H) := by
  refine ⟨fun pins s σ H D I h => ?_⟩
  have ok := I.ok
  have hfr : X.A.frames = some (X.env :: X.outer) := by rw [ok.frames, hs]
  refine wpAny_Try_except ?_
  refine wpAny_mono ((hb (wMas X.K Wout D l) (X.pn ++ pins) (fun e s₁ => wpAny (model X.prog X.w) X.A (noteFrame e X.env) (fun _ s₂ => wpAny (model X.prog X.w) X.A (setFlight e none) (fun _ s₃ =>
    wpAny (model X.prog X.w) X.A (handleBy e X.env (h₀ :: hds)) (SP X pins D) X.xe s₃) X.xe s₂) X.xe s₁) (fun u s' xx => ?_) PassesOwn.looking).run [] s σ H D (I.toTry _) h) (fun f s1 hsp => ?_) (fun e s1 he => he)
  · -- the catch
    obtain ⟨a, B, sI, pins', σ', H', cls, d, rfl, J', nb, up, sky, na, os, ag, w⟩ := xx
    have J : Inv X pins σ' H' sI := J'.ofTry ok
    have sky' : Sky B (X.env :: X.outer) a (Zb B H' cls d) X.env.locals s'.heap := by rw [← hs]; exact sky
    show wpAny (model X.prog X.w) X.A (noteFrame (.ref a) X.env) _ _ _
    refine L2N.Sky.land Zb.steady hfr hf sky' fun h3 fl3 up3 => ?_
    have notFr : ∀ {h : Heap} {o : Obj} {vs : Array Value}, h.FunFrames B (X.env :: X.outer) → h.get? a = some o → o.data = .fields vs → a ∉ frs (X.env :: X.outer) := fun {h o vs} ff e dd hm => by
      obtain ⟨_, o', e', hnf⟩ := ff.mem hm
      rw [e] at e'; cases e'
      exact hnf _ dd
    have nfr : a ∉ frs (X.env :: X.outer) := by
      obtain ⟨oe3, vs3, he3, hz3, hd3⟩ := fl3.there
      exact notFr fl3.2.2.1 he3 hd3
    have nL : a ≠ X.env.locals := fun z => nfr (List.mem_filterMap.mpr ⟨X.env, List.mem_cons_self, by rw [hf, z]⟩)
    have nF : a ∉ X.fs := fun hm => by
      obtain ⟨e, he, q⟩ := List.mem_filterMap.mp hm
      exact nfr (List.mem_filterMap.mpr ⟨e, List.mem_cons_of_mem _ he, q⟩)
    have go : ∀ {hds' : List ExceptHandler} {l' : List (List Value × Nat × (Addr → Value → Option Addr → TS))}, HdsC X hds' l' → (∀ x ∈ l', x.1.length ≤ 1000) → wMas X.K Wout D l' cls d σ' H' → ∀ h3, HandSPX.FlyingZ B (X.env :: X.outer) a (Zb B H' cls d) h3 → sI.heap.UpToSlots h3 →
        wpAny (model X.prog X.w) X.A (handleBy (.ref a) X.env hds') (SP X pins D) X.xe { s' with heap := h3 } := by
      intro hds' l' hk
      induction hk with
      | nil =>
        intro _ w h3 fl3 up3
        refine wpAny_handleBy_nil ?_
        obtain ⟨k1, k2, k3, oe, vs, T, oT, ts', he, hz, hd, h1, hr⟩ := id fl3
        unfold PySem.passOn
        refine wpAny_bind (wpAny_field he hd h1 ?_)
        rw [if_neg (show ¬ ((Value.ref T == Value.none) = true) from by simp)]
        have fin : wpAny (model X.prog X.w) X.A (setFlight (.ref a) X.env.frame) (fun _ s4 => wpAny (model X.prog X.w) X.A (throw (.ref a) : Sem Flow) (SP X pins D) X.xe s4) X.xe { s' with heap := h3 } := by
          rw [hf]
          refine HandSPX.setFlight_upZ fl3 fun h4 hh4 up4 => wpAny_throw (tk _ _ ?_)
          exact ⟨a, B, sI, pins, σ', H', cls, d, rfl, J, nb, up3.trans up4, .inr (.inr (by rw [hs]; exact hh4)), na, os, ag, w⟩
        first
          | exact wpAny_bind (wpAny_pure (wpAny_bind fin))
          | exact wpAny_bind fin
      | @cons te cs n i ts b₀ suite pos' hds2 l2 hc hi hln hsu r ih =>
        intro hz0 w h3 fl3 up3
        obtain ⟨b, hb1, hyes, hno⟩ := w
        have J3 : Inv X pins σ' H' { s' with heap := h3 } := J.landed nb fl3.1 up3 os ag
        obtain ⟨oe3, vs3, he3, hz3, hd3⟩ := fl3.there
        have S3 := J3.suite he3 hd3 na nL nF
        refine wpAny_handleBy_cons (codeAny_handlers_test ?_) (by intro q; cases q)
        -- the classes, then the match, in a heap that is kept
        have test : ∀ {R : Bool → Shared → Prop} {E : Value → Shared → Prop}, (∀ h4, (∀ b o, h3.get? b = some o → h4.get? b = some o) → R b { s' with heap := h4 }) →
            wpAny (model X.prog X.w) (X.A.mark (some (.ref a))) (eval te X.env) (fun c s₁ => wpAny (model X.prog X.w) (X.A.mark (some (.ref a))) (excMatches (.ref a) c) R E s₁) E { s' with heap := h3 } := fun {R E} q => by
          cases hc with
          | one hn =>
            rename_i x c np
            have LT : PySem.W.Looks (model X.prog X.w) h3 (typeOf (.ref a)) cls := fun A Q E s k q => wpAny_typeOf_ref (k _ _ he3) (by rw [hz3.1]; exact q)
            obtain ⟨b1, d1, h1, h2, eb⟩ := PySem.W.exmAny_cons hb1
            have w2 : some false = some d1 := h2
            cases w2
            rw [Bool.or_false] at eb
            subst eb
            have LM := PySem.W.exm_one (M := model X.prog X.w) (J3.kIn) LT h1
            obtain ⟨hg, hdbg, hm | ⟨hm, hv, hnn⟩⟩ := hn
            · exact ld_glob (X := X.suite a ((a, oe3) :: (X.pn ++ pins))) S3 hg hm (LM.here (q h3 fun _ _ z => z)) hdbg
            · exact ld_blt (X := X.suite a ((a, oe3) :: (X.pn ++ pins))) S3 hg hm hv (LM.here (q h3 fun _ _ z => z)) hnn hdbg
          | tup hn =>
            rename_i es kk np
            refine wpAny_Tuple_spliced (eval_names (Y := X.suite a ((a, oe3) :: (X.pn ++ pins))) S3 _ hn.suite ⟨?_, ?_⟩)
            · exact Nat.le_trans (hz0 _ List.mem_cons_self) (by decide)
            · have kp : ∀ b o, h3.get? b = some o → (h3.push { cls := .type "tuple", data := .seq cs.toArray }).get? b = some o := fun b o e => Heap.get?_push_of_some _ e
              have LT : PySem.W.Looks (model X.prog X.w) (h3.push { cls := .type "tuple", data := .seq cs.toArray }) (typeOf (.ref a)) cls := fun A Q E s k q => wpAny_typeOf_ref (k _ _ (kp _ _ he3)) (by rw [hz3.1]; exact q)
              have LM := PySem.W.exm_tupN (M := model X.prog X.w) (J3.kIn.keeps kp) LT (Heap.get?_push_size _ rfl) hb1
              exact LM.here (q _ kp)
        refine test fun h4 kp => ?_
        have fl4 := flying_kept fl3 kp
        have up4 : sI.heap.UpToSlots h4 := up3.trans (.of_keeps kp)
        cases b with
        | true =>
          refine codeAny_handlers_suite_as ?_
          refine HandSPX.lands_againZ fl4 fun h5 fl5 up5 => ?_
          have J5 : Inv X pins σ' H' { s' with heap := h5 } := J.landed nb fl5.1 (up4.trans up5) os ag
          obtain ⟨oe5, vs5, he5, hz5, hd5⟩ := fl5.there
          obtain ⟨c5, hc5, C5⟩ := hz5.2.2 vs5 hd5
          obtain ⟨pl, hpl, Cpl⟩ := (C5.keeps fl5.1).pins
          have J5' : Inv X (pins ++ pl) σ' H' { s' with heap := h5 } := J5.pins_of fun p hp => (List.mem_append.mp hp).elim (fun z => J5.pin p (List.mem_append_right _ z)) fun z => by
            obtain ⟨g1, g2, vq, g3⟩ := hpl p z
            have nfq : p.1 ∉ frs (X.env :: X.outer) := fun hm => by
              obtain ⟨_, o', e', hnf⟩ := fl5.2.2.1.mem hm
              rw [g1] at e'; cases e'
              exact hnf _ g3
            refine ⟨g1, g2, fun y => nfq (List.mem_filterMap.mpr ⟨X.env, List.mem_cons_self, by rw [hf, y]⟩), fun hm => ?_, fun v y => by rw [g3] at y; cases y⟩
            obtain ⟨e, he, q⟩ := List.mem_filterMap.mp hm
            exact nfq (List.mem_filterMap.mpr ⟨e, List.mem_cons_of_mem _ he, q⟩)
          have S5 := J5'.suite he5 hd5 na nL nF
          have hot : HotD (X.suite a ((a, oe5) :: (X.pn ++ (pins ++ pl)))) := ⟨(a, oe5), List.mem_cons_self, rfl, .ref (q := (a, oe5)) List.mem_cons_self hd5 hc5 (Cpl.mono fun q hq => List.mem_cons_of_mem _ (List.mem_append_right _ (List.mem_append_right _ hq)))⟩
          refine store_ok (X := X.suite a ((a, oe5) :: (X.pn ++ (pins ++ pl)))) (v := .ref a) S5 hN hi (.inl hln) rfl (fun s6 S6 => ?_) (.inr hln)
          refine wpAny_mono ((hsu a oe5 cls d (X.pn ++ (pins ++ pl)) hz5.zc ⟨_, hd5⟩ hot).run [] s6 _ H' _ S6 (hyes rfl a na)) (fun f s6 hsp => ?_) (fun _ _ z => False.elim z)
          have end_ : ∀ {σ6 : L2.St} {H6 : Hp} {Q : Shared → Prop}, Inv (X.suite a ((a, oe5) :: (X.pn ++ (pins ++ pl)))) [] σ6 H6 s6 → (∀ s7, Inv X pins (σ6.set i none) H6 s7 → Q s7) →
              wpAny (model X.prog X.w) X.A (do bindName X.env n .none; unbindBehindTheSuite X.env n pos') (fun _ s7 => Q s7) X.xe s6 := fun {σ6 H6 Q} S6 hq => gone_ok (Inv.unpinned (S6.unsuite ok)) hN hi hln hq
          cases f with
          | next =>
            obtain ⟨σ6, H6, S6, q6⟩ := hsp
            exact end_ S6 fun s7 J7 => ⟨_, _, J7, q6⟩
          | brk =>
            obtain ⟨σ6, H6, S6, q6⟩ := hsp
            exact end_ S6 fun s7 J7 => ⟨_, _, J7, q6⟩
          | cont =>
            obtain ⟨σ6, H6, S6, q6⟩ := hsp
            exact end_ S6 fun s7 J7 => ⟨_, _, J7, q6⟩
          | ret u =>
            obtain ⟨v6, σ6, H6, S6, r6, q6⟩ := hsp
            exact end_ S6 fun s7 J7 => ⟨_, _, _, J7, r6, q6⟩
        | false =>
          show wpAny _ X.A (handleBy (.ref a) X.env hds2) _ _ _
          exact ih (fun x hx => hz0 x (List.mem_cons_of_mem _ hx)) (hno rfl) h4 fl4 up4
    exact go hh hsz w h3 fl3 (up.trans up3)
  · cases f with
    | next =>
      obtain ⟨σ', H', J', q⟩ := hsp
      exact wpAny_execs_nil ⟨σ', H', J'.ofTry ok, q⟩
    | brk =>
      obtain ⟨σ', H', J', q⟩ := hsp
      exact ⟨σ', H', J'.ofTry ok, q⟩
    | cont =>
      obtain ⟨σ', H', J', q⟩ := hsp
      exact ⟨σ', H', J'.ofTry ok, q⟩
    | ret u =>
      obtain ⟨v, σ', H', J', r, q⟩ := hsp
      exact ⟨v, σ', H', J'.ofTry ok, r, q⟩
end
/-! ### defs that are called with the caught exception -/
def cxL (CX : CXT) (P : Program) (w : World) (K : PySem.W.Frag) (mg : Str → Option Value) (base : Heap) (N : List Str) (qual : Str) (scope : Scope) (f : Addr) (cd : Value) (A : Around) (outer : List Env) (s : Shared) (H : Hp) (E : XK) (pl : List (Addr × Obj)) : Cx :=
  { cxOf CX P w K mg base N qual scope f cd A outer s H E with calm := false, pn := pl }
theorem inv_startL {CX : CXT} {P : Program} {w : World} {K : PySem.W.Frag} {mg : Str → Option Value} {base : Heap} {N ps : List Str} {qual : Str} {scope : Scope} {f : Addr} {cd : Value} {A : Around} {outer : List Env} {s s1 : Shared} {H : Hp} {E : XK} {us : List Value} {vs : List V}
    (S : FnScope N ps scope) {pl : List (Addr × Obj)} (hpin : ∀ p ∈ pl, PinOk outer H s p) (e0 : Env0 P w K mg base A outer s H) (hl : vs.length = ps.length) (r : Vals vs us)
    (x : InCallC s s.heap.objs.size (bindL (envOfC qual scope s.heap.objs.size f cd).kindOf (ps.zip us) fun _ => none) (cellsFrom (s.heap.objs.size + 1) scope.names []) (bindC (envOfC qual scope s.heap.objs.size f cd).kindOf (ps.zip us) fun _ => none) s1) :
    Inv (cxL CX P w K mg base N qual scope f cd A outer s H E pl) [] (L2.start N vs) H s1 := by
  have hpl : ps.length ≤ N.length := by have := congrArg List.length S.pre; rw [List.length_take] at this; omega
  obtain ⟨h1, tk, rfl, hk⟩ := x.done
  have noA : ∀ b : Addr, b ∉ (cxL CX P w K mg base N qual scope f cd A outer s H E pl).ex := fun b z => absurd (show b ∈ ([] : List Addr) from z) (by simp)
  refine ⟨⟨e0.mod, S.kind, rfl, rfl, Nat.le_refl _, fun y z c h1 h2 => ?_, fun y hy => ?_, fun y c _ h => ?_, (fun z => Bool.noConfusion (show false = true from z)), Around.frames_deeper e0.frames, .inr ⟨rfl, rfl⟩, fun b z => absurd z (noA b), e0.bs, e0.bsz, fun b _ _ => noA b, fun b z => absurd z (noA b), e0.funs, e0.frf⟩,
    rfl, e0.bare, Un.kept hk, ⟨_, x.toInCall.ns, fun i y v h1 h2 h3 => ?_⟩, fun y c h => ⟨_, x.cell y c h⟩, e0.hok.fresh (Nat.le_refl _), fun y c h => ?_, fun q hq => ?_, e0.hok.kept hk, ?_⟩
  · exact name_of_addr x.apart (PySem.mem_of_lookup h1) (PySem.mem_of_lookup h2)
  · have hy : scope.names.lookup y = some .cell ∨ scope.names.lookup y = some .free := hy
    rcases hy with hy | hy
    · exact cell_has hy
    · exact absurd rfl (S.nofree _ (PySem.mem_of_lookup hy))
  · exact Nat.le_of_lt (x.above y c (PySem.mem_of_lookup h))
  · have hi : i < vs.length := by
      unfold L2.start at h2
      by_cases hi : i < vs.length
      · exact hi
      · rw [List.getElem?_append_right (by simpa using hi)] at h2
        rw [List.getElem?_replicate] at h2
        split at h2 <;> cases h2
    have ha : vs[i]? = some v := by
      unfold L2.start at h2
      rw [List.getElem?_append_left (by simpa using hi), List.getElem?_map] at h2
      cases e : vs[i]? with
      | none => rw [e] at h2; cases h2
      | some a => rw [e] at h2; cases h2; rfl
    obtain ⟨u, hu, rv⟩ := r.get ha
    have hp : ps[i]? = some y := by
      rw [← S.pre, List.getElem?_take_of_lt (by omega)]; exact h1
    have ndP : ps.Nodup := by rw [← S.pre]; exact S.nd.sublist (List.take_sublist _ _)
    refine ⟨u, rv, ?_⟩
    rcases S.par y (List.mem_of_getElem? hp) with k | k
    · exact .inl ⟨k, bindL_get ndP hp hu k⟩
    · obtain ⟨c, e⟩ := cell_has (n := s.heap.objs.size + 1) k
      refine .inr ⟨.inl k, c, e, ?_⟩
      have q := x.cell y c e
      rw [bindC_get ndP hp hu (by show scope.names.lookup y ≠ _; rw [k]; decide)] at q
      exact q
  · exact e0.hok.fresh (Nat.le_of_lt (x.above y c (PySem.mem_of_lookup h)))
  · have hq' : q ∈ pl := by simpa using (show q ∈ pl ++ ([] : List (Addr × Obj)) from hq)
    have z := hpin q hq'
    exact ⟨hk q.1 q.2 z.get, z.free, Nat.ne_of_lt (Heap.lt_size z.get), z.nofs, z.nocell⟩
  · unfold L2.start
    show _ = N.length
    rw [List.length_append, List.length_map, List.length_replicate]
    omega
structure FnQ0 (P : Program) (w : World) (K : PySem.W.Frag) (mg : Str → Option Value) (base : Heap) (k : Nat) (f : Addr) (fd : FuncData) (ps : List Str) (sp : SpP) : Prop where
  len : ∀ p vs H Q, sp p vs H Q → vs.length = ps.length
  run : ∀ (A : Around) (outer : List Env) (s : Shared) (H : Hp) (args : Args) (us : List Value) (vs : List V) (Q : VK) (p : Addr × Obj) (pl : List (Addr × Obj)), L2H.RoomH k A → HotP A pl p → (∀ q ∈ pl, L2H.PinOk outer H s q) → Env0 P w K mg base A outer s H → BindsTo s fd args (ps.zip us) → Vals vs us → sp p vs H Q →
    codeAny (model P w) A (.call (.ref f) args) (CR CX0 outer P w H s Q E0) s
theorem Fun_okQ {P : Program} {w : World} {K : PySem.W.Frag} {mg : Str → Option Value} {base : Heap} {x qual : Str} {st : Stmt} {f : Addr} {fd : FuncData} {N ps : List Str} {k : Nat} {sp : SpP} (F : Fun K x qual st f fd) (S : FnScope N ps (defScope st)) (len : ∀ p vs H Q, sp p vs H Q → vs.length = ps.length)
    (hbody : ∀ (cdv : Value) (A : Around) (outer : List Env) (s : Shared) (H : Hp) (vs : List V) (Q : VK) (p : Addr × Obj) (pl : List (Addr × Obj)), HotP A pl p → L2H.RoomH k (A.deeper (envOfC qual (defScope st) s.heap.objs.size f cdv)) → sp p vs H Q →
      ∃ t, PSs (cxL CX0 P w K mg base N qual (defScope st) f cdv A outer s H E0 pl).nox (defBody st) t ∧ t { nx := fun _ H' => Q .non H', rt := Q } (L2.start N vs) H) : FnQ0 P w K mg base (k + 1) f fd ps sp := by
  obtain ⟨oc, od, kV, doc, pm, an, cdv, ct, osl, rfl, lk, hcd⟩ := F.ex
  refine ⟨len, fun A outer s H args us vs Q p pl hr hot hpin e0 hb r hsp => ?_⟩
  have hl := len _ _ _ _ hsp
  have KX : K.In s.heap := e0.mod.kin.keeps fun b o e => (e0.bs b o e).1
  refine codeAny_call_function hr.depth (KX _ _ lk) rfl S.co S.gen rfl (PySem.W.codeRec_of KX hcd) (hb _ _ _ _ ?_)
  have hkind : ∀ y ∈ ps.zip us, (defScope st).names.lookup y.1 = some .local ∨ ((defScope st).names.lookup y.1 = some .cell ∧ ((cellsFrom (s.heap.objs.size + 1) (defScope st).names []).lookup y.1).isSome = true) := by
    intro y hy
    obtain ⟨n, v⟩ := y
    exact (S.par n (List.of_mem_zip hy).1).imp id fun q => ⟨q, PySem.W.cellsFrom_some _ _ _ (.inl q)⟩
  refine wpAny_newFunctionEnv_cells S.kind hkind fun env he s1 x => ?_
  subst he
  refine ⟨(e0.mod.nolimit.keeps fun b o e => (e0.bs b o e).1).keeps x.toInCall.keep, codeAny_func ?_⟩
  obtain ⟨t, ht, hq⟩ := hbody cdv A outer s H vs Q p pl hot (hr.deeper _) hsp
  refine wpAny_mono (ht.nox.run [] s1 (L2.start N vs) H _ (inv_startL S hpin e0 hl r x) hq) (fun fl s' hs => ?_) fun e s' hs => hs
  have fin : ∀ {σ' : L2.St} {H' : Hp} {v : V} {u : Value}, Inv (cxL CX0 P w K mg base N qual (defScope st) f cdv A outer s H E0 pl) [] σ' H' s' → RelV v u → Q v H' → CE outer P w H s Q u s' :=
    fun {σ' H' v u} J rv q => ⟨v, H', J.os, J.bare, J.base, J.hok, rv, q⟩
  match fl, hs with
  | .ret u, ⟨v, σ', H', J, rv, q⟩ => exact fin J rv q
  | .next, ⟨σ', H', J, q⟩ => exact fin (v := V.non) (u := Value.none) J rfl q
  | .brk, ⟨_, _, _, q⟩ => exact q.elim
  | .cont, ⟨_, _, _, q⟩ => exact q.elim
structure FnQ (P : Program) (w : World) (K : PySem.W.Frag) (mg : Str → Option Value) (base : Heap) (x : Str) (k : Nat) (ps : List Str) (sp : SpP) : Prop where
  ex : ∃ (f : Addr) (fd : FuncData), FnQ0 P w K mg base k f fd ps sp ∧ mg x = some (.ref f) ∧ PySem.W.keepIn K (.ref f) = true ∧ Binds K fd ps []
theorem pe_fq {X : Cx} {x : Str} {k : Nat} {ps : List Str} {sp : SpP} {e : Expr} {es : List Expr} {t : TA} {q pos : Pos} {a : Addr} {oe : Obj} {cls : Value} {d : Option Addr} (F : FnQ X.prog X.w X.K X.mg X.base x k ps sp) (hp : (a, oe) ∈ X.pn) (hz : Zc cls d oe) (hf : ∃ vs, oe.data = .fields vs) (hot : HotD X) (hh : X.A.handled = some (.ref a)) (hr : L2H.RoomH k X.A) (hg : Gl X x) (ha : PA X (e :: es) t)
    (hdb : (x == ("__debug__" : Str)) = false := by decide) (he : starEach (e :: es) X.env = (false, eval e X.env) :: starEach es X.env := by rfl) (hpl : (backTo pos (starEach es X.env)).any (·.1) = false := by rfl) :
    PE X (.Call (.Name x q) (e :: es) [] pos) (tCallP sp a cls d t) := by
  obtain ⟨f, fd, G, hm, hk, hb⟩ := F.ex
  refine ⟨fun pins s σ H Q I h => ?_⟩
  refine wpAny_Call_Name_kw (ld_glob I hg hm ?_ hdb)
  refine PySem.W.callWith_K (h₀ := X.base) I.ok.mod.kin hk (thn (ha.run pos pins s σ H _ I h) fun us s1 ⟨vs, H1, I1, r, q⟩ => ⟨I1.kIn, ?_⟩) he hpl
  have q := q oe hz hf
  have hl : us.length = ps.length := by rw [← r.length]; exact G.len _ _ _ _ q
  have b := hb s1 us I1.kIn (by rw [List.append_nil]; exact hl)
  rw [List.append_nil] at b
  have hpin : ∀ p ∈ X.pn, L2H.PinOk X.stack H1 s1 p := fun p hp => by
    have P1 := I1.pin p (List.mem_append_left _ hp)
    exact ⟨P1.1, P1.2.1, fun hm => (List.mem_cons.mp (I1.stkSub p.1 hm)).elim P1.2.2.1 P1.2.2.2.1, P1.2.2.2.2⟩
  have hot' : HotP X.A X.pn (a, oe) := by
    obtain ⟨p', m1, m2, m3⟩ := hot
    have e1 : p'.1 = a := by
      rw [hh] at m2
      cases m2
      rfl
    refine ⟨hp, hh, ?_⟩
    rw [e1] at m3
    exact m3
  show wpAny _ _ (call (.ref f) us) _ _ _
  refine wpAny_call (codeAny_mono (G.run X.A X.stack s1 H1 ⟨us, []⟩ us vs Q (a, oe) X.pn hr hot' hpin I1.env0 b r q) fun r s' hq => ?_)
  match r, hq with
  | .error e, hq => exact False.elim hq
  | .ok (.ret u), hq => exact I1.after hq
  | .ok .next, hq => exact False.elim hq
  | .ok .brk, hq => exact False.elim hq
  | .ok .cont, hq => exact False.elim hq
theorem hotD_of {CX : CXT} {P : Program} {w : World} {K : PySem.W.Frag} {mg : Str → Option Value} {base : Heap} {N : List Str} {qual : Str} {scope : Scope} {f : Addr} {cd : Value} {A : Around} {outer : List Env} {s : Shared} {H : Hp} {E : XK} {pl : List (Addr × Obj)} {p : Addr × Obj} (h : HotP A pl p) :
    HotD (cxL CX P w K mg base N qual scope f cd A outer s H E pl).nox := ⟨p, h.mem, h.hd, h.ch⟩
end Bw

/-! lambdas whose exceptions bear a chain that ends -/
namespace Bw
open PySem PySem.Spec PyProof.Rows L2 LamX
section
variable {X : Cx} {pins : List (Addr × Obj)} {σ : L2.St} {H HZ : Hp} {s s1 : Shared}
/-- the context of the lambda's body, entered at s from the frames outer -/
def lamCxC (X : Cx) (A : Around) (outer : List Env) (s : Shared) (H : Hp) (E : XK) (scope : Scope) (f c' : Addr) : Cx where
  prog := X.prog
  w := X.w
  K := X.K
  mg := X.mg
  base := X.base
  A := A.deeper (lamEnv X scope s.heap.objs.size f c')
  N := X.N
  s_0 := s
  H_0 := H
  env := lamEnv X scope s.heap.objs.size f c'
  outer := outer
  stack := lamEnv X scope s.heap.objs.size f c' :: outer
  ex := []
  fn := fun _ => false
  calm := true
  pn := []
  xe := fun e s' => wpAny (model X.prog X.w) (A.deeper (lamEnv X scope s.heap.objs.size f c')) (leaving (lamEnv X scope s.heap.objs.size f c') e) (fun _ s'' => CXc X.prog X.w outer H s E e s'') (fun e' s'' => CXc X.prog X.w outer H s E e' s'') s'
theorem lam_startC {A : Around} {outer : List Env} {E : XK} {scope : Scope} {f c' : Addr} {h₁ : Heap} {tk : Nat} (I : Inv X pins σ H s) (L : LamS X.env.scope scope) (e0 : Env0 X.prog X.w X.K X.mg X.base A outer s1 HZ) (hd : A.handled = none)
    (un : Un (frs X.stack) [] H HZ s.heap s1.heap) (hns : h₁.Ns s1.heap.objs.size fun y => ([] : List (Str × Value)).reverse.lookup y) (kp : ∀ b o, s1.heap.get? b = some o → h₁.get? b = some o) :
    Inv (lamCxC X A outer s1 HZ E scope f c') [] σ HZ { s1 with heap := h₁, toks := tk } := by
  have hfree := L.has I.ok
  have cm : ∀ {y c}, (cloFrom X.env.cells scope.names []).lookup y = some c → X.env.cells.lookup y = some c := fun {y c} e => by
    rcases cloFrom_mem (PySem.mem_of_lookup e) with hm | ⟨h1, h2⟩
    · cases hm
    · obtain ⟨c1, hc⟩ := hfree _ h1 rfl
      have hc : X.env.cells.lookup y = some c1 := hc
      have e2 : c = c1 := by
        rw [h2, hc] <;> rfl
      rw [e2]
      exact hc
  have look : ∀ {y}, scope.names.lookup y = some .free → ∃ c, (cloFrom X.env.cells scope.names []).lookup y = some c := fun {y} hl => by
    have hy : (y, NameKind.free) ∈ scope.names := PySem.mem_of_lookup hl
    exact mem_lookup (cloFrom_has (cells := X.env.cells) (acc := []) hy)
  have cellK : ∀ {c : Addr} {v : Option Value}, H c = none → s.heap.IsCell c v → h₁.IsCell c v := fun {c v} n ⟨o, ho, hd⟩ => by
    obtain ⟨sl, q⟩ := un.any ho n (by simp)
    exact ⟨_, kp _ _ q, hd⟩
  have noA : ∀ b : Addr, b ∉ (lamCxC X A outer s1 HZ E scope f c').ex := fun b z => absurd (show b ∈ ([] : List Addr) from z) (by simp)
  refine ⟨⟨e0.mod, L.kind, rfl, rfl, Nat.le_refl _, fun y z c e1 e2 => I.ok.inj y z c (cm e1) (cm e2), fun y hy => ?_, fun y c z _ => ?_, fun _ => hd, Around.frames_deeper e0.frames, .inr ⟨rfl, rfl⟩, fun b z => absurd z (noA b), e0.bs, e0.bsz, fun b _ _ => noA b,
      fun b z => absurd z (noA b), e0.funs, e0.frf⟩,
    rfl, e0.bare, Un.kept kp, ⟨_, hns, fun i y v e1 e2 e3 => ?_⟩, fun y c e => ?_, e0.hok.fresh (Nat.le_refl _), fun y c e => ?_, fun q hq => absurd (show q ∈ ([] : List (Addr × Obj)) ++ [] from hq) (by simp), e0.hok.kept kp, I.len⟩
  · have hy : scope.names.lookup y = some .cell ∨ scope.names.lookup y = some .free := hy
    rcases hy with hy | hy
    · exact absurd rfl (L.own _ (PySem.mem_of_lookup hy)).2
    · exact look hy
  · have z : false = true := z
    cases z
  · have e3 : Vis scope y := e3
    rcases e3 with k | k | k
    · exact absurd rfl (L.own _ (PySem.mem_of_lookup k)).1
    · exact absurd rfl (L.own _ (PySem.mem_of_lookup k)).2
    · obtain ⟨m, hn, hl⟩ := I.loc
      have hvis : Vis X.env.scope y := (L.free _ (PySem.mem_of_lookup k) rfl).elim (fun k => .inr (.inl k)) (fun k => .inr (.inr k))
      obtain ⟨w', r, q⟩ := hl i y v e1 e2 hvis
      obtain ⟨c2, h2⟩ := look k
      refine ⟨w', r, .inr ⟨.inr k, c2, h2, ?_⟩⟩
      have c1 := cm h2
      rcases q with ⟨k', _⟩ | ⟨_, c3, e', z⟩
      · have k' : X.env.scope.names.lookup y = some .local := k'
        rcases L.free _ (PySem.mem_of_lookup k) rfl with k2 | k2 <;> rw [show X.env.scope.names.lookup y = _ from k2] at k' <;> cases k'
      · rw [c1] at e'
        cases e'
        exact cellK (I.freeC y _ c1) z
  · obtain ⟨w', z⟩ := I.cell y c (cm e)
    exact ⟨w', cellK (I.freeC y c (cm e)) z⟩
  · obtain ⟨v, o, ho, hd⟩ := I.cell y c (cm e)
    exact un.free c o ho (I.freeC y c (cm e)) (by simp)
/-- x(), in the def that got the lambda: Z is that def's context, entered at s -/
theorem pe_actC {CXg : CXT} {Eg : XK} {Ng : List Str} {qg : Str} {sg : Scope} {g f c' : Addr} {cdg pm ctv : Value} {params : Arguments} {body : Expr} {scope : Scope} {k i : Nat} {a : Str} {pn : List (Addr × Obj)} {xe : Value → Shared → Prop} {W : WX} {E : XK} {tb : TE} {p1 p2 : Pos}
    (I : Inv X pins σ H s) (L : LamS X.env.scope scope) (hf : s.heap.get? f = some (PySem.W.kla_obj "<lambda>" (X.env.qual ++ "<lambda>") params body scope (cloFrom X.env.cells scope.names []) pm c' ctv)) (hfn : H f = none) (hfr : f ∉ frs X.stack)
    (hbind : bindArgs (PySem.W.kla_fn "<lambda>" (X.env.qual ++ "<lambda>") params body scope (cloFrom X.env.cells scope.names []) pm (.ref c') ctv) ⟨[], []⟩ = pure [])
    (tk : TakesC ((cxOf CXg X.prog X.w X.K X.mg X.base Ng qg sg g cdg X.A X.stack s H Eg).tr pn xe) W) (hW : ∀ cls d σ' H', E cls d H' → W cls d σ' H') (hr : Room (k + 1) (X.A.deeper (envOfC qg sg s.heap.objs.size g cdg)))
    (hbody : ∀ (A : Around) (outer : List Env) (s : Shared) (H : Hp), Room k (A.deeper (lamEnv X scope s.heap.objs.size f c')) → PE (lamCxC X A outer s H E scope f c') body tb)
    (hN : Ng[i]? = some a) (hv : Vis sg a) (hd : (a == ("__debug__" : Str)) = false := by decide) (hcd : (a == ("__classdict__" : Str)) = false := by decide) :
    PE ((cxOf CXg X.prog X.w X.K X.mg X.base Ng qg sg g cdg X.A X.stack s H Eg).tr pn xe) (.Call (.Name a p1) [] [] p2)
      (fun σZ HZ Q => σZ[i]? = some (some (.ref f)) ∧ HZ c' = some (CodeO c' (X.env.qual ++ "<lambda>")) ∧ tb σ HZ Q) := by
  refine ⟨fun pinsZ sZ σZ HZ Q IZ h => ?_⟩
  obtain ⟨hs, hc, ht⟩ := h
  refine wpAny_Call_Name_kw (thn ((pe_var (pos := p1) (i := i) hN hv hd hcd).run pinsZ sZ σZ HZ (fun v H1 => v = .ref f ∧ H1 = HZ) IZ ⟨.ref f, hs, rfl, rfl⟩) fun u s1 ⟨v, H1, I1, r1, q1⟩ => ?_)
  obtain ⟨ev, eH⟩ := q1
  subst ev
  rw [eH] at I1
  obtain rfl : u = Value.ref f := r1
  have of1 : s1.heap.get? f = some (PySem.W.kla_obj "<lambda>" (X.env.qual ++ "<lambda>") params body scope (cloFrom X.env.cells scope.names []) pm c' ctv) := I1.base.keep f _ hf hfn hfr (fun z => nomatch (show f ∈ ([] : List Addr) from z))
  refine PySem.W.callWith_F0 ⟨_, _, _, _, of1⟩ ?_
  have un : Un (frs X.stack) [] H HZ s.heap s1.heap := I1.base
  obtain ⟨⟨oc, vs, t, hoc, hdc, hvc⟩, _, _⟩ := I1.hok c' _ hc
  have rc : codeAny (model X.prog X.w) (X.A.deeper (envOfC qg sg s.heap.objs.size g cdg)) (.call (.ref f) ⟨[], []⟩) (CR (CXc X.prog X.w) (envOfC qg sg s.heap.objs.size g cdg :: X.stack) X.prog X.w HZ s1 Q E) s1 := by
    refine PySem.W.kla_callFunE hr.depth of1 rfl L.co L.gen rfl ⟨c', oc, vs, t, rfl, hoc, hdc, hvc⟩ ?_
    rw [hbind]
    refine wpAny_pure (wpAny_newFunctionEnv (fun y hy => (L.own y hy).2) (fun y hy => absurd hy (by simp)) (fun h₁ hns hsb => ⟨I1.nolimit.fresh _ hsb, ?_⟩) L.kind)
    show codeAny _ _ (.expr body (lamEnv X scope s1.heap.objs.size f c')) _ _
    have kp : ∀ b o, s1.heap.get? b = some o → h₁.get? b = some o := fun b o e => hsb.extBut b o (Nat.ne_of_lt (Heap.lt_size e)) (Heap.get?_push_of_some _ e)
    have J : Inv (lamCxC X (X.A.deeper (envOfC qg sg s.heap.objs.size g cdg)) (envOfC qg sg s.heap.objs.size g cdg :: X.stack) s1 HZ E scope f c') [] σ HZ { s1 with heap := h₁, toks := s1.toks + ([] : List (Str × Value)).length } :=
      lam_startC I L I1.env0 hr.hd un hns kp
    refine PySem.W.kla_codeExpr (wpAny_mono ((hbody _ _ s1 HZ (hr.deeper _)).run [] _ _ HZ Q J ht) (fun v s' hq => ?_) fun e s' hq => hq)
    obtain ⟨w', H', J', rv, q⟩ := hq
    exact ⟨w', H', J'.os, J'.bare, J'.base, J'.hok, rv, q⟩
  have hx : Passes (CXc X.prog X.w) ((cxOf CXg X.prog X.w X.K X.mg X.base Ng qg sg g cdg X.A X.stack s H Eg).tr pn xe) E := passesC_call tk hW
  refine wpAny_call (codeAny_mono rc fun r s' hq => ?_)
  cases r with
  | error e => exact hx pinsZ σZ HZ s1 e s' I1 hq
  | ok fl =>
    cases fl with
    | ret u => exact I1.after hq
    | next => exact False.elim hq
    | brk => exact False.elim hq
    | cont => exact False.elim hq
end
/-- the def that calls what it got: a calls it; TT: what it makes of the lambda's reading -/
def GivesC (X : Cx) (Ng : List Str) (x : Str) (sg : Scope) (g : Addr) (cdg : Value) (bg : List Stmt) (a : Str) (q : Str) (TT : (XK → Hp → VK → Prop) → Hp → VK → Prop) : Prop :=
  ∀ (f c' : Addr) (s : Shared) (H : Hp) (Q : VK) (tl : XK → Hp → VK → Prop),
    (∀ (W : WX) (pn : List (Addr × Obj)) (xe : Value → Shared → Prop) (E : XK) (p1 p2 : Pos), TakesC ((cxOf C8.CX0 X.prog X.w X.K X.mg X.base Ng x sg g cdg X.A X.stack s H C8.E0).tr pn xe) W → (∀ cls d σ' H', E cls d H' → W cls d σ' H') →
      PE ((cxOf C8.CX0 X.prog X.w X.K X.mg X.base Ng x sg g cdg X.A X.stack s H C8.E0).tr pn xe) (.Call (.Name a p1) [] [] p2) (fun σZ HZ Q => σZ[0]? = some (some (.ref f)) ∧ HZ c' = some (CodeO c' q) ∧ tl E HZ Q)) →
    H c' = some (CodeO c' q) → TT tl H Q →
    ∃ t, PSs (cxOf C8.CX0 X.prog X.w X.K X.mg X.base Ng x sg g cdg X.A X.stack s H C8.E0).nox bg t ∧ t { nx := fun _ H' => Q .non H', rt := Q } (L2.start Ng [.ref f]) H
section
variable {X : Cx}
/-- x(lambda: body) -/
theorem pe_lamcallC {T : List (Addr × Str)} {TT : (XK → Hp → VK → Prop) → Hp → VK → Prop} {x a : Str} {g c P : Addr} {k : Nat} {pg : Arguments} {bg : List Stmt} {sg : Scope} {dV kV doc pm cdv ct oc : Value} {an od : Option Addr} {osl : Array (Option Value)} {Ng : List Str}
    {params : Arguments} {body : Expr} {scope : Scope} {t : XK → TE} {p lpos pos : Pos} (hg : Gl X x) (hm : X.mg x = some (.ref g)) (hk : PySem.W.keepIn X.K (.ref g) = true)
    (lk : X.K.lookup g = some ⟨oc, od, .func (PySem.W.fnOf x x pg bg sg dV kV doc pm an cdv ct), osl⟩) (hcg : PySem.W.codeIn X.K cdv x = true) (hb : L2.Binds X.K (PySem.W.fnOf x x pg bg sg dV kV doc pm an cdv ct) [a] []) (Sg : FnScope Ng [a] sg) (hNg : Ng[0]? = some a) (hva : Vis sg a)
    (hG : GivesC X Ng x sg g cdv bg a (X.env.qual ++ "<lambda>") TT)
    (TB : TabB X.base X.mg c P) (hcode : X.env.code = .ref c) (hmT : (P, X.env.qual ++ "<lambda>") ∈ T) (hu : ∀ p ∈ T, p.1 = P → p.2 = X.env.qual ++ "<lambda>") (hr : Room (k + 2) X.A) (L : LamS X.env.scope scope) (hdef : defaultsOf params X.env = ([], []))
    (hbind : ∀ (q : Str) (cl : List (Str × Addr)) (pm cv ctv : Value), bindArgs (PySem.W.kla_fn "<lambda>" q params body scope cl pm cv ctv) ⟨[], []⟩ = pure [])
    (hbody : ∀ (A : Around) (outer : List Env) (s : Shared) (H : Hp) (E : XK) (f c' : Addr), Room k (A.deeper (lamEnv X scope s.heap.objs.size f c')) → PE (lamCxC X A outer s H E scope f c') body (t E))
    (hdb : (x == ("__debug__" : Str)) = false := by decide) (hd : (a == ("__debug__" : Str)) = false := by decide) (hcd : (a == ("__classdict__" : Str)) = false := by decide) :
    PE X (.Call (.Name x p) [.Lambda params body scope lpos] [] pos) (tLam T TT t) := by
  refine ⟨fun pins s σ H Q I h => ?_⟩
  obtain ⟨hT, h⟩ := h
  refine wpAny_Call_Name_kw (ld_glob I hg hm ?_ hdb)
  refine PySem.W.callWith_K (h₀ := X.base) I.ok.mod.kin hk ?_ (by rfl) (by rfl)
  show wpAny _ _ (spliced ((false, eval (.Lambda params body scope lpos) X.env) :: backTo pos (starEach [] X.env))) _ _ s
  refine Calls.spliced_cons (lam_make2 I TB hcode hmT hu hT hdef (L.has I.ok) fun f c' pm' ctv H1 s' I1 eN T1 hf hfn hfr hco => ?_)
  refine Calls.spliced_nil ⟨I1.kIn, ?_⟩
  have rc : codeAny (model X.prog X.w) X.A (.call (.ref g) ⟨[.ref f], []⟩) (CR C8.CX0 X.stack X.prog X.w H1 s' Q C8.E0) s' := by
    refine run_ofS (N := Ng) (ps := [a]) (us := [.ref f]) (vs := [.ref f]) lk hcg Sg hr I1.env0 (hb s' [.ref f] I1.kIn rfl) (.cons rfl .nil) rfl fun hr' => ?_
    obtain ⟨t', ht', hq'⟩ := hG f c' s' H1 Q (fun E H' Q' => t E σ H' Q') (fun W pn xe E p1 p2 tk hW => pe_actC (i := 0) I1 L hf hfn hfr (hbind _ _ _ _ _) tk hW hr' (fun A outer s H hr2 => hbody A outer s H E f c' hr2) hNg hva hd hcd) hco (h H1 eN T1)
    exact ⟨t', ht'.nox, hq'⟩
  refine wpAny_call (codeAny_mono rc fun r s2 hq => ?_)
  cases r with
  | error e => exact (show False from hq).elim
  | ok fl =>
    cases fl with
    | ret u => exact I1.after hq
    | next => exact False.elim hq
    | brk => exact False.elim hq
    | cont => exact False.elim hq
end
section
variable {P : Program} {w : World} {K : PySem.W.Frag} {mg : Str → Option Value} {base : Heap}
/-- the def x is handed a lambda without parameters, and calls it -/
structure AsksC (P : Program) (w : World) (K : PySem.W.Frag) (mg : Str → Option Value) (base : Heap) (x a : Str) (N : List Str) (st : Stmt) (k : Nat) (TT : (XK → Hp → VK → Prop) → Hp → VK → Prop) : Prop where
  ex : ∃ (g : Addr) (fd : FuncData), Fun K x x st g fd ∧ mg x = some (.ref g) ∧ Binds K fd [a] []
  sc : FnScope N [a] (defScope st)
  n0 : N[0]? = some a
  va : Vis (defScope st) a
  gives : ∀ X : Cx, X.prog = P → X.w = w → X.K = K → X.mg = mg → X.base = base → Room k X.A → ∀ (g : Addr) (cdg : Value) (q : Str), GivesC X N x (defScope st) g cdg (defBody st) a q TT
end
theorem pe_asksC {X : Cx} {x a : Str} {N : List Str} {st : Stmt} {k j : Nat} {TT : (XK → Hp → VK → Prop) → Hp → VK → Prop} {T : List (Addr × Str)} {c P : Addr} {params : Arguments} {body : Expr} {scope : Scope} {t : XK → TE} {p lpos pos : Pos}
    (A : AsksC X.prog X.w X.K X.mg X.base x a N st k TT) (hg : Gl X x) (TB : TabB X.base X.mg c P) (hcode : X.env.code = .ref c) {ql : Str} (hql : X.env.qual = ql) (hmT : (P, ql ++ "<lambda>") ∈ T) (hu : ∀ p ∈ T, p.1 = P → p.2 = ql ++ "<lambda>") (hr1 : Room k X.A) (hr : Room (j + 2) X.A) (L : lamSB X.env.scope scope = true) (hdef : defaultsOf params X.env = ([], []))
    (hbind : ∀ (q : Str) (cl : List (Str × Addr)) (pm cv ctv : Value), bindArgs (PySem.W.kla_fn "<lambda>" q params body scope cl pm cv ctv) ⟨[], []⟩ = pure [])
    (hbody : ∀ (A : Around) (outer : List Env) (s : Shared) (H : Hp) (E : XK) (f c' : Addr), Room j (A.deeper (lamEnv X scope s.heap.objs.size f c')) → PE (lamCxC X A outer s H E scope f c') body (t E))
    (hdb : (x == ("__debug__" : Str)) = false := by decide) (hd : (a == ("__debug__" : Str)) = false := by decide) (hcd : (a == ("__classdict__" : Str)) = false := by decide) :
    PE X (.Call (.Name x p) [.Lambda params body scope lpos] [] pos) (tLam T TT t) := by
  subst hql
  obtain ⟨g, fd, F, hm, hb⟩ := A.ex
  have kp := F.kp
  obtain ⟨oc, od, kV, doc, pm, an, cdv, ct, osl, rfl, lk, hcd'⟩ := F.ex
  exact pe_lamcallC hg hm kp lk hcd' hb A.sc A.n0 A.va (A.gives X rfl rfl rfl rfl rfl hr1 g cdv _) TB hcode hmT hu hr (lamS_by L) hdef hbind hbody hdb hd hcd
theorem takesLamC {X : Cx} {A : Around} {outer : List Env} {s : Shared} {H : Hp} {E : XK} {scope : Scope} {f c' : Addr} : TakesC (lamCxC X A outer s H E scope f c') (fun cls d _ H => E cls d H) := takesC_of rfl rfl rfl rfl
end Bw

/-! defs that raise, their exceptions with chains that end -/
namespace Bw
open PySem PySem.Spec PyProof.Rows L2
/-! ### defs that may raise, as their callers want them -/
structure FnY (P : Program) (w : World) (K : PySem.W.Frag) (mg : Str → Option Value) (base : Heap) (x : Str) (k : Nat) (ps : List Str) (sp : Sp) : Prop where
  ex : ∃ (f : Addr) (fd : FuncData), FnOk P w K mg base (CXc P w) k f fd ps sp ∧ mg x = some (.ref f) ∧ PySem.W.keepIn K (.ref f) = true ∧ Binds K fd ps []
structure MeY (P : Program) (w : World) (K : PySem.W.Frag) (mg : Str → Option Value) (base : Heap) (C : Addr) (m : Str) (k : Nat) (ps : List Str) (sp : Sp) : Prop where
  ex : ∃ (f : Addr) (fd : FuncData), FnOk P w K mg base (CXc P w) k f fd ps sp ∧ Meth K C m f ∧ Binds K fd ps []
structure MkrY (P : Program) (w : World) (K : PySem.W.Frag) (mg : Str → Option Value) (base : Heap) (x : Str) (C : Addr) (k : Nat) (ps : List Str) (dvs : List V) (sp : Sp) : Prop where
  ex : ∃ (f : Addr) (fd : FuncData) (ds : List Value), Mk K C f ∧ FnOk P w K mg base (CXc P w) k f fd ps sp ∧ mg x = some (.ref C) ∧ Binds K fd ps ds ∧ Vals dvs ds
section
variable {X : Cx}
/-- what a callee lets out is let out -/
abbrev LetsC (X : Cx) (E : XK) : Prop := Passes (CXc X.prog X.w) X E
theorem pe_fy {E : XK} {x : Str} {k : Nat} {ps : List Str} {sp : Sp} {e : Expr} {es : List Expr} {t : TA} {p pos : Pos} (F : FnY X.prog X.w X.K X.mg X.base x k ps sp) (hx : LetsC X E) (hr : Room k X.A) (hg : Gl X x) (ha : PA X (e :: es) t)
    (hdb : (x == ("__debug__" : Str)) = false := by decide) (he : starEach (e :: es) X.env = (false, eval e X.env) :: starEach es X.env := by rfl) (hpl : (backTo pos (starEach es X.env)).any (·.1) = false := by rfl) :
    PE X (.Call (.Name x p) (e :: es) [] pos) (tCall sp [] E t) := by
  obtain ⟨f, fd, G, hm, hk, hb⟩ := F.ex
  exact pe_call G hr hg hm hk hb .nil hx ha hdb he hpl
theorem pe_mey {E : XK} {pl : Sem Bool} {C : Addr} {m : Str} {k : Nat} {ps : List Str} {sp : Sp} {o e : Expr} {es : List Expr} {t : TA} {ta : TE} {apos pos : Pos} (he : PE X o ta) (c : Cls X.K C) (M : MeY X.prog X.w X.K X.mg X.base C m k ps sp) (hx : LetsC X E) (hr : Room k X.A) (ha : PA X (e :: es) t)
    (hst : starEach (e :: es) X.env = (false, eval e X.env) :: starEach es X.env := by rfl) (hpl : (backTo pos (starEach es X.env)).any (·.1) = false := by rfl)
    (ht : eval (.Call (.Attribute o m apos) (e :: es) [] pos) X.env = (do
      let ov ← eval o X.env
      standAt apos.atName
      let (f, first) ← holding [ov] (getMethod ov m pl)
      callWith pos f first (backTo pos (starEach (e :: es) X.env)) (backToKw pos (keywordEach [] X.env))) := by rfl) :
    PE X (.Call (.Attribute o m apos) (e :: es) [] pos) (tMeth C m sp [] E ta t) := by
  obtain ⟨f, fd, G, hm, hb⟩ := M.ex
  exact pe_meth he c hm G hr hb .nil hx ha hst hpl ht
theorem pe_mey0 {E : XK} {pl : Sem Bool} {C : Addr} {m : Str} {k : Nat} {ps : List Str} {sp : Sp} {o : Expr} {ta : TE} {apos pos : Pos} (he : PE X o ta) (c : Cls X.K C) (M : MeY X.prog X.w X.K X.mg X.base C m k ps sp) (hx : LetsC X E) (hr : Room k X.A)
    (ht : eval (.Call (.Attribute o m apos) [] [] pos) X.env = (do
      let ov ← eval o X.env
      standAt apos.atName
      let (f, first) ← holding [ov] (getMethod ov m pl)
      callWith pos f first (backTo pos (starEach [] X.env)) (backToKw pos (keywordEach [] X.env))) := by rfl) :
    PE X (.Call (.Attribute o m apos) [] [] pos) (tMeth C m sp [] E ta tNil) := by
  obtain ⟨f, fd, G, hm, hb⟩ := M.ex
  exact pe_meth0 he c hm G hr hb .nil hx ht
theorem pe_mky {E : XK} {x : Str} {C : Addr} {k : Nat} {ps : List Str} {dvs : List V} {sp : Sp} {e : Expr} {es : List Expr} {t : TA} {p pos : Pos} (M : MkrY X.prog X.w X.K X.mg X.base x C k ps dvs sp) (hx : LetsC X E) (hr : Room (k + 1) X.A) (hg : Gl X x) (ha : PA X (e :: es) t)
    (hdb : (x == ("__debug__" : Str)) = false := by decide) (he : starEach (e :: es) X.env = (false, eval e X.env) :: starEach es X.env := by rfl) (hpl : (backTo pos (starEach es X.env)).any (·.1) = false := by rfl) :
    PE X (.Call (.Name x p) (e :: es) [] pos) (tMake C sp dvs E t) := by
  obtain ⟨f, fd, ds, M, G, hm, hb, hd⟩ := M.ex
  exact pe_make M G hr hg hm hb hd hx ha hdb he hpl
theorem lets_ofC {E : XK} (tk : TakesC X (fun cls d _ H => E cls d H)) : LetsC X E := passesC_call tk fun _ _ _ _ h => h
theorem u1H {k : Nat} {A : Around} (r : L2H.RoomH k A) : A.units + 1 < cLine := by have := r.un; omega
theorem letsC0 : LetsC X E0 := fun _ _ _ _ _ _ _ h => by obtain ⟨_, _, _, _, _, _, _, _, _, _, _, _, z⟩ := h; exact z.elim
end
/-- a def's own wish -/
theorem takesY {P : Program} {w : World} {K : PySem.W.Frag} {mg : Str → Option Value} {base : Heap} {N : List Str} {qual : Str} {scope : Scope} {f : Addr} {cdv : Value} {A : Around} {outer : List Env} {s : Shared} {H : Hp} {E : XK} :
    TakesC (cxOf (CXc P w) P w K mg base N qual scope f cdv A outer s H E) (fun cls d _ H => E cls d H) := takesC_of rfl rfl rfl rfl
theorem Fun_okY {P : Program} {w : World} {K : PySem.W.Frag} {mg : Str → Option Value} {base : Heap} {x qual : Str} {st : Stmt} {f : Addr} {fd : FuncData} {N ps : List Str} {k : Nat} {sp : Sp} (F : Fun K x qual st f fd) (S : FnScope N ps (defScope st)) (len : ∀ vs H Q E, sp vs H Q E → vs.length = ps.length)
    (hbody : ∀ (cdv : Value) (A : Around) (outer : List Env) (s : Shared) (H : Hp) (vs : List V) (Q : VK) (E : XK), Room k (A.deeper (envOfC qual (defScope st) s.heap.objs.size f cdv)) → sp vs H Q E →
      ∃ t, PSs (cxOf (CXc P w) P w K mg base N qual (defScope st) f cdv A outer s H E) (defBody st) t ∧ t { nx := fun _ H' => Q .non H', rt := Q } (L2.start N vs) H) : FnOk P w K mg base (CXc P w) (k + 1) f fd ps sp := by
  obtain ⟨oc, od, kV, doc, pm, an, cdv, ct, osl, rfl, lk, hcd⟩ := F.ex
  exact fn_of lk hcd S len fun A outer s H vs Q E hr hsp => hbody cdv A outer s H vs Q E hr hsp
section
variable {X : Cx}
theorem pmk_own0N {C : Addr} {bmB : List Value} {B newId initId : String} {x : Str} {p pos : Pos} (F : ExcBaseFacts B newId initId bmB) (q : PySem.W.excIn X.K C bmB newId = true) (gC : X.mg x = some (.ref C))
    (kC : PySem.W.keepIn X.K (.ref C) = true) (r : Raises X (.ref C)) (hg : Gl X x) (hdb : (x == ("__debug__" : Str)) = false := by decide) : L2N.PMk X (.Call (.Name x p) [] [] pos) (fun _ H Q => Q (.ref C) none H) := by
  intro pins s σ H Q I h
  refine wpAny_Call_Name_kw (ld_glob I hg gC ?_ hdb)
  refine PySem.W.callWith_K0 I.kIn kC ?_
  show wpAny _ _ (call (.ref C) []) _ _ _
  obtain ⟨bm, N, nm, qn, bs, hdct, sn, sub, ab, col, dd, k0, k1, k2, k3, k5, mN, hC, hN, hni, T⟩ := exc_obj I.kIn q
  refine wpAny_call_exc_subT F T hC hN hni (fun h' e hm => ?_) (by show 0 ≤ sizeLine; exact Nat.zero_le _)
  exact L2N.mk_of I hm r h (I.hok.gone hm.new)
theorem pmk_ownVN {C : Addr} {x : Str} {p pos : Pos} (h : XpV X.K C) (gC : X.mg x = some (.ref C)) (hg : Gl X x) (hdb : (x == ("__debug__" : Str)) = false := by decide) : L2N.PMk X (.Call (.Name x p) [] [] pos) (fun _ H Q => Q (.ref C) none H) :=
  pmk_own0N F.excBase_ValueError h.q gC h.kp (raises_own h.h1 h.h2) hg hdb
end
section
variable {X : Cx} {o e : Expr} {es : List Expr} {to te : TE} {ta : TA} {f : Str} {p p' p1 p2 pos : Pos}
theorem mk_endN {pins : List (Addr × Obj)} {σ : L2.St} {H1 H2 : Hp} {Q : XK} {hp hp2 h2 : Heap} {g1 g2 : Array GenState} {d1 d2 : Drawn} {t1 t2 : Nat} {os1 os2 : OsState} {a C d : Addr} {fs : List (Str × V)} (T : Raises X (.ref C)) (I1 : Inv X pins σ H1 ⟨hp, g1, d1, t1, os1⟩)
    (ha : hp.objs.size ≤ a) (k : ∀ b o, hp.get? b = some o → hp2.get? b = some o) (un : Un (frs X.stack) [] (upd H1 a (exo a C none)) H2 hp2 h2) (hok : HOk X.prog X.w H2 h2) (ho : os2 = os1) (hb : AllBare g2)
    (ea : H2 a = some (exo a C (some d))) (ed : H2 d = some (exd d fs)) (hd1 : H1 d = none) (q : Q (.ref C) (some d) (upd (del H2 a) d (.xd fs)))   : L2N.MkP X pins σ Q (.ref a) ⟨h2, g2, d2, t2, os2⟩ := by
  obtain ⟨t0, G, J, kG, ge, hoe, na⟩ := mk_end0 (d2 := d2) (t2 := t2) I1 ha k un hok ho hb ea ed hd1
  exact ⟨a, _, _, ⟨G, g2, d2, t2, os2⟩, _, .ref C, some d, rfl, J, kG, ge, hoe, ⟨rfl, rfl, fun vs e => by cases e; rfl⟩, rfl, rfl, na, rfl, hb, T, q⟩
theorem pmk_oexN {CX : CXT} {x : Str} {C fI : Addr} {k : Nat} {fd : FuncData} {ps : List Str} {sp : Sp} {ds : List Value} {dvs : List V} (T : OexC X.K C) (iC : PySem.W.findIn X.K (.ref C) "__init__" = some (some (.ref fI))) (tI : PySem.W.typeIn X.K (.ref fI) = some (.type "function"))
    (F1 : FnOk X.prog X.w X.K X.mg X.base CX k fI fd ps sp) (hr : Room (k + 1) X.A) (hb : Binds X.K fd ps ds) (hd : Vals dvs ds) (hx : Passes CX X (fun _ _ _ => False)) (hg : Gl X x) (hm : X.mg x = some (.ref C)) (ha : PA X (e :: es) ta)
    (hdb : (x == ("__debug__" : Str)) = false := by decide) (he : starEach (e :: es) X.env = (false, eval e X.env) :: starEach es X.env := by rfl) (hpl : (backTo pos (starEach es X.env)).any (·.1) = false := by rfl) :
    L2N.PMk X (.Call (.Name x p) (e :: es) [] pos) (tMkO C sp dvs ta) := by
  intro pins s σ H Q I h
  obtain ⟨nm, q, N, bs, bm, sn, sub, ab, col, dd, k0, k1, k2, k3, k5, hC, hbm⟩ := T.cls
  refine wpAny_Call_Name_kw (ld_glob I hg hm ?_ hdb)
  refine PySem.W.callWith_K (h₀ := X.base) I.ok.mod.kin T.kC (thn (ha.run pos pins s σ H _ I h) fun us s1 ⟨vs, H1, I1, r1, hz, q1⟩ => ⟨I1.kIn, ?_⟩) he hpl
  show wpAny _ _ (call (.ref C) us) _ _ _
  obtain ⟨hp, g, dr, tk, os⟩ := s1
  have hsz : hp.objs.size ≤ hp.objs.size + 1 := Nat.le_succ _
  have hn : H1 (hp.objs.size + 1) = none := I1.hok.fresh hsz
  have hq := q1 (hp.objs.size + 1) hn
  have kk : ∀ b o, hp.get? b = some o → ((hp.push (PySem.W.kdv_tup us)).push (PySem.HandSPX.excO C hp.objs.size)).get? b = some o := fun b o e => Heap.get?_push_of_some _ (Heap.get?_push_of_some _ e)
  have hget : ((hp.push (PySem.W.kdv_tup us)).push (PySem.HandSPX.excO C hp.objs.size)).get? (hp.objs.size + 1) = some (PySem.HandSPX.excO C hp.objs.size) := by heap_get
  have I2 : Inv X pins σ (upd H1 (hp.objs.size + 1) (exo (hp.objs.size + 1) C none)) ⟨(hp.push (PySem.W.kdv_tup us)).push (PySem.HandSPX.excO C hp.objs.size), g, dr, tk, os⟩ :=
    I1.laid (t' := tk) (a := hp.objs.size + 1) (o := exo (hp.objs.size + 1) C none) (h' := (hp.push (PySem.W.kdv_tup us)).push (PySem.HandSPX.excO C hp.objs.size)) kk hsz (exo_ok hget)
  have r2 : Vals (V.ref (hp.objs.size + 1) :: (vs ++ dvs)) (Value.ref (hp.objs.size + 1) :: (us ++ ds)) := .cons rfl (r1.append hd)
  have hl : (Value.ref (hp.objs.size + 1) :: us ++ ds).length = ps.length := by
    have e := r2.length
    rw [F1.len _ _ _ _ hq] at e
    exact e.symm
  have hus : us.length ≤ sizeLine := by
    rw [← Paired.length r1, sizeLine_eq]
    omega
  refine wpAny_call (PySem.HandSPX.call_own F.excBase_ValueError (fun Y => PySem.HandSPX.refsVE_contains Y bm hbm) (I1.kIn _ _ hC) (PySem.W.looks_findIn I1.kIn iC) (fun self => PySem.W.bind_fn I1.kIn self tI) hus
    (codeAny_mono (F1.run _ X.stack _ _ ⟨Value.ref (hp.objs.size + 1) :: us, []⟩ (Value.ref (hp.objs.size + 1) :: (us ++ ds)) _ _ (fun _ _ _ => False) (hr.make C us []) (I2.env0.make C us []) (hb _ (Value.ref (hp.objs.size + 1) :: us) I2.kIn hl) r2 hq) fun r s' hq' => ?_))
  cases r with
  | error er => exact hx pins σ _ _ er s' I2 hq'
  | ok fl =>
    cases fl with
    | ret u =>
      obtain ⟨v, H2, os2, bare2, un2, hok2, rv, ev, d, fs, ea, ed, hd1, q2⟩ := hq'
      subst ev
      obtain ⟨h2, g2, d2, t2, os'⟩ := s'
      exact ⟨rv, mk_endN (raises_own T.exC T.tyC) I1 hsz kk un2 hok2 os2 bare2 ea ed hd1 q2⟩
    | next => exact False.elim hq'
    | brk => exact False.elim hq'
    | cont => exact False.elim hq'
end
section
variable {X : Cx}
theorem pmk_oex0N {CX : CXT} {x : Str} {C fI : Addr} {k : Nat} {fd : FuncData} {ps : List Str} {sp : Sp} {ds : List Value} {dvs : List V} {p pos : Pos} (T : OexC X.K C) (iC : PySem.W.findIn X.K (.ref C) "__init__" = some (some (.ref fI))) (tI : PySem.W.typeIn X.K (.ref fI) = some (.type "function"))
    (F1 : FnOk X.prog X.w X.K X.mg X.base CX k fI fd ps sp) (hr : Room (k + 1) X.A) (hb : Binds X.K fd ps ds) (hd : Vals dvs ds) (hx : Passes CX X (fun _ _ _ => False)) (hg : Gl X x) (hm : X.mg x = some (.ref C))
    (hdb : (x == ("__debug__" : Str)) = false := by decide) :
    L2N.PMk X (.Call (.Name x p) [] [] pos) (tMkO C sp dvs tNil) := by
  intro pins s σ H Q I h
  obtain ⟨nm, q, N, bs, bm, sn, sub, ab, col, dd, k0, k1, k2, k3, k5, hC, hbm⟩ := T.cls
  refine wpAny_Call_Name_kw (ld_glob I hg hm ?_ hdb)
  obtain ⟨hz, q1⟩ := h
  refine PySem.W.callWith_K0 I.kIn T.kC ?_
  show wpAny _ _ (call (.ref C) []) _ _ _
  obtain ⟨hp, g, dr, tk, os⟩ := s
  have hsz : hp.objs.size ≤ hp.objs.size + 1 := Nat.le_succ _
  have hn : H (hp.objs.size + 1) = none := I.hok.fresh hsz
  have hq := q1 (hp.objs.size + 1) hn
  have kk : ∀ b o, hp.get? b = some o → ((hp.push (PySem.W.kdv_tup [])).push (PySem.HandSPX.excO C hp.objs.size)).get? b = some o := fun b o e => Heap.get?_push_of_some _ (Heap.get?_push_of_some _ e)
  have hget : ((hp.push (PySem.W.kdv_tup [])).push (PySem.HandSPX.excO C hp.objs.size)).get? (hp.objs.size + 1) = some (PySem.HandSPX.excO C hp.objs.size) := by heap_get
  have I2 : Inv X pins σ (upd H (hp.objs.size + 1) (exo (hp.objs.size + 1) C none)) ⟨(hp.push (PySem.W.kdv_tup [])).push (PySem.HandSPX.excO C hp.objs.size), g, dr, tk, os⟩ :=
    I.laid (t' := tk) (a := hp.objs.size + 1) (o := exo (hp.objs.size + 1) C none) (h' := (hp.push (PySem.W.kdv_tup [])).push (PySem.HandSPX.excO C hp.objs.size)) kk hsz (exo_ok hget)
  have r2 : Vals (V.ref (hp.objs.size + 1) :: ([] ++ dvs)) (Value.ref (hp.objs.size + 1) :: ([] ++ ds)) := .cons rfl (Vals.append .nil hd)
  have hl : (Value.ref (hp.objs.size + 1) :: [] ++ ds).length = ps.length := by
    have e := r2.length
    rw [F1.len _ _ _ _ hq] at e
    exact e.symm
  refine wpAny_call (PySem.HandSPX.call_own F.excBase_ValueError (fun Y => PySem.HandSPX.refsVE_contains Y bm hbm) (I.kIn _ _ hC) (PySem.W.looks_findIn I.kIn iC) (fun self => PySem.W.bind_fn I.kIn self tI) (Nat.zero_le _)
    (codeAny_mono (F1.run _ X.stack _ _ ⟨Value.ref (hp.objs.size + 1) :: [], []⟩ (Value.ref (hp.objs.size + 1) :: ([] ++ ds)) _ _ (fun _ _ _ => False) (hr.make C [] []) (I2.env0.make C [] []) (show BindsTo _ _ _ (ps.zip (Value.ref (hp.objs.size + 1) :: ([] ++ ds))) from hb _ (Value.ref (hp.objs.size + 1) :: []) I2.kIn hl) r2 hq) fun r s' hq' => ?_))
  cases r with
  | error er => exact hx pins σ _ _ er s' I2 hq'
  | ok fl =>
    cases fl with
    | ret u =>
      obtain ⟨v, H2, os2, bare2, un2, hok2, rv, ev, d, fs, ea, ed, hd1, q2⟩ := hq'
      subst ev
      obtain ⟨h2, g2, d2, t2, os'⟩ := s'
      exact ⟨rv, mk_endN (raises_own T.exC T.tyC) I hsz kk un2 hok2 os2 bare2 ea ed hd1 q2⟩
    | next => exact False.elim hq'
    | brk => exact False.elim hq'
    | cont => exact False.elim hq'
theorem pmk_xN {x f : Str} {C : Addr} {k : Nat} {dvs : List V} {e : Expr} {es : List Expr} {ta : TA} {p pos : Pos} (Z : Xcl X.prog X.w X.K X.mg X.base x C k f dvs) (hr : Room (k + 1) X.A) (hg : Gl X x) (ha : PA X (e :: es) ta) (mono : ∀ σ H (Q Q' : List V → Hp → Prop), (∀ vs H, Q vs H → Q' vs H) → ta σ H Q → ta σ H Q')
    (hdb : (x == ("__debug__" : Str)) = false := by decide) (he : starEach (e :: es) X.env = (false, eval e X.env) :: starEach es X.env := by rfl) (hpl : (backTo pos (starEach es X.env)).any (·.1) = false := by rfl) :
    L2N.PMk X (.Call (.Name x p) (e :: es) [] pos) (tXmk C f dvs ta) := by
  obtain ⟨fI, fd, ds, ps, iC, tI, F, hb, hd⟩ := Z.ex
  have M := pmk_oexN (p := p) (pos := pos) Z.T iC tI F hr hb hd pass0 hg Z.hm ha hdb he hpl
  intro pins s σ H Q I h
  refine M pins s σ H Q I (mono _ _ _ _ (fun vs H1 ⟨v, ev, q⟩ => ⟨?_, fun a na => ?_⟩) h)
  · have := congrArg List.length ev
    simp only [List.length_append, List.length_cons, List.length_nil] at this
    omega
  · rw [ev]
    exact xi_end Z.T Z.no q a na
theorem pmk_x0N {x f : Str} {C : Addr} {k : Nat} {dvs : List V} {p pos : Pos} (Z : Xcl X.prog X.w X.K X.mg X.base x C k f dvs) (hr : Room (k + 1) X.A) (hg : Gl X x) (hdb : (x == ("__debug__" : Str)) = false := by decide) :
    L2N.PMk X (.Call (.Name x p) [] [] pos) (tXmk C f dvs tNil) := by
  obtain ⟨fI, fd, ds, ps, iC, tI, F, hb, hd⟩ := Z.ex
  have M := pmk_oex0N (p := p) (pos := pos) Z.T iC tI F hr hb hd pass0 hg Z.hm hdb
  intro pins s σ H Q I h
  obtain ⟨v, ev, q⟩ := h
  refine M pins s σ H Q I ⟨Nat.zero_le _, fun a na => ?_⟩
  rw [ev]
  exact xi_end Z.T Z.no q a na
end
end Bw

/-! try with except clauses over any body: what the body's calls are refused with is told once -/
namespace Bw
open PySem PySem.Spec PyProof.Rows L2 L2H HotX
theorem takes_lenC {X : Cx} {W : WX} (tk : TakesC X W) : TakesC X (fun cls d σ H => σ.length = X.N.length → W cls d σ H) := fun u s' x => by
  obtain ⟨a, B, sI, pins, σ, H, cls, d, e, I, nb, up, sky, na, os, ag, w⟩ := x
  exact tk u s' ⟨a, B, sI, pins, σ, H, cls, d, e, I, nb, up, sky, na, os, ag, w I.len⟩
theorem takesC0 {X : Cx} : TakesC X (fun _ _ _ _ => False) := fun _ _ ⟨_, _, _, _, _, _, _, _, _, _, _, _, _, _, _, _, w⟩ => w.elim
section
variable {X : Cx} {body : List Stmt} {h₀ : ExceptHandler} {hds : List ExceptHandler} {l : List (List Value × Nat × (Addr → Value → Option Addr → TS))} {pos : Pos} {tb : XK → TS} {Wout : WX}
/-- the reading of a try -/
def tTryE (K : PySem.W.Frag) (n : Nat) (Wout : WX) (l : List (List Value × Nat × (Addr → Value → Option Addr → TS))) (tb : XK → TS) : TS := fun D σ H => ∃ Ech : XK, (∀ cls d (σ' : L2.St) H', σ'.length = n → Ech cls d H' → wMas K Wout D l cls d σ' H') ∧ tb Ech D σ H
theorem ps_try_E (hs : X.stack = X.env :: X.outer) (hf : X.env.frame = some X.env.locals) (hN : X.N.Nodup) (tk : TakesC X Wout) (hsz : ∀ x ∈ l, x.1.length ≤ 1000)
    (hb : ∀ (E : XK) (pn : List (Addr × Obj)) (xe : Value → Shared → Prop), LetsC (X.tr pn xe) E → PassesOwn (model X.prog X.w) X.A X.env xe → PSs (X.tr pn xe) body (tb E))
    (hh : HdsC X (h₀ :: hds) l) : PS X (.Try body (h₀ :: hds) [] [] pos) (tTryE X.K X.N.length Wout l tb) := by
  refine ⟨fun pins s σ H D I h => ?_⟩
  refine (ps_try_mac (pos := pos) (tb := fun W D σ H => ∃ Ech : XK, (∀ cls d (σ' : L2.St) H', σ'.length = X.N.length → Ech cls d H' → W cls d σ' H') ∧ tb Ech D σ H) hs hf hN tk hsz (fun W pn xe tk' po => ⟨fun pins s σ H D I h => ?_⟩) hh).run pins s σ H D I h
  obtain ⟨Ech, hW, h3⟩ := h
  exact (hb Ech pn xe (lets_ofC ((takes_lenC tk').imp fun c d σ H e hl => hW c d σ H hl e)) po).run pins s σ H D I h3
end
end Bw

/-! tuples unpacked while an exception is handled; finally suites behind a raise, the chain told -/
namespace Bw
open PySem PySem.Spec PyProof.Rows L2 L2H HotX
open Sem (wp)
theorem chp_chn {h : Heap} {N : Addr → Prop} {pl : List (Addr × Obj)} : ∀ {c : Value}, ChP pl c → (∀ q ∈ pl, h.get? q.1 = some q.2 ∧ N q.1) → Chn h N c
  | _, .non, _ => .non
  | _, .ref a b d e, k => .ref (k _ a).1 b (k _ a).2 d (chp_chn e k)
theorem chn_titer {h : Heap} {N : Addr → Prop} {it t : Addr} {i : Nat} (hit : IsTupIter h it t i) : ∀ {c : Value}, Chn h N c → Chn h (fun y => N y ∧ y ≠ it) c
  | _, .non => .non
  | _, .ref a b n d e => .ref a b ⟨n, fun z => by
      obtain ⟨o, ho, hc, hd⟩ := hit
      rw [z, ho] at a
      cases a
      rw [hd] at b
      cases b
      simp at d⟩ d (chn_titer hit e)
theorem hotl_fresh {A : Around} {x1 : Addr} {h h' : Heap} (c : HotL A x1 h) (k : ∀ b o, h.get? b = some o → h'.get? b = some o) : HotL A x1 h' := ⟨c.1, c.2.keeps k⟩
section
variable {prog : Program} {w : World} {A : Around} {E : Value → Shared → Prop} {s : Shared}
theorem next_tuple_endH {it t : Addr} {i : Nat} {items} {Q : Option Value → Shared → Prop} {x1 : Addr} (hot : HotL A x1 s.heap)
    (hit : IsTupIter s.heap it t i) (ht : IsTup s.heap t items) (hx : items[i]? = none)
    (hQ : ∀ h', Heap.ExtBut it s.heap h' → Q none { s with heap := h' }) : wpAny (model prog w) A (pyNext (.ref it)) Q E s := by
  obtain ⟨o, ho, hc, hd⟩ := id hit
  obtain ⟨ol, hol, _, nl, hdl⟩ := ht
  unfold pyNext
  refine wpAny_bind (wpAny_attempt (wpAny_callSpecial?_slot (name := Str.ofString "__next__") hit.typeIs slot_tupleiter_next
    (wpAny_call_entry slot_tupleiter_next hit.typeIs entry_tupleiter_next ?_ (args_tupleiter_next _))))
  show wpAny _ _ (field (.ref it) 0 >>= _) _ _ s
  refine wpAny_bind (wpAny_field ho hd (x := .ref t) rfl ?_)
  show wpAny _ _ (if (Value.ref t == Value.none) = true then _ else _) _ _ s
  rw [if_neg (show ¬ ((Value.ref t == Value.none) = true) from Bool.false_ne_true)]
  show wpAny _ _ (field (.ref it) 1 >>= _) _ _ s
  refine wpAny_bind (wpAny_field ho hd (x := .int i 0) rfl ?_)
  show wpAny _ _ (seqItems? (.ref t) >>= _) _ _ s
  refine wpAny_bind (wpAny_seqItems hol hdl ?_)
  simp only [Int.toNat_natCast, hx]
  refine wpAny_bind (wpAny_rule (wpAny_bind (wpAny_setField ho hd (by simp) ?_)))
  obtain ⟨hh, C⟩ := hot
  refine stop_hot (x1 := x1) (by refine ⟨hh, ?_⟩; exact (chn_titer hit C).both fun b o vs e _ n => ⟨(Heap.get?_update_other _ _ (Ne.symm n.2)).trans e, trivial⟩) (fun h' e hk he => ?_)
  obtain ⟨oe, hoe, hce⟩ := he
  refine wpAny_bind (wpAny_isInstance (T := "StopIteration") (b := true) ⟨oe, hoe, hce⟩ isSubtype_stop ?_)
  refine wpAny_pure (hQ _ fun b o' nb e => hk _ _ ?_)
  exact (Heap.get?_update_other _ _ (Ne.symm nb)).trans e

theorem unpackItems_tupleH {t : Addr} {items : Array Value} {Q : List Value → Shared → Prop} {x1 : Addr} (hot : HotL A x1 s.heap) (ht : IsTup s.heap t items)
    (hQ : ∀ h', Heap.ExtBut s.heap.objs.size s.heap h' → Q items.toList { s with heap := h' }) : wpAny (model prog w) A (unpackItems (.ref t) items.size none) Q E s := by
  have hlt : t ≠ s.heap.objs.size := by obtain ⟨o, ho, _⟩ := ht; exact Nat.ne_of_lt (Heap.lt_size ho)
  unfold unpackItems
  refine wpAny_bind ?_
  · unfold notIterableAtAll
    refine wpAny_bind (wpAny_specialOf ht.typeIs slot_tuple_iter.lookup ?_)
    refine wpAny_pure ?_
    simp only [Bool.false_eq_true, if_false]
    refine wpAny_bind (wpAny_holding (iter_tuple ht ?_))
    refine wpAny_bind (wpAny_holding (draw_tuple hlt items.size 0 _ _ ⟨_, Heap.get?_push_size _ rfl, rfl, rfl⟩ (ht.push _) (by omega) fun h₁ hit₁ hs₁ => ?_))
    have hall : List.take items.size (List.drop 0 items.toList) = items.toList := by
      rw [List.drop_zero]; exact List.take_of_length_le (by simp)
    rw [hall]
    rw [if_neg (by simp)]
    have ht₁ : IsTup h₁ t items := (ht.push _).extBut hs₁.extBut hlt
    refine wpAny_bind (wpAny_holding (next_tuple_endH (x1 := x1) (hotl_fresh hot fun b o e => hs₁.extBut b o (Nat.ne_of_lt (Heap.lt_size e)) (Heap.get?_push_of_some _ e)) hit₁ ht₁ (by simp) fun h₂ he₂ => ?_))
    simp only [Option.isSome_none, Bool.false_eq_true, if_false]
    refine wpAny_pure (hQ h₂ fun b o hb e => he₂ b o hb (hs₁.extBut b o hb (Heap.get?_push_of_some _ e)))

theorem unpack_tupleH {t : Addr} {items : Array Value} {targets : List (Bool × (Value → Sem Unit))} {Q : Unit → Shared → Prop} {x1 : Addr} (hot : HotL A x1 s.heap) (ht : IsTup s.heap t items)
    (hn : targets.length = items.size) (hstar : targets.findIdx? (·.1) = none)
    (h : ∀ h', Heap.ExtBut s.heap.objs.size s.heap h' → wpAny (model prog w) A (assignInOrder (targets.map (·.2)) items.toList) Q E { s with heap := h' }) :
    wpAny (model prog w) A (unpack (.ref t) targets) Q E s := by
  unfold unpack
  rw [hn, hstar]
  exact wpAny_bind (wpAny_holding (unpackItems_tupleH hot ht h))
theorem assign_Tuple_tupleH {env : Env} {elts : List Expr} {x1} {pos : Pos} {t : Addr} {items : Array Value} {Q : Unit → Shared → Prop} {xh : Addr} (hot : HotL A xh s.heap) (ht : IsTup s.heap t items)
    (hn : (assignEach elts env).length = items.size) (hstar : (assignEach elts env).findIdx? (·.1) = none)
    (h : ∀ h', Heap.ExtBut s.heap.objs.size s.heap h' → wpAny (model prog w) A (assignInOrder ((assignEach elts env).map (·.2)) items.toList) Q E { s with heap := h' }) :
    wpAny (model prog w) A (assign (.Tuple elts x1 pos) env (.ref t)) Q E s := by
  rw [assign_Tuple]
  exact wpAny_bind (wpAny_standAt (unpack_tupleH hot ht hn hstar h))
end
section
variable {X : Cx} {pos : Pos}
theorem pg_tupK {es : List Expr} {k : Nat} {t : TGs} {n : Nat} (hot : HotD X) (h : PGs X es t)
    (hn : (assignEach es X.env).length = n := by rfl) (hst : (assignEach es X.env).findIdx? (·.1) = none := by rfl) : PG X (.Tuple es k pos) (gTup X.K n t) := by
  refine ⟨fun pins s σ H v u Q I r hw => ?_⟩
  obtain ⟨a, xs, e1, hq, hl, hw⟩ := hw
  subst e1
  cases r
  obtain ⟨its, rv, ht, hz⟩ := I.tuple hq
  obtain ⟨x1, hh, C⟩ := hot.at I
  refine assign_Tuple_tupleH (xh := x1) ⟨hh, C.imp fun _ _ _ _ => trivial⟩ ht (by simp [hn, ← hl, rv.length]) hst fun h' hx => ?_
  have I1 : Inv X pins σ H { s with heap := h' } := I.kept (t' := s.toks) fun b o e => hx b o (Nat.ne_of_lt (Heap.lt_size e)) e
  exact h.run pins _ σ H xs _ Q I1 (by simpa using rv) hw
end
section
variable {X : Cx} {body : List Stmt} {f₀ : Stmt} {fs : List Stmt} {pos : Pos} {tb : WX → TS} {tf tfs : TS} {Wout : WX}
theorem fin_excC {pins : List (Addr × Obj)} {D : Ends} {u : Value} {s' : Shared} (hs : X.stack = X.env :: X.outer) (hf : X.env.frame = some X.env.locals) (hex : X.ex = []) (ok : X.Ok) (tk : TakesC X Wout)
    (hsu : ∀ (a : Addr) (pn : List (Addr × Obj)), HotD (X.suite a pn) → PSs (X.suite a pn) (f₀ :: fs) tfs) (xx : XEc (X.tr (X.pn ++ pins) (fun x s₁ => wpAny (model X.prog X.w) X.A (noteFrame x X.env) (fun _ s₂ => FinallyRaised X.prog X.w X.A X.xe X.env (f₀ :: fs) (SP X pins D) x s₂) (FinallyRaised X.prog X.w X.A X.xe X.env (f₀ :: fs) (SP X pins D)) s₁)) (wFin tfs Wout) u s') :
    wpAny (model X.prog X.w) X.A (noteFrame u X.env) (fun _ s₂ => FinallyRaised X.prog X.w X.A X.xe X.env (f₀ :: fs) (SP X pins D) u s₂) (FinallyRaised X.prog X.w X.A X.xe X.env (f₀ :: fs) (SP X pins D)) s' := by
  have hfr : X.A.frames = some (X.env :: X.outer) := by rw [ok.frames, hs]
  obtain ⟨a, B, sI, pins', σ', H', cls, d, rfl, J', nb, up, sky, na, os, ag, hw⟩ := xx
  have J : Inv X pins σ' H' sI := J'.ofTry ok
  have sky' : Sky B (X.env :: X.outer) a (Zb B H' cls d) X.env.locals s'.heap := by rw [← hs]; exact sky
  -- behind the first note
  have fin : ∀ h1, HandSPX.HeldZ B (X.env :: X.outer) a (Zb B H' cls d) X.env.locals h1 → s'.heap.UpToSlots h1 → FinallyRaised X.prog X.w X.A X.xe X.env (f₀ :: fs) (SP X pins D) (.ref a) { s' with heap := h1 } := fun h1 hh1 up1 => by
    refine ⟨ref_ne_byPass a, HandSPX.againZ hf hh1.2.2.2 (HandSPX.landsZ hh1 fun h3 fl3 up3 => ?_)⟩
    have J3 : Inv X pins σ' H' { s' with heap := h3 } := J.landed nb fl3.1 ((up.trans up1).trans up3) os ag
    obtain ⟨k1, k2, k3, oe, vs, T, oT, ts, he3, hz, hd, hv1, hnT, hTe, hT, hdT, ht3⟩ := id fl3
    have nT : H' T = none := (J.inGround nb).gone hnT
    have notFr : ∀ (b : Addr) (o : Obj) (fv : Array Value), h3.get? b = some o → o.data = .fields fv → b ∉ frs (X.env :: X.outer) := fun b o fv e dd hm => by
      obtain ⟨_, o', e', hnf⟩ := k3.mem hm
      have eo : o = o' := Option.some.inj (e.symm.trans e')
      rw [← eo] at hnf
      exact hnf _ dd
    have locF : X.env.locals ∈ frs (X.env :: X.outer) := List.mem_filterMap.mpr ⟨X.env, List.mem_cons_self, hf⟩
    have fsF : ∀ b, b ∈ X.fs → b ∈ frs (X.env :: X.outer) := fun b hm => by
      obtain ⟨e, he, q⟩ := List.mem_filterMap.mp hm
      exact List.mem_filterMap.mpr ⟨e, List.mem_cons_of_mem _ he, q⟩
    have fa := notFr a oe vs he3 hd
    have fT := notFr T oT ts hT hdT
    obtain ⟨cx, hcx, Cx0⟩ := hz.2.2 vs hd
    obtain ⟨pl, hpl, Cpl⟩ := Cx0.pins
    have inB : ∀ q ∈ pl, B.get? q.1 = some q.2 := fun q hq => (hpl q hq).1
    have S3 : Inv (X.suite a ((a, oe) :: (T, oT) :: (pl ++ (X.pn ++ pins)))) [] σ' H' { s' with heap := h3 } :=
      ⟨J3.ok.suite _ _, J3.os, J3.bare, J3.base, J3.loc, J3.cell, J3.free, J3.freeC, fun p hp => by
        rw [List.append_nil] at hp
        rcases List.mem_cons.mp hp with z | hp
        · rw [z]
          exact ⟨he3, na, fun z2 => fa (by rw [show a = X.env.locals from z2]; exact locF), fun z2 => fa (fsF _ z2), fun v z2 => by
            have z3 : oe.data = .cell v := z2
            rw [hd] at z3
            cases z3⟩
        · rcases List.mem_cons.mp hp with z | hp
          · rw [z]
            exact ⟨hT, nT, fun z2 => fT (by rw [show T = X.env.locals from z2]; exact locF), fun z2 => fT (fsF _ z2), fun v z2 => by
              have z3 : oT.data = .cell v := z2
              rw [hdT] at z3
              cases z3⟩
          · rcases List.mem_append.mp hp with hp | hp
            · obtain ⟨g1, g2, vq, g3⟩ := hpl p hp
              have fp := notFr p.1 p.2 vq (fl3.1 _ _ g1) g3
              exact ⟨fl3.1 _ _ g1, g2, fun z2 => fp (by rw [show p.1 = X.env.locals from z2]; exact locF), fun z2 => fp (fsF _ z2), fun v z2 => by
                have z3 : p.2.data = .cell v := z2
                rw [g3] at z3
                cases z3⟩
            · exact J3.pin p hp, J3.hok, J3.len⟩
    have hot : HotD (X.suite a ((a, oe) :: (T, oT) :: (pl ++ (X.pn ++ pins)))) := ⟨(a, oe), List.mem_cons_self, rfl, .ref (q := (a, oe)) List.mem_cons_self hd hcx (Cpl.mono fun q hq => List.mem_cons_of_mem _ (List.mem_cons_of_mem _ (List.mem_append_left _ hq)))⟩
    refine wpAny_mono ((hsu a ((a, oe) :: (T, oT) :: (pl ++ (X.pn ++ pins))) hot).run [] { s' with heap := h3 } σ' H' { nx := fun σ2 H2 => Wout cls d σ2 H2, rt := fun _ _ => False } S3 hw) (fun g s6 hsp => ?_) fun _ _ z => False.elim z
    cases g with
    | ret u =>
      obtain ⟨_, _, _, _, _, q⟩ := hsp
      exact False.elim q
    | brk =>
      obtain ⟨_, _, _, q⟩ := hsp
      exact False.elim q
    | cont =>
      obtain ⟨_, _, _, q⟩ := hsp
      exact False.elim q
    | next =>
      obtain ⟨σ6, H6, S6, q6⟩ := hsp
      have J6 : Inv X pins σ6 H6 s6 := ⟨ok, S6.os, S6.bare, S6.base, S6.loc, S6.cell, S6.free, S6.freeC, fun p hp => S6.pin p (List.mem_append_left _ (List.mem_cons_of_mem _ (List.mem_cons_of_mem _ (List.mem_append_right _ hp)))), S6.hok, S6.len⟩
      have pa := S6.pin (a, oe) (List.mem_append_left _ List.mem_cons_self)
      have pT := S6.pin (T, oT) (List.mem_append_left _ (List.mem_cons_of_mem _ List.mem_cons_self))
      have ga : s6.heap.get? a = some oe := pa.1
      have gT : s6.heap.get? T = some oT := pT.1
      have na6 : H6 a = none := pa.2.1
      have nT6 : H6 T = none := pT.2.1
      -- what is not the exception's
      have far : ∀ b o, sI.heap.get? b = some o → b ≠ a ∧ b ≠ T := fun b o e => by
        by_cases hb : b ∈ frs X.stack
        · rw [hs] at hb
          exact ⟨fun z => fa (by rw [← z]; exact hb), fun z => fT (by rw [← z]; exact hb)⟩
        · have q := nb b o e hb
          exact ⟨fun z => by
            rw [z, k2] at q
            exact (nomatch q), fun z => by
            rw [z, hnT] at q
            cases q⟩
      have far0 : ∀ b o, X.s_0.heap.get? b = some o → b ≠ a ∧ b ≠ T := fun b o e => by
        obtain ⟨o', q⟩ := J.base.there b o e (by rw [hex]; simp)
        exact far b o' q
      have farP : ∀ p ∈ X.pn ++ pins, p.1 ≠ a ∧ p.1 ≠ T := fun p hp => far p.1 p.2 (J.pin p hp).1
      obtain ⟨G, g1, g2⟩ := restrict s6.heap fun b => !(decide (b = a) || decide (b = T))
      have gIn : ∀ b o, G.get? b = some o → s6.heap.get? b = some o ∧ b ≠ a ∧ b ≠ T := fun b o e => by
        cases q : (!(decide (b = a) || decide (b = T))) with
        | false =>
          rw [g2 b q] at e
          cases e
        | true =>
          rw [g1 b q] at e
          simp only [Bool.not_eq_true', Bool.or_eq_false_iff, decide_eq_false_iff_not] at q
          exact ⟨e, q.1, q.2⟩
      have gOf : ∀ b o, b ≠ a → b ≠ T → s6.heap.get? b = some o → G.get? b = some o := fun b o h1 h2 e => by
        rw [g1 b (by simp [h1, h2])]
        exact e
      have I6 : Inv X pins σ6 H6 { s6 with heap := G } := J6.less (fun b o e => (gIn b o e).1) gOf ⟨oe, vs, ga, hd⟩ ⟨oT, ts, gT, hdT⟩ na6 nT6 far0 farP
      -- the ground behind the suite
      have B6in : ∀ b o, (PySem.W.hideAll G (frs X.stack)).get? b = some o → s6.heap.get? b = some o := fun b o e => (gIn b o (PySem.W.of_hideAll _ e)).1
      have Bno : ∀ b, (b = a ∨ b = T) → (PySem.W.hideAll G (frs X.stack)).get? b = none := fun b hb => by
        cases q : (PySem.W.hideAll G (frs X.stack)).get? b with
        | none => rfl
        | some o =>
          obtain ⟨_, n1, n2⟩ := gIn b o (PySem.W.of_hideAll _ q)
          rcases hb with z | z
          · exact absurd z n1
          · exact absurd z n2
      have z6 : Zb (PySem.W.hideAll G (frs X.stack)) H6 cls d oe := ⟨hz.1, hz.2.1, fun vs' e => by
        rw [hd] at e
        cases e
        refine ⟨cx, hcx, chp_chn Cpl fun q hq => ?_⟩
        have pq := S6.pin q (List.mem_append_left _ (List.mem_cons_of_mem _ (List.mem_cons_of_mem _ (List.mem_append_left _ hq))))
        obtain ⟨g1, g2, vq, g3⟩ := hpl q hq
        have n1 : q.1 ≠ a := fun z => by
          rw [z, k2] at g1
          cases g1
        have n2 : q.1 ≠ T := fun z => by
          rw [z, hnT] at g1
          cases g1
        have fp := notFr q.1 q.2 vq (fl3.1 _ _ g1) g3
        exact ⟨PySem.W.hideAll_get _ (gOf _ _ n1 n2 pq.1) (by rw [hs]; exact fp), pq.2.1⟩⟩
      have fl6 : HandSPX.FlyingZ (PySem.W.hideAll G (frs X.stack)) (X.env :: X.outer) a (Zb (PySem.W.hideAll G (frs X.stack)) H6 cls d) s6.heap := by
        refine ⟨B6in, Bno a (.inl rfl), ?_, oe, vs, T, oT, ts, ga, z6, hd, hv1, Bno T (.inr rfl), hTe, gT, hdT, ht3⟩
        have ff := funFrames_none (B := PySem.W.hideAll G (frs X.stack)) J6.stack fun b hb => PySem.W.hideAll_none _ hb
        rw [← hs]
        exact ff
      show wpAny (model X.prog X.w) X.A (PySem.passOn "try.finally" (.ref a) X.env) (SP X pins D) X.xe s6
      unfold PySem.passOn
      refine wpAny_bind (wpAny_field ga hd hv1 ?_)
      rw [if_neg (show ¬ ((Value.ref T == Value.none) = true) from by simp)]
      have goOn : wpAny (model X.prog X.w) X.A (setFlight (.ref a) X.env.frame) (fun _ s7 => wpAny (model X.prog X.w) X.A (throw (.ref a) : Sem Flow) (SP X pins D) X.xe s7) X.xe s6 := by
        rw [hf]
        refine HandSPX.setFlight_upZ fl6 fun h7 hh7 up7 => wpAny_throw (tk _ _ ?_)
        refine ⟨a, PySem.W.hideAll G (frs X.stack), { s6 with heap := G }, pins, σ6, H6, cls, d, rfl, I6, fun b o e hb => PySem.W.hideAll_get _ e hb, ?_, .inr (.inr (by rw [← hs] at hh7; exact hh7)), na6, rfl, J6.bare, q6⟩
        exact Heap.UpToSlots.trans (Heap.UpToSlots.of_keeps fun b o e => (gIn b o e).1) up7
      first
        | exact wpAny_bind (wpAny_pure (wpAny_bind goOn))
        | exact wpAny_bind goOn
  show wpAny (model X.prog X.w) X.A (noteFrame (.ref a) X.env) _ _ _
  rcases sky' with ⟨hB, hn, hl, oe, vs, he0, hz, hd, hv1⟩ | fl | hh
  · exact PXN.look_newZ Zb.steady hfr hl hf he0 hB hn hd hv1 hz fin
  · exact PXN.looks_onZ Zb.steady hfr hf fl fin
  · exact HandSPX.againZ hf hh.2.2.2 (fin s'.heap hh (Heap.UpToSlots.refl _))

theorem ps_finXC (hs : X.stack = X.env :: X.outer) (hf : X.env.frame = some X.env.locals) (hex : X.ex = []) (tk : TakesC X Wout)
    (hb : ∀ (W : WX) (pn : List (Addr × Obj)) (xe : Value → Shared → Prop), TakesC (X.tr pn xe) W → PassesOwn (model X.prog X.w) X.A X.env xe → PSs (X.tr pn xe) body (tb W))
    (hfin : PSs X.nox (f₀ :: fs) tf) (hsu : ∀ (a : Addr) (pn : List (Addr × Obj)), HotD (X.suite a pn) → PSs (X.suite a pn) (f₀ :: fs) tfs) : PS X (.Try body [] [] (f₀ :: fs) pos) (tFinX tb tf tfs Wout) := by
  refine ⟨fun pins s σ H D I h => ?_⟩
  have ok := I.ok
  refine wpAny_Try_finally ?_
  refine wpAny_mono ((hb (wFin tfs Wout) (X.pn ++ pins) (fun x s₁ => wpAny (model X.prog X.w) X.A (noteFrame x X.env) (fun _ s₂ => FinallyRaised X.prog X.w X.A X.xe X.env (f₀ :: fs) (SP X pins D) x s₂) (FinallyRaised X.prog X.w X.A X.xe X.env (f₀ :: fs) (SP X pins D)) s₁)
    (fun u s' xx => ?_) PassesOwn.looking).run [] s σ H { nx := fun σ1 H1 => tf D σ1 H1, rt := fun _ _ => False } (I.toTry _) h) (fun f s1 q => ?_) (fun x s1 hx => hx)
  · exact fin_excC hs hf hex ok tk hsu xx
  · cases f with
    | next =>
      obtain ⟨σ', H', I', q2⟩ := q
      refine wpAny_execs_nil ?_
      refine wpAny_mono (hfin.run pins s1 σ' H' D ((I'.ofTry ok).wish _) q2) (fun g s2 z => ?_) fun e s1 z => z.elim
      have z' : SP X pins D g s2 := z.unwish
      cases g <;> exact z'
    | ret v =>
      obtain ⟨_, _, _, _, _, z⟩ := q
      exact z.elim
    | brk =>
      obtain ⟨_, _, _, z⟩ := q
      exact z.elim
    | cont =>
      obtain ⟨_, _, _, z⟩ := q
      exact z.elim
/-- the body and the suite by any readings of them -/
def tAnySC (X : Cx) (b : List Stmt) : TS := fun D σ H => ∀ (a : Addr) (pn : List (Addr × Obj)), HotD (X.suite a pn) → ∃ t : TS, PSs (X.suite a pn) b t ∧ t D σ H
theorem pss_anySC {b : List Stmt} (a : Addr) (pn : List (Addr × Obj)) (hot : HotD (X.suite a pn)) : PSs (X.suite a pn) b (tAnySC X b) :=
  ⟨fun pins s σ H D I h => by
    obtain ⟨t, ht, hq⟩ := h a pn hot
    exact ht.run pins s σ H D I hq⟩
def tAnyTC (X : Cx) (b : List Stmt) : WX → TS := fun W D σ H => ∀ (pn : List (Addr × Obj)) (xe : Value → Shared → Prop), TakesC (X.tr pn xe) W → PassesOwn (model X.prog X.w) X.A X.env xe → ∃ t : TS, PSs (X.tr pn xe) b t ∧ t D σ H
theorem pss_anyTC {b : List Stmt} {W : WX} {pn : List (Addr × Obj)} {xe : Value → Shared → Prop} (tk : TakesC (X.tr pn xe) W) (po : PassesOwn (model X.prog X.w) X.A X.env xe) : PSs (X.tr pn xe) b (tAnyTC X b W) :=
  ⟨fun pins s σ H D I h => by
    obtain ⟨t, ht, hq⟩ := h pn xe tk po
    exact ht.run pins s σ H D I hq⟩
def tFinAC (X : Cx) (body fs : List Stmt) (tf : TS) (Wout : WX) : TS := tFinX (tAnyTC X body) tf (tAnySC X fs) Wout
theorem ps_finAC (hs : X.stack = X.env :: X.outer) (hf : X.env.frame = some X.env.locals) (hex : X.ex = []) (tk : TakesC X Wout) (hfin : PSs X.nox (f₀ :: fs) tf) :
    PS X (.Try body [] [] (f₀ :: fs) pos) (tFinAC X body (f₀ :: fs) tf Wout) := ps_finXC hs hf hex tk (fun _ _ _ tk' po => pss_anyTC tk' po) hfin fun a pn hot => pss_anySC a pn hot
theorem w_finAC {X : Cx} {body fs : List Stmt} {tf : TS} {Wout : WX} {D : Ends} {σ : L2.St} {H : Hp} (h : ∀ (pn : List (Addr × Obj)) (xe : Value → Shared → Prop), TakesC (X.tr pn xe) (wFin (tAnySC X fs) Wout) → PassesOwn (model X.prog X.w) X.A X.env xe → ∃ t : TS, PSs (X.tr pn xe) body t ∧ t { nx := fun σ1 H1 => tf D σ1 H1, rt := fun _ _ => False } σ H) :
    tFinAC X body fs tf Wout D σ H := h
end
end Bw

/-! repr of lists: defs that are run where no repr is under way (the guards are known) -/
namespace Bw
open PySem PySem.Spec PyProof.Rows L2 LamX
structure FnOkG (P : Program) (w : World) (K : PySem.W.Frag) (mg : Str → Option Value) (base : Heap) (CX : CXT) (k : Nat) (f : Addr) (fd : FuncData) (ps : List Str) (sp : Sp) : Prop where
  len : ∀ vs H Q E, sp vs H Q E → vs.length = ps.length
  run : ∀ (A : Around) (outer : List Env) (s : Shared) (H : Hp) (args : Args) (us : List Value) (vs : List V) (Q : VK) (E : XK), A.guards = some [] → Room k A → Env0 P w K mg base A outer s H → BindsTo s fd args (ps.zip us) → Vals vs us → sp vs H Q E →
    codeAny (model P w) A (.call (.ref f) args) (CR CX outer P w H s Q E) s
theorem fn_ofG {CX : CXT} {P : Program} {w : World} {K : PySem.W.Frag} {mg : Str → Option Value} {base : Heap} {k : Nat} {f : Addr} {name qual : Str} {params : Arguments} {body : List Stmt} {scope : Scope} {dV kV doc pm cdv ct oc : Value} {an od : Option Addr}
    {osl : Array (Option Value)} {N ps : List Str} {sp : Sp} (lk : K.lookup f = some ⟨oc, od, .func (PySem.W.fnOf name qual params body scope dV kV doc pm an cdv ct), osl⟩) (hcd : PySem.W.codeIn K cdv qual = true) (S : FnScope N ps scope)
    (len : ∀ vs H Q E, sp vs H Q E → vs.length = ps.length)
    (hbody : ∀ (A : Around) (outer : List Env) (s : Shared) (H : Hp) (vs : List V) (Q : VK) (E : XK), A.guards = some [] → Room k (A.deeper (envOfC qual scope s.heap.objs.size f cdv)) → sp vs H Q E →
      ∃ t, PSs (cxOf CX P w K mg base N qual scope f cdv A outer s H E) body t ∧ t { nx := fun _ H' => Q .non H', rt := Q } (L2.start N vs) H) :
    FnOkG P w K mg base CX (k + 1) f (PySem.W.fnOf name qual params body scope dV kV doc pm an cdv ct) ps sp := by
  refine ⟨len, fun A outer s H args us vs Q E hgd hr e0 hb r hsp => ?_⟩
  have hl := len _ _ _ _ hsp
  have KX : K.In s.heap := e0.mod.kin.keeps fun b o e => (e0.bs b o e).1
  have lim : s.heap.NoLimit := e0.mod.nolimit.keeps fun b o e => (e0.bs b o e).1
  have hkind : ∀ y ∈ ps.zip us, scope.names.lookup y.1 = some .local ∨ (scope.names.lookup y.1 = some .cell ∧ ((cellsFrom (s.heap.objs.size + 1) scope.names []).lookup y.1).isSome = true) := fun ⟨n, v⟩ hy => by
    rcases S.par n (List.of_mem_zip hy).1 with q | q
    · exact .inl q
    · exact .inr ⟨q, PySem.W.cellsFrom_some _ _ _ (.inl q)⟩
  refine codeAny_call_function hr.depth (KX _ _ lk) rfl S.co S.gen rfl (PySem.W.codeRec_of KX hcd) (hb _ _ _ _ ?_)
  refine wpAny_newFunctionEnv_cells S.kind hkind fun env he s1 x => ?_
  subst he
  refine ⟨lim.keeps x.toInCall.keep, codeAny_func ?_⟩
  obtain ⟨t, ht, hq⟩ := hbody A outer s H vs Q E hgd (hr.deeper _) hsp
  have I : Inv (cxOf CX P w K mg base N qual scope f cdv A outer s H E) [] (L2.start N vs) H s1 := inv_start S hr.hd e0 hl r x
  refine wpAny_mono (ht.run [] s1 (L2.start N vs) H _ I hq) (fun fl s' hs => ?_) fun e s' hs => hs
  have fin : ∀ {σ' : L2.St} {H' : Hp} {v : V} {u : Value}, Inv (cxOf CX P w K mg base N qual scope f cdv A outer s H E) [] σ' H' s' → RelV v u → Q v H' → CE outer P w H s Q u s' :=
    fun {σ' H' v u} J rv q => ⟨v, H', J.os, J.bare, J.base, J.hok, rv, q⟩
  cases fl with
  | ret u =>
    obtain ⟨v, σ', H', J, rv, q⟩ := hs
    exact fin J rv q
  | next =>
    obtain ⟨σ', H', J, q⟩ := hs
    exact fin (v := V.non) (u := Value.none) J rfl q
  | brk =>
    obtain ⟨_, _, _, q⟩ := hs
    exact False.elim q
  | cont =>
    obtain ⟨_, _, _, q⟩ := hs
    exact False.elim q
section
variable {P : Program} {w : World} {K : PySem.W.Frag} {mg : Str → Option Value} {base : Heap}
theorem FnOkG.of {CX : CXT} {k : Nat} {f : Addr} {fd : FuncData} {ps : List Str} {sp : Sp} (F : FnOk P w K mg base CX k f fd ps sp) : FnOkG P w K mg base CX k f fd ps sp := ⟨F.len, fun A outer s H args us vs Q E _ => F.run A outer s H args us vs Q E⟩
theorem fnok_lift {CX : CXT} {k : Nat} {f : Addr} {fd : FuncData} {ps : List Str} {sp : Sp} (F : FnOk P w K mg base CX0 k f fd ps sp) : FnOk P w K mg base CX k f fd ps sp :=
  ⟨F.len, fun A outer s H args us vs Q E hr e0 hb r h => codeAny_mono (F.run A outer s H args us vs Q E hr e0 hb r h) fun r s' h => by
    cases r with
    | error e => exact False.elim h
    | ok fl => cases fl <;> exact h⟩
theorem Fun_okG {x qual : Str} {st : Stmt} {f : Addr} {fd : FuncData} {N ps : List Str} {k : Nat} {sp : Sp} (F : Fun K x qual st f fd) (S : FnScope N ps (defScope st)) (len : ∀ vs H Q E, sp vs H Q E → vs.length = ps.length)
    (hbody : ∀ (cdv : Value) (A : Around) (outer : List Env) (s : Shared) (H : Hp) (vs : List V) (Q : VK) (E : XK), A.guards = some [] → Room k (A.deeper (envOfC qual (defScope st) s.heap.objs.size f cdv)) → sp vs H Q E →
      ∃ t, PSs (cxOf CX0 P w K mg base N qual (defScope st) f cdv A outer s H E).nox (defBody st) t ∧ t { nx := fun _ H' => Q .non H', rt := Q } (L2.start N vs) H) : FnOkG P w K mg base CX0 (k + 1) f fd ps sp := by
  obtain ⟨oc, od, kV, doc, pm, an, cdv, ct, osl, rfl, lk, hcd⟩ := F.ex
  refine fn_ofG lk hcd S len fun A outer s H vs Q E hgd hr hsp => ?_
  obtain ⟨t, h, q⟩ := hbody cdv A outer s H vs Q E hgd hr hsp
  exact ⟨t, h.nox, q⟩
theorem FunC_okG {x qual : Str} {st : Stmt} {f c : Addr} {fd : FuncData} {N ps : List Str} {k : Nat} {sp : Sp} (F : FunC K x qual st f fd c) (S : FnScope N ps (defScope st)) (len : ∀ vs H Q E, sp vs H Q E → vs.length = ps.length)
    (hbody : ∀ (A : Around) (outer : List Env) (s : Shared) (H : Hp) (vs : List V) (Q : VK) (E : XK), A.guards = some [] → Room k (A.deeper (envOfC qual (defScope st) s.heap.objs.size f (.ref c))) → sp vs H Q E →
      ∃ t, PSs (cxOf CX0 P w K mg base N qual (defScope st) f (.ref c) A outer s H E).nox (defBody st) t ∧ t { nx := fun _ H' => Q .non H', rt := Q } (L2.start N vs) H) : FnOkG P w K mg base CX0 (k + 1) f fd ps sp := by
  obtain ⟨oc, od, kV, doc, pm, an, ct, osl, rfl, lk, hcd⟩ := F.ex
  refine fn_ofG lk hcd S len fun A outer s H vs Q E hgd hr hsp => ?_
  obtain ⟨t, h, q⟩ := hbody A outer s H vs Q E hgd hr hsp
  exact ⟨t, h.nox, q⟩
structure FnG (P : Program) (w : World) (K : PySem.W.Frag) (mg : Str → Option Value) (base : Heap) (x : Str) (k : Nat) (ps : List Str) (sp : Sp) : Prop where
  ex : ∃ (f : Addr) (fd : FuncData), FnOkG P w K mg base CX0 k f fd ps sp ∧ mg x = some (.ref f) ∧ PySem.W.keepIn K (.ref f) = true ∧ Binds K fd ps []
end
section
variable {X : Cx}
theorem run_fnG {k : Nat} {f : Addr} {fd : FuncData} {ps : List Str} {sp : Sp} {pins : List (Addr × Obj)} {σ : L2.St} {H : Hp} {s : Shared} {Q : VK} {us : List Value} {vs : List V} (F : FnOkG X.prog X.w X.K X.mg X.base CX0 k f fd ps sp) (hgd : X.A.guards = some []) (hr : Room k X.A) (hb : Binds X.K fd ps [])
    (I : Inv X pins σ H s) (r : Vals vs us) (h : sp (vs ++ []) H Q E0) : wpAny (model X.prog X.w) X.A (call (.ref f) us) (EP X pins σ Q) X.xe s := by
  have r2 : Vals (vs ++ []) (us ++ []) := r.append .nil
  have hl : (us ++ []).length = ps.length := by rw [← r2.length]; exact F.len _ _ _ _ h
  refine wpAny_call (codeAny_mono (F.run X.A X.stack s H ⟨us, []⟩ (us ++ []) (vs ++ []) Q E0 hgd hr I.env0 (hb s us I.kIn hl) r2 h) fun r s' hq => ?_)
  cases r with
  | error e => exact False.elim hq
  | ok fl =>
    cases fl with
    | ret u => exact I.after hq
    | next => exact False.elim hq
    | brk => exact False.elim hq
    | cont => exact False.elim hq
theorem pe_fg {x : Str} {k : Nat} {ps : List Str} {sp : Sp} {e : Expr} {es : List Expr} {t : TA} {p pos : Pos} (F : FnG X.prog X.w X.K X.mg X.base x k ps sp) (hgd : X.A.guards = some []) (hr : Room k X.A) (hg : Gl X x) (ha : PA X (e :: es) t)
    (hdb : (x == ("__debug__" : Str)) = false := by decide) (he : starEach (e :: es) X.env = (false, eval e X.env) :: starEach es X.env := by rfl) (hpl : (backTo pos (starEach es X.env)).any (·.1) = false := by rfl) :
    PE X (.Call (.Name x p) (e :: es) [] pos) (tCall sp [] E0 t) := by
  obtain ⟨f, fd, G, hm, hk, hb⟩ := F.ex
  refine ⟨fun pins s σ H Q I h => ?_⟩
  refine wpAny_Call_Name_kw (ld_glob I hg hm ?_ hdb)
  refine PySem.W.callWith_K (h₀ := X.base) I.ok.mod.kin hk (thn (ha.run pos pins s σ H _ I h) fun us s1 ⟨vs, H1, I1, r, q⟩ => ⟨I1.kIn, ?_⟩) he hpl
  exact run_fnG G hgd hr hb I1 r q
/-- repr(x), x a list or tuple of data without dicts -/
def rReprD (K : PySem.W.Frag) : List V → Hp → VK → Prop := fun xs H Q => ∃ (a : Addr) (d : PyData), xs = [.ref a] ∧ Dp K H (.ref a) d ∧ d.showable = true ∧ d.hasDict = false ∧ d.depth ≤ 60 ∧ d.shown.length ≤ sizeLine ∧ Q (.str d.shown) H
theorem call_reprD (hgd : X.A.guards = some []) (hu : X.A.units + 65 < cLine) : CallR X (.builtin "repr") (rReprD X.K) := by
  intro pins s σ H xs us Q I r h
  obtain ⟨a, d, rfl, hd, h1, h2, h3, h4, q⟩ := h
  cases r with
  | cons ry rt =>
    cases rt
    obtain rfl := (show _ = Value.ref a from ry)
    obtain ⟨bs, r1⟩ := Dp.reads I d (.ref a) _ hd rfl
    refine repr_of_reads' r1 h1 (fun z => by rw [h2] at z; cases z) hgd (by omega) (fun _ _ e => e) (fun h' u tk hk => ?_) h4
    exact ⟨.str d.shown, H, I.kept hk, ⟨u, rfl⟩, q⟩
end
theorem law_callG {P : Program} {w : World} {K : PySem.W.Frag} {mg mb : Str → Option Value} {CX : CXT} {k : Nat} {fa a : Addr} {fd : FuncData} {x : Str} {sp : Sp} {s₁ : Shared} {vs : List Value} {ns : List Int}
    (KX : K.In s₁.heap) (hns : s₁.heap.Ns mainGlobals mg) (hb : s₁.heap.Ns builtinsNs mb) (hbb : ∀ x : Str, x ≠ "__name__" → mb x = bootBuiltins x) (hlim : s₁.heap.NoLimit) (hg : s₁.gens = #[])
    (ha : s₁.heap.get? a = some { cls := .type "list", data := .seq vs.toArray }) (hi : IntsAre vs ns) (hl : ns.length ≤ sizeLine) (hr : Room k callerA)
    (F : ∀ base : Heap, K.In base → base.Ns mainGlobals mg → FnOkG P w K mg base CX k fa fd [x] sp) (hbind : ∀ (s : Shared) (u : Value), BindsTo s fd ⟨[u], []⟩ [(x, u)])
    (hsp : ∀ H : Hp, Only H → SqL K H a (ns.map V.int) → sp [.ref a] H (fun v _ => v = .bl true) fun _ _ _ => False)
    (hCX : ∀ H e s', CX [] H s₁ (fun _ _ _ => False) e s' → False) :
    codeAny (model P w) callerA (.call (.ref fa) ⟨[.ref a], []⟩) (fun r s' => r = .ok (.ret (.bool true)) ∧ OldK s₁.heap s'.heap ∧ s'.os = s₁.os ∧ AllBare s'.gens) s₁ := by
  have rv := vals_ints hi
  have lenV := hi.length
  -- from an abstract heap in which nothing but the script may be tracked
  have core : ∀ H : Hp, Only H → SqL K H a (ns.map V.int) → HOk P w H s₁.heap → (∀ b, H b ≠ none → b = a) → (H a ≠ none → K.lookup a = none) →
      codeAny (model P w) callerA (.call (.ref fa) ⟨[.ref a], []⟩) (fun r s' => r = .ok (.ret (.bool true)) ∧ OldK s₁.heap s'.heap ∧ s'.os = s₁.os ∧ AllBare s'.gens) s₁ := by
    intro H hO hS hok hA hK
    have base_of : ∀ {b : Addr} {o : Obj}, s₁.heap.get? b = some o → H b = none → (hidT s₁.heap H).get? b = some o := fun e n => hidT_get e n
    have noA : ∀ {b : Addr} {o : Obj} {es : Array DictEntry} {ep : Nat}, s₁.heap.get? b = some o → o.data = .dict es ep → H b = none := fun {b o es ep} e d => by
      cases q : H b with
      | none => rfl
      | some u =>
        have e' : b = a := hA b (by rw [q]; simp)
        subst e'
        rw [ha] at e; cases e
        have d' : Data.seq vs.toArray _ = Data.dict es ep := d
        cases d'
    have nsK : ∀ {b : Addr} {m : Str → Option Value}, s₁.heap.Ns b m → (hidT s₁.heap H).Ns b m := fun {b m} ⟨o, es, ep, e, d, r⟩ => ⟨o, es, ep, base_of e (noA e d), d, r⟩
    have hKb : K.In (hidT s₁.heap H) := fun b o e => base_of (KX b o e) (by
      cases q : H b with
      | none => rfl
      | some u =>
        have e' : b = a := hA b (by rw [q]; simp)
        subst e'
        rw [hK (by rw [q]; simp)] at e; cases e)
    have hM : Mod K mg (hidT s₁.heap H) := ⟨hKb, nsK hns, ⟨mb, nsK hb, hbb⟩, let ⟨mc, h1, h2⟩ := hlim; ⟨mc, nsK h1, h2⟩⟩
    have e0 : Env0 P w K mg (hidT s₁.heap H) callerA [] s₁ H := ⟨rfl, hM, fun b o e => of_hidT e, Nat.le_of_eq (hidT_size _ _), trivial, fun b hb => absurd (show b ∈ ([] : List Addr) from hb) (by simp), hok, .of_eq hg⟩
    refine codeAny_mono ((F _ hKb (nsK hns)).run callerA [] s₁ H ⟨[.ref a], []⟩ [.ref a] [.ref a] _ _ rfl hr e0 (hbind s₁ (.ref a)) (.cons rfl .nil) (hsp H hO hS)) fun r s' h => ?_
    cases r with
    | error e => exact (hCX H e s' h).elim
    | ok fl =>
      cases fl with
      | next => exact False.elim h
      | brk => exact False.elim h
      | cont => exact False.elim h
      | ret u =>
        obtain ⟨v, H', os, bare, un, hok', r', q⟩ := h
        have q' : v = .bl true := q
        subst q'
        obtain rfl : u = Value.bool true := r'
        refine ⟨rfl, OldK.of_keep fun b o e => ?_, os, bare⟩
        cases q : H b with
        | none => exact un.keep b o e q (by intro z; exact absurd (show b ∈ ([] : List Addr) from z) (by simp)) (by simp)
        | some u =>
          rcases hO b with z | ⟨ob, xs, z⟩
          · rw [q] at z; cases z
          · have z2 := un.frzs b ob _ z
            obtain ⟨e1, _⟩ := hok b _ z
            obtain ⟨e2, _⟩ := hok' b _ z2
            rw [e] at e1; cases e1
            exact e2
  cases hk : K.lookup a with
  | some o =>
    -- the script is one of the module's own objects
    have e := KX a o hk
    rw [ha] at e
    cases e
    refine core (fun _ => none) (fun _ => .inl rfl) (.inr ⟨_, vs.toArray, _, hk, rfl, rfl, rfl, by rw [List.size_toArray, lenV]; exact hl, by simpa using rv⟩) (fun b u z => by have z' : (none : Option HO) = some u := z; cases z') (fun b z => absurd rfl z) fun z => absurd rfl z
  | none =>
    refine core (fun b => if b = a then some (.frz { cls := .type "list", data := .seq vs.toArray } (.lst (ns.map V.int))) else none) (fun b => ?_) (.inl (.inr ⟨{ cls := .type "list", data := .seq vs.toArray }, if_pos rfl⟩)) (fun b u z => ?_) (fun b z => ?_) fun _ => hk
    · by_cases hb : b = a
      · exact .inr ⟨_, _, if_pos hb⟩
      · exact .inl (if_neg hb)
    · by_cases hb : b = a
      · have z' := (if_pos hb).symm.trans z
        cases z'
        subst hb
        exact ⟨ha, by rw [List.length_map]; exact hl, vs, _, rv, ha⟩
      · have z' := (if_neg hb).symm.trans z
        cases z'
    · by_cases hb : b = a
      · exact hb
      · exact absurd (if_neg hb) z
theorem law_callTsG {P : Program} {w : World} {K : PySem.W.Frag} {mg mb : Str → Option Value} {CX : CXT} {k : Nat} {fa a : Addr} {cs : List (Addr × Addr)} {fd : FuncData} {x : Str} {sp : Sp} {s₁ : Shared} {vs : List Value} {ns : List Int}
    (KX : K.In s₁.heap) (hns : s₁.heap.Ns mainGlobals mg) (hb : s₁.heap.Ns builtinsNs mb) (hbb : ∀ x : Str, x ≠ "__name__" → mb x = bootBuiltins x) (hlim : s₁.heap.NoLimit) (hg : s₁.gens = #[])
    (hT : ∀ p ∈ cs, s₁.heap.get? p.2 = some { cls := .none, data := .fields #[] }) (nT : ∀ p ∈ cs, K.lookup p.2 = none) (C : ∀ p ∈ cs, PySem.W.CodeHd s₁.heap p.1 p.2)
    (hbm : ∃ (bm : Addr) (ob : Obj), mg "__builtins__" = some (.ref bm) ∧ bm ≠ builtinsNs ∧ s₁.heap.get? bm = some ob ∧ ob.cls = .type "module" ∧ ob.dict = some builtinsNs ∧ ob.data = .plain)
    (ha : s₁.heap.get? a = some { cls := .type "list", data := .seq vs.toArray }) (hi : IntsAre vs ns) (hl : ns.length ≤ sizeLine) (hr : Room k callerA)
    (F : ∀ base : Heap, K.In base → base.Ns mainGlobals mg → (∀ p ∈ cs, TabB base mg p.1 p.2) → FnOkG P w K mg base CX k fa fd [x] sp) (hbind : ∀ (s : Shared) (u : Value), BindsTo s fd ⟨[u], []⟩ [(x, u)])
    (hsp : ∀ H : Hp, (∀ p ∈ cs, H p.2 = some (.tbl #[])) → SqL K H a (ns.map V.int) → sp [.ref a] H (fun v _ => v = .bl true) fun _ _ _ => False)
    (hCX : ∀ H e s', CX [] H s₁ (fun _ _ _ => False) e s' → False) :
    codeAny (model P w) callerA (.call (.ref fa) ⟨[.ref a], []⟩) (fun r s' => r = .ok (.ret (.bool true)) ∧ OldK s₁.heap s'.heap ∧ s'.os = s₁.os ∧ AllBare s'.gens) s₁ := by
  have rv := vals_ints hi
  have lenV := hi.length
  have isT : ∀ b : Addr, b ∈ cs.map (·.2) → s₁.heap.get? b = some { cls := .none, data := .fields #[] } := fun b hb => by
    obtain ⟨p, hp, e⟩ := List.mem_map.mp hb
    rw [← e]
    exact hT p hp
  have aT : a ∉ cs.map (·.2) := fun z => by
    have q := isT a z
    rw [ha] at q
    have z' : Data.seq vs.toArray _ = Data.fields #[] := congrArg Obj.data (Option.some.inj q)
    cases z'
  have memT : ∀ p ∈ cs, p.2 ∈ cs.map (·.2) := fun p hp => List.mem_map.mpr ⟨p, hp, rfl⟩
  -- from an abstract heap in which nothing but the script and the tables may be tracked
  have core : ∀ H : Hp, (∀ p ∈ cs, H p.2 = some (.tbl #[])) → (∀ b, H b = none ∨ b ∈ cs.map (·.2) ∨ ∃ o xs, H b = some (.frz o (.lst xs))) → SqL K H a (ns.map V.int) → HOk P w H s₁.heap → (∀ b, H b ≠ none → b = a ∨ b ∈ cs.map (·.2)) → (H a ≠ none → K.lookup a = none) →
      codeAny (model P w) callerA (.call (.ref fa) ⟨[.ref a], []⟩) (fun r s' => r = .ok (.ret (.bool true)) ∧ OldK s₁.heap s'.heap ∧ s'.os = s₁.os ∧ AllBare s'.gens) s₁ := by
    intro H hH hO hS hok hA hK
    have base_of : ∀ {b : Addr} {o : Obj}, s₁.heap.get? b = some o → H b = none → (hidT s₁.heap H).get? b = some o := fun e n => hidT_get e n
    have noD : ∀ {b : Addr} {o : Obj}, s₁.heap.get? b = some o → (∀ vs n, o.data ≠ .seq vs n) → o.data ≠ .fields #[] → H b = none := fun {b o} e h1 h2 => by
      cases q : H b with
      | none => rfl
      | some u =>
        rcases hA b (by rw [q]; simp) with e' | e'
        · rw [e', ha] at e
          cases e
          exact (h1 _ _ rfl).elim
        · rw [isT b e'] at e
          cases e
          exact (h2 rfl).elim
    have noA : ∀ {b : Addr} {o : Obj} {es : Array DictEntry} {ep : Nat}, s₁.heap.get? b = some o → o.data = .dict es ep → H b = none := fun {b o es ep} e d => by
      refine noD e (fun vs n z => ?_) fun z => ?_
      · rw [d] at z
        cases z
      · rw [d] at z
        cases z
    have nsK : ∀ {b : Addr} {m : Str → Option Value}, s₁.heap.Ns b m → (hidT s₁.heap H).Ns b m := fun {b m} ⟨o, es, ep, e, d, r⟩ => ⟨o, es, ep, base_of e (noA e d), d, r⟩
    have hKb : K.In (hidT s₁.heap H) := fun b o e => base_of (KX b o e) (by
      cases q : H b with
      | none => rfl
      | some u =>
        rcases hA b (by rw [q]; simp) with e' | e'
        · rw [e'] at e q
          rw [hK (by rw [q]; simp)] at e
          cases e
        · obtain ⟨p, hp, ep⟩ := List.mem_map.mp e'
          rw [← ep, nT p hp] at e
          cases e)
    have hM : L2.Mod K mg (hidT s₁.heap H) := ⟨hKb, nsK hns, ⟨mb, nsK hb, hbb⟩, let ⟨mc, h1, h2⟩ := hlim; ⟨mc, nsK h1, h2⟩⟩
    have TB : ∀ p ∈ cs, TabB (hidT s₁.heap H) mg p.1 p.2 := fun p hp => by
      have hTp := hT p hp
      refine ⟨?_, ?_, fun z => ?_⟩
      · obtain ⟨o, us, file, tf, flags, tg, inF, text, tt, e1, r1, r2, r3, r4, r5, r6, r7, r8, hne⟩ := C p hp
        refine ⟨o, us, file, tf, flags, tg, inF, text, tt, base_of e1 (noD e1 (fun vs n z => ?_) fun z => ?_), r1, r2, r3, r4, r5, r6, r7, r8, hne⟩
        · rw [r2] at z
          cases z
        · rw [r2] at z
          cases z
          simp at r3
      · obtain ⟨bm, ob, b1, b2, b3, b4, b5, b6⟩ := hbm
        have nG : bm ≠ mainGlobals := fun q => by
          obtain ⟨o, es, ep, e, hd, _⟩ := hns
          rw [q, e] at b3
          cases b3
          rw [hd] at b6
          cases b6
        have nP : bm ≠ p.2 := fun q => by
          rw [q, hTp] at b3
          cases b3
          cases b6
        refine ⟨bm, ob, b1, b2, nG, nP, base_of b3 (noD b3 (fun vs n z => ?_) fun z => ?_), b4, b5, b6⟩
        · rw [b6] at z
          cases z
        · rw [b6] at z
          cases z
      · obtain ⟨o, es, ep, e, hd, _⟩ := hns
        rw [z, hTp] at e
        cases e
        cases hd
    have e0 : Env0 P w K mg (hidT s₁.heap H) callerA [] s₁ H := ⟨rfl, hM, fun b o e => of_hidT e, Nat.le_of_eq (hidT_size _ _), trivial, fun b hb => absurd (show b ∈ ([] : List Addr) from hb) (by simp), hok, .of_eq hg⟩
    refine codeAny_mono ((F _ hKb (nsK hns) TB).run callerA [] s₁ H ⟨[.ref a], []⟩ [.ref a] [.ref a] _ _ rfl hr e0 (hbind s₁ (.ref a)) (.cons rfl .nil) (hsp H hH hS)) fun r s' h => ?_
    cases r with
    | error e => exact (hCX H e s' h).elim
    | ok fl =>
      cases fl with
      | next => exact False.elim h
      | brk => exact False.elim h
      | cont => exact False.elim h
      | ret u =>
        obtain ⟨v, H', os, bare, un, hok', r', q⟩ := h
        have q' : v = .bl true := q
        subst q'
        obtain rfl : u = Value.bool true := r'
        have key : ∀ b o, b ∉ cs.map (·.2) → s₁.heap.get? b = some o → s'.heap.get? b = some o := fun b o nb e => by
          cases q : H b with
          | none => exact un.keep b o e q (by intro z; exact absurd (show b ∈ ([] : List Addr) from z) (by simp)) (by simp)
          | some u =>
            rcases hO b with z | z | ⟨ob, xs, z⟩
            · rw [q] at z; cases z
            · exact absurd z nb
            · have z2 := un.frzs b ob _ z
              obtain ⟨e1, _⟩ := hok b _ z
              obtain ⟨e2, _⟩ := hok' b _ z2
              rw [e] at e1; cases e1
              exact e2
        have grown : ∀ p ∈ cs, ∃ more : Array Value, s'.heap.get? p.2 = some { cls := .none, data := .fields more } := fun p hp => by
          obtain ⟨more, z⟩ := un.tbls p.2 #[] (hH p hp)
          exact ⟨_, hok' p.2 _ z⟩
        refine ⟨rfl, ⟨fun b o e => ?_, fun b o e => ?_⟩, os, bare⟩
        · by_cases hb : b ∈ cs.map (·.2)
          · obtain ⟨p, hp, ep⟩ := List.mem_map.mp hb
            obtain ⟨more, hm⟩ := grown p hp
            rw [← ep] at e ⊢
            rw [hT p hp] at e
            cases e
            exact .inr (.inl ⟨((C p hp).tab (hT p hp)).isCodeTable, rfl, #[], more, rfl, by rw [Array.empty_append]; exact hm⟩)
          · exact .inl (key b o hb e)
        · by_cases hb : b ∈ cs.map (·.2)
          · obtain ⟨p, hp, ep⟩ := List.mem_map.mp hb
            obtain ⟨more, hm⟩ := grown p hp
            rw [← ep]
            exact ⟨_, hm⟩
          · exact ⟨o, key b o hb e⟩
  cases hk : K.lookup a with
  | some o =>
    have e := KX a o hk
    rw [ha] at e
    cases e
    refine core (fun b => if b ∈ cs.map (·.2) then some (.tbl #[]) else none) (fun p hp => if_pos (memT p hp)) (fun b => ?_) (.inr ⟨_, vs.toArray, _, hk, rfl, rfl, rfl, by rw [List.size_toArray, lenV]; exact hl, by simpa using rv⟩) (fun b u z => ?_) (fun b z => ?_) fun z => absurd (show (if a ∈ cs.map (·.2) then some (HO.tbl #[]) else none) = none from if_neg aT) z
    · by_cases hb : b ∈ cs.map (·.2)
      · exact .inr (.inl hb)
      · exact .inl (if_neg hb)
    · by_cases hb : b ∈ cs.map (·.2)
      · have z' := (if_pos hb).symm.trans z
        cases z'
        exact isT b hb
      · have z' := (if_neg hb).symm.trans z
        cases z'
    · by_cases hb : b ∈ cs.map (·.2)
      · exact .inr hb
      · exact absurd (if_neg hb) z
  | none =>
    refine core (fun b => if b = a then some (.frz { cls := .type "list", data := .seq vs.toArray } (.lst (ns.map V.int))) else if b ∈ cs.map (·.2) then some (.tbl #[]) else none) (fun p hp => (if_neg (show ¬ p.2 = a from fun z => aT (by rw [← z]; exact memT p hp))).trans (if_pos (memT p hp))) (fun b => ?_)
      (.inl (.inr ⟨{ cls := .type "list", data := .seq vs.toArray }, if_pos rfl⟩)) (fun b u z => ?_) (fun b z => ?_) fun _ => hk
    · by_cases hb : b = a
      · exact .inr (.inr ⟨_, _, if_pos hb⟩)
      · by_cases hb2 : b ∈ cs.map (·.2)
        · exact .inr (.inl hb2)
        · exact .inl ((if_neg hb).trans (if_neg hb2))
    · by_cases hb : b = a
      · have z' := (if_pos hb).symm.trans z
        cases z'
        rw [hb]
        exact ⟨ha, by rw [List.length_map]; exact hl, vs, _, rv, ha⟩
      · have z1 := (if_neg hb).symm.trans z
        by_cases hb2 : b ∈ cs.map (·.2)
        · have z' := (if_pos hb2).symm.trans z1
          cases z'
          exact isT b hb2
        · have z' := (if_neg hb2).symm.trans z1
          cases z'
    · by_cases hb : b = a
      · exact .inl hb
      · by_cases hb2 : b ∈ cs.map (·.2)
        · exact .inr hb2
        · exact absurd ((if_neg hb).trans (if_neg hb2)) z
/-- as LawAtS, the law's def where no repr is under way -/
def LawAtSG (l : PySem.W.OpenLaw) (w : World) (K : PySem.W.Frag) (CX : CXT) (k n : Nat) (x : Str) (mg : Str → Option Value) (fa : Addr) (h : Heap) : Prop :=
  ∃ (fd : FuncData) (cs : List (Addr × Addr)) (sp : Sp), (∀ p ∈ cs, h.get? p.2 = some { cls := .none, data := .fields #[] }) ∧ (∀ p ∈ cs, K.lookup p.2 = none) ∧ (∀ p ∈ cs, PySem.W.CodeHd h p.1 p.2) ∧ (∀ (s : Shared) (u : Value), BindsTo s fd ⟨[u], []⟩ [(x, u)]) ∧
    (∀ (H : Hp) (a : Addr) (ns : List Int), ns.length ≤ n → (∀ z ∈ ns, Builtin.Int.intBits z ≤ 1048576) → (∀ p ∈ cs, H p.2 = some (.tbl #[])) → SqL K H a (ns.map V.int) → sp [.ref a] H (fun v _ => v = .bl true) fun _ _ _ => False) ∧
    ∀ base : Heap, K.In base → base.Ns mainGlobals mg → (∀ p ∈ cs, TabB base mg p.1 p.2) → FnOkG l.prog w K mg base CX k fa fd [x] sp
theorem walk_ofTsEG {l : PySem.W.OpenLaw} {n k : Nat} {q : Program} {loose : List Str} {XP : (Str → Option Value) → Heap → Prop} {YP : World → Heap → Prop} {d : DefRec} {CX : World → CXT} {x : Str}
    (hn : l.most = some n) (hn2 : n ≤ sizeLine) (hdf : d.params.defaults = []) (hr : Room k callerA)
    (F : ∀ (w : World) (mg : Str → Option Value) (fa : Addr) (h : Heap), YP w h → h.Ns mainGlobals mg → mg d.name = some (.ref fa) → ∃ K : PySem.W.Frag, K.In h ∧ LawAtSG l w K (CX w) k n x mg fa h)
    (hCX : ∀ (w : World) (H : Hp) (s : Shared) (e : Value) (s' : Shared), CX w [] H s (fun _ _ _ => False) e s' → False) :
    PySem.W.WalkO q loose XP YP l.row.toRowW d [] (fun f vs => PySem.call f vs) := by
  refine Att.attach_callB hn hdf fun w s₀ s₁ mg mb fa o pm cd doc a vs ns G Y ho hd hcd hmg hobj hints hlen hbits hg => ?_
  obtain ⟨K, KX, fd, cs, sp, hT, nT, C, hb, hsp, hF⟩ := F w mg fa _ Y G.T.g hmg
  exact law_callTsG KX G.T.g G.T.b G.T.builtins G.T.nolimit hg hT nT C G.T.bmain hobj hints (Nat.le_trans hlen hn2) hr hF hb (fun H hH hS => hsp H a ns hlen hbits hH hS) fun H e s' => hCX w H s₁ e s'
theorem walk_ofG {l : PySem.W.OpenLaw} {n k : Nat} {q : Program} {loose : List Str} {XP : (Str → Option Value) → Heap → Prop} {YP : World → Heap → Prop} {d : DefRec} {K : Params → PySem.W.Frag} {CX : World → CXT} {sp : World → Sp} {x : Str}
    (hn : l.most = some n) (hn2 : n ≤ sizeLine) (hdf : d.params.defaults = []) (hr : Room k callerA)
    (hY : ∀ (w : World) (h : Heap), YP w h → (K w.params).In h)
    (F : ∀ (w : World) (mg : Str → Option Value) (fa : Addr) (h : Heap), (K w.params).In h → h.Ns mainGlobals mg → mg d.name = some (.ref fa) →
      ∃ fd : FuncData, (∀ (s : Shared) (u : Value), BindsTo s fd ⟨[u], []⟩ [(x, u)]) ∧
        ∀ base : Heap, (K w.params).In base → base.Ns mainGlobals mg → FnOkG l.prog w (K w.params) mg base (CX w) k fa fd [x] (sp w))
    (hsp : ∀ (w : World) (H : Hp) (a : Addr) (ns : List Int), ns.length ≤ n → Only H → SqL (K w.params) H a (ns.map V.int) → sp w [.ref a] H (fun v _ => v = .bl true) fun _ _ _ => False)
    (hCX : ∀ (w : World) (H : Hp) (s : Shared) (e : Value) (s' : Shared), CX w [] H s (fun _ _ _ => False) e s' → False) :
    PySem.W.WalkO q loose XP YP l.row.toRowW d [] (fun f vs => PySem.call f vs) := by
  refine Att.attach_call hn hdf fun w s₀ s₁ mg mb fa o pm cd doc a vs ns G Y ho hd hcd hmg hobj hints hlen hg => ?_
  have KX := hY w _ Y
  obtain ⟨fd, hb, hF⟩ := F w mg fa _ KX G.T.g hmg
  exact law_callG KX G.T.g G.T.b G.T.builtins G.T.nolimit hg hobj hints (Nat.le_trans hlen hn2) hr hF hb (fun H hO hS => hsp w H a ns hlen hO hS) fun H e s' => hCX w H s₁ e s'
end Bw

/-! != against an object of another own class -/
namespace Bw
open PySem PySem.Spec PyProof.Rows L2 LamX
def rNeOth (K : PySem.W.Frag) (C C' : Addr) (R : Addr → V → Hp → Bool → Prop) : R2 := fun x y H Q => ∃ b, BOth K C C' R x y H b ∧ ∀ H', Same H H' → Q (.bl (!b)) H'
section
variable {X : Cx} {n : Nat}
theorem op_neOth {C C' : Addr} {ps : List Str} {R : Addr → V → Hp → Bool → Prop} (O : EqO X.prog X.w X.K X.mg X.base C n ps (spEqb R)) (N : NeO X.K C) (hr : Room (n + 1) X.A) : OpR X (compareOp .NotEq) (rNeOth X.K C C' R) := by
  intro pins s σ H x y v u Q I rx ry h
  obtain ⟨b, ⟨a, dx, fs, r, dx', fs', rfl, ha, rfl, hr', nf, hR⟩, q⟩ := h
  obtain ⟨f, fd, F, hs, hf, hb⟩ := O.ex
  cases rx
  obtain ⟨mB, J', _⟩ := (show _ from by
    cases (show u = Value.ref r from ry)
    exact ins_get I.hok hr')
  obtain ⟨od', J', _⟩ := J'.look
  cases (show u = Value.ref r from ry)
  obtain ⟨mA, J, _⟩ := ins_get I.hok ha
  obtain ⟨od, J, _⟩ := J.look
  obtain ⟨m, hF⟩ := I.fr
  show wpAny (model X.prog X.w) X.A (richCompare .NotEq (.ref a) (.ref r)) (EP X pins σ Q) X.xe s
  have hu1 : X.A.units + 1 < cLine := by have := hr.units; omega
  refine cmp_ne hu1 hF I.ok.mod.kin J J'.type nf N.ne N.so hs hf ?_
  have hsp : spEqb R [.ref a, .ref r] H (fun v H' => v = .bl b ∧ Same H H') C8.E0 := ⟨a, .ref r, b, rfl, hR, fun H' e => ⟨rfl, e⟩⟩
  have sb : Sub X n X.A.in1 := Sub.in1 ⟨hr, rfl⟩
  have e0 : Env0 X.prog X.w X.K X.mg X.base X.A.in1 X.stack s H := by
    have e := I.env0
    exact ⟨by rw [sb.fr]; exact e.frames, e.mod, e.bs, e.bsz, e.funs, e.frf, e.hok, e.bare⟩
  have hl := F.len _ _ _ _ hsp
  have r2 : Vals [V.ref a, V.ref r] [Value.ref a, Value.ref r] := .cons rfl (.cons rfl .nil)
  refine wpAny_call (codeAny_mono (F.run X.A.in1 X.stack s H ⟨[.ref a, .ref r], []⟩ [.ref a, .ref r] [.ref a, .ref r] _ _ sb.room e0 (by
    have := hb s [.ref a, .ref r] I.kIn (by simpa using hl)
    simpa using this) r2 hsp) fun r s' hq => ?_)
  cases r with
  | error e => exact pass0 pins σ H s e s' I hq
  | ok fl =>
    cases fl with
    | ret w =>
      obtain ⟨z, H', I', rz, ez, ex⟩ := I.after hq
      subst ez
      cases rz
      exact ⟨b, rfl, .bl (!b), H', I', rfl, q H' ex⟩
    | next => exact False.elim hq
    | brk => exact False.elim hq
    | cont => exact False.elim hq
end
end Bw

/-! the kinds of errors in the laws of ranks (k31 to k48): eighteen classes, four clauses -/
namespace Bw
open PySem PySem.Spec PyProof.Rows L2
def kind3Names : List Str := ["NoWord", "NoText", "NoNumber", "NoSize", "NoLengths", "NoQuery", "NoCode", "NoRow", "NoEntries", "NoQueryText", "NoPages", "NoShelf", "NoQueries", "NoPlace", "NoSlot", "NoRatio", "Held", "Gone"]
def kind3B (K : PySem.W.Frag) (Cs : List Addr) (D : Addr) (i : Nat) : Bool := excB K D && Cs.zipIdx.all fun x => decide (PySem.W.kitOne K (.ref D) (.ref x.1) = some (decide (x.2 = i)))
structure Kind3 (K : PySem.W.Frag) (Cs : List Addr) (D : Addr) (i : Nat) : Prop where
  ex : ExcC K D
  is : ∀ (j : Nat) (C : Addr), Cs[j]? = some C → PySem.W.kitOne K (.ref D) (.ref C) = some (decide (j = i))
theorem kind3B_ok {K : PySem.W.Frag} {Cs : List Addr} {D : Addr} {i : Nat} (h : kind3B K Cs D i = true) : Kind3 K Cs D i := by
  unfold kind3B at h
  simp only [Bool.and_eq_true, decide_eq_true_eq, List.all_eq_true] at h
  obtain ⟨h1, h2⟩ := h
  refine ⟨excB_ok h1, fun j C e => ?_⟩
  exact h2 (C, j) (by
    rw [List.mem_iff_getElem?]
    exact ⟨j, by simp [List.getElem?_zipIdx, e]⟩)
/-- the clauses: what they catch, and which built-in error it has to be -/
abbrev Cl3 := List (List Value × String)
def cl3B (K : PySem.W.Frag) (cl : Cl3) (D : Addr) (c : Nat) : Bool := ((cl.take c).all fun x => decide (PySem.W.exmAny K (.ref D) x.1 = some false)) && (match cl[c]? with
  | some x => decide (PySem.W.exmAny K (.ref D) x.1 = some true) && decide (PySem.W.kitOne K (.ref D) (.type x.2) = some true)
  | none => false)
structure How3 (K : PySem.W.Frag) (Cs : List Addr) (cl : Cl3) (D : Addr) (i c : Nat) : Prop where
  k : Kind3 K Cs D i
  no : ∀ (j : Nat) (x : List Value × String), j < c → cl[j]? = some x → PySem.W.exmAny K (.ref D) x.1 = some false
  yes : ∃ x, cl[c]? = some x ∧ PySem.W.exmAny K (.ref D) x.1 = some true ∧ PySem.W.kitOne K (.ref D) (.type x.2) = some true
def how3B (K : PySem.W.Frag) (Cs : List Addr) (cl : Cl3) (D : Addr) (i c : Nat) : Bool := kind3B K Cs D i && cl3B K cl D c
theorem how3B_ok {K : PySem.W.Frag} {Cs : List Addr} {cl : Cl3} {D : Addr} {i c : Nat} (h : how3B K Cs cl D i c = true) : How3 K Cs cl D i c := by
  unfold how3B cl3B at h
  simp only [Bool.and_eq_true, List.all_eq_true, decide_eq_true_eq] at h
  obtain ⟨h1, h2, h3⟩ := h
  refine ⟨kind3B_ok h1, fun j x hj hx => ?_, ?_⟩
  · exact h2 x (List.mem_iff_getElem?.mpr ⟨j, by rw [List.getElem?_take_of_lt hj]; exact hx⟩)
  · cases e : cl[c]? with
    | none => rw [e] at h3; cases h3
    | some x =>
      rw [e] at h3
      simp only [Bool.and_eq_true, decide_eq_true_eq] at h3
      exact ⟨x, rfl, h3.1, h3.2⟩
def spKind3 (K : PySem.W.Frag) (Cs : List Addr) : SpP := fun p vs H Q => ∃ (D : Addr) (d : Option Addr) (i : Nat) (nm : Str), vs = [.ref p.1] ∧ Zc (.ref D) d p.2 ∧ (∃ vs, p.2.data = .fields vs) ∧ Kind3 K Cs D i ∧ XdOk d H ∧ kind3Names[i]? = some nm ∧ ∀ H', Same H H' → Q (.str nm) H'
/-- what the asker makes of a raised one -/
def howE3 (K : PySem.W.Frag) (Cs : List Addr) (cl : Cl3) (Q : VK) : XK := fun cls d H => ∃ D : Addr, cls = .ref D ∧ ∃ (i c : Nat) (nm : Str), How3 K Cs cl D i c ∧ kind3Names[i]? = some nm ∧ XdOk d H ∧ ∀ H', Same H H' → Q (.str nm) H'
def TTHow3 (K : PySem.W.Frag) (Cs : List Addr) (cl : Cl3) : (XK → Hp → VK → Prop) → Hp → VK → Prop := fun tl H Q => tl (howE3 K Cs cl Q) H (fun _ H' => Q (.str "told") H')
theorem w_how3 {K : PySem.W.Frag} {Cs : List Addr} {cl : Cl3} {tl : XK → Hp → VK → Prop} {H : Hp} {Q : VK} (h : tl (howE3 K Cs cl Q) H (fun _ H' => Q (.str "told") H')) : TTHow3 K Cs cl tl H Q := h
def bit18 (i : Nat) : List Bool := [decide (0 = i), decide (1 = i), decide (2 = i), decide (3 = i), decide (4 = i), decide (5 = i), decide (6 = i), decide (7 = i), decide (8 = i), decide (9 = i), decide (10 = i), decide (11 = i), decide (12 = i), decide (13 = i), decide (14 = i), decide (15 = i), decide (16 = i), decide (17 = i)]
theorem kind3_lt {i : Nat} {nm : Str} (h : kind3Names[i]? = some nm) : i < 18 := (List.getElem?_eq_some_iff.mp h).1
theorem cnt18 {i : Nat} (h : i < 18) : (((bit18 i).count true : Nat) : Int) = 1 := by
  have : ∀ i, i < 18 → (((bit18 i).count true : Nat) : Int) = 1 := by decide
  exact this i h
theorem idx18 {i : Nat} (h : i < 18) : (bit18 i)[i]? = some true := by
  have : ∀ i, i < 18 → (bit18 i)[i]? = some true := by decide
  exact this i h
theorem bef18 {i : Nat} (h : i < 18) (m : Nat) (hm : m < i) : (bit18 i)[m]? ≠ some true := by
  have : ∀ i, i < 18 → ∀ m, m < i → (bit18 i)[m]? ≠ some true := by decide
  exact this i h m hm
theorem nam18 {i : Nat} {nm : Str} (h : kind3Names[i]? = some nm) : atI (kind3Names.map V.str) (i : Int) = some (.str nm) := atI_nat (by rw [List.getElem?_map, h]; rfl)
end Bw

/-! except suites that raise: raise X(..) from e -/
namespace Bw
open PySem PySem.Spec PyProof.Rows L2 L2H HotX
/-! ### raise X(..) from e, e the exception that is handled -/
def setFrom (h : Heap) (a : Addr) (v : Value) : Heap := (h.update a (Obj.mapFields (·.setIfInBounds 3 v))).update a (Obj.mapFields (·.setIfInBounds 4 (.bool true)))
theorem setFrom_at {h : Heap} {a : Addr} {v : Value} {oe : Obj} {vs : Array Value} (ha : h.get? a = some oe) (hd : oe.data = .fields vs) :
    (setFrom h a v).get? a = some ((oe.mapFields (·.setIfInBounds 3 v)).mapFields (·.setIfInBounds 4 (.bool true))) ∧ ((oe.mapFields (·.setIfInBounds 3 v)).mapFields (·.setIfInBounds 4 (.bool true))).data = .fields ((vs.setIfInBounds 3 v).setIfInBounds 4 (.bool true)) := by
  have hd3 := Obj.data_mapFields hd (·.setIfInBounds 3 v)
  have ha3 := Heap.get?_update_self (Obj.mapFields (·.setIfInBounds 3 v)) ha (Obj.isFreed_of_fields hd3)
  have hd4 := Obj.data_mapFields hd3 (·.setIfInBounds 4 (.bool true))
  exact ⟨Heap.get?_update_self (Obj.mapFields (·.setIfInBounds 4 (.bool true))) ha3 (Obj.isFreed_of_fields hd4), hd4⟩
theorem setFrom_other {h : Heap} {a b : Addr} {v : Value} (hne : a ≠ b) : (setFrom h a v).get? b = h.get? b := by
  unfold setFrom
  rw [Heap.get?_update_other _ _ hne, Heap.get?_update_other _ _ hne]
theorem raise_made_from {prog : Program} {w : World} {A : Around} {E : Value → Shared → Prop} {env : Env} {s : Shared} {x c : Sem Value} {Q : Flow → Shared → Prop} {x1 : Addr}
    (h : wpAny (model prog w) A x (fun v s₁ => ∃ a oe vs cls o1 v1, v = .ref a ∧ s₁.heap.get? a = some oe ∧ oe.cls = cls ∧ oe.data = .fields vs ∧ vs[1]? = some .none ∧ 4 < vs.size ∧ x1 ≠ a ∧ A.handled = some (.ref x1) ∧ Chn s₁.heap (fun x => x ≠ a) (.ref x1) ∧
      s₁.heap.get? x1 = some o1 ∧ o1.data = .fields v1 ∧ (∀ Q' : Value → Shared → Prop, Q' (.ref x1) s₁ → wpAny (model prog w) A c Q' E s₁) ∧
      PySem.W.Looks (model prog w) s₁.heap (isInstance (.ref x1) (.type "BaseException")) true ∧
      PySem.W.Looks (model prog w) s₁.heap (isSubtype cls (.type "BaseException")) true ∧ PySem.W.Looks (model prog w) (setFrom s₁.heap a (.ref x1)) (typeOf cls) (.type "type") ∧
      E (.ref a) { s₁ with heap := (setFrom s₁.heap a (.ref x1)).update a (Obj.mapFields (·.setIfInBounds 2 (.ref x1))) }) E s) :
    wpAny (model prog w) A (raiseStmt env (some x) (some c)) Q E s := by
  unfold raiseStmt
  dsimp only
  refine wpAny_bind (wpAny_mono h (fun v s₁ h₁ => ?_) fun _ _ x => x)
  obtain ⟨a, oe, vs, cls, o1, v1, rfl, ha, hcls, hd, h1, hi, hne, hh, C, ho1, hd1, hcs, LX, L1, L3, hE⟩ := h₁
  have LT : PySem.W.Looks (model prog w) s₁.heap (typeOf (.ref a)) cls := fun A Q E s k q => wpAny_typeOf_ref (k _ _ ha) (by rw [hcls]; exact q)
  have LI : PySem.W.Looks (model prog w) s₁.heap (isInstance (.ref a) (.type "BaseException")) true := LT.andThen L1
  have hnt : ∀ {Q' : Bool → Shared → Prop}, Q' false s₁ → wpAny (model prog w) A (isType (.ref a)) Q' E s₁ := by
    intro Q' hq
    simp only [isType, loadHead]
    refine wpAny_bind (wpAny_loadPart ha ?_)
    rw [hd]; exact wpAny_pure hq
  have hntx : ∀ {Q' : Bool → Shared → Prop}, Q' false s₁ → wpAny (model prog w) A (isType (.ref x1)) Q' E s₁ := by
    intro Q' hq
    simp only [isType, loadHead]
    refine wpAny_bind (wpAny_loadPart ho1 ?_)
    rw [hd1]; exact wpAny_pure hq
  have hd3 := Obj.data_mapFields hd (·.setIfInBounds 3 (.ref x1))
  have ha3 := Heap.get?_update_self (Obj.mapFields (·.setIfInBounds 3 (.ref x1))) ha (Obj.isFreed_of_fields hd3)
  obtain ⟨ha4, hd4⟩ := setFrom_at (v := .ref x1) ha hd
  have s3 : 3 < vs.size := by omega
  have s4 : 4 < (vs.setIfInBounds 3 (Value.ref x1)).size := by rw [set_size]; exact hi
  have s2 : 2 < ((vs.setIfInBounds 3 (Value.ref x1)).setIfInBounds 4 (Value.bool true)).size := by rw [set_size, set_size]; omega
  have h14 : ((vs.setIfInBounds 3 (Value.ref x1)).setIfInBounds 4 (Value.bool true))[1]? = some Value.none := set_other (by decide) (set_other (by decide) h1)
  have hcls4 : ((oe.mapFields (·.setIfInBounds 3 (.ref x1))).mapFields (·.setIfInBounds 4 (.bool true))).cls = cls := by rw [Obj.cls_mapFields, Obj.cls_mapFields]; exact hcls
  have LT4 : PySem.W.Looks (model prog w) (setFrom s₁.heap a (.ref x1)) (typeOf (.ref a)) cls := fun A Q E s k q => wpAny_typeOf_ref (k _ _ ha4) (by rw [hcls4]; exact q)
  have hnt4 : ∀ {Q' : Bool → Shared → Prop}, Q' false { s₁ with heap := setFrom s₁.heap a (.ref x1) } → wpAny (model prog w) A (isType (.ref a)) Q' E { s₁ with heap := setFrom s₁.heap a (.ref x1) } := by
    intro Q' hq
    simp only [isType, loadHead]
    refine wpAny_bind (wpAny_loadPart ha4 ?_)
    rw [hd4]; exact wpAny_pure hq
  have C4 : Chn (setFrom s₁.heap a (.ref x1)) (fun x => x ≠ a) (.ref x1) := C.both fun b o vs e _ n => ⟨by rw [setFrom_other (Ne.symm n)]; exact e, n⟩
  -- what stands behind the two stores
  have rest : wpAny (model prog w) A (do
      let b ← isType (.ref a)
      if b = true then do
        let e ← holding [.ref a] (raisedFor (.ref a) (.ref a))
        setFlight e none
        raiseNew e
      else do
        let e ← raisedInstance (.ref a)
        setFlight e none
        raiseNew e : Sem Flow) Q E { s₁ with heap := setFrom s₁.heap a (.ref x1) } := by
    refine wpAny_bind (hnt4 ?_)
    simp only [Bool.false_eq_true, if_false]
    unfold raisedInstance
    refine wpAny_bind (wpAny_bind (LT4.here (wpAny_bind (L3.here ?_))))
    rw [if_pos (beq_self_eq_true _)]
    refine wpAny_pure ?_
    unfold setFlight
    refine wpAny_bind (wpAny_bind (wpAny_field ha4 hd4 h14 ?_))
    rw [if_neg (by decide)]
    refine wpAny_pure ?_
    exact raiseNewL ⟨hh, C4.imp fun _ _ _ _ => trivial⟩ C4 ha4 hd4 s2 hE
  refine wpAny_bind (wpAny_holding (hcs _ (wpAny_bind (wpAny_pure ?_))))
  dsimp only
  refine wpAny_bind (wpAny_holding ?_)
  unfold excFromValue isExcClass
  refine wpAny_bind (wpAny_bind (hnt ?_))
  simp only [Bool.false_eq_true, if_false]
  refine wpAny_pure ?_
  simp only [Bool.false_eq_true, if_false]
  refine wpAny_bind (LI.here ?_)
  simp only [if_true]
  refine wpAny_pure ?_
  rw [if_neg (show ¬ ((Value.ref x1 == Value.none) = true) from by simp)]
  refine wpAny_bind (wpAny_holding (wpAny_bind (wpAny_bind (hntx ?_))))
  simp only [Bool.false_eq_true, if_false]
  refine wpAny_pure ?_
  simp only [Bool.false_eq_true, if_false]
  refine wpAny_bind (LX.here ?_)
  simp only [if_true]
  refine wpAny_pure ?_
  first
  | refine wpAny_bind (wpAny_setField ha hd s3 (wpAny_bind (wpAny_setField ha3 hd3 s4 ?_)))
  | refine wpAny_bind (wpAny_pure (wpAny_bind (wpAny_setField ha hd s3 (wpAny_bind (wpAny_setField ha3 hd3 s4 ?_)))))
  first
  | exact rest
  | (dsimp only; exact rest)
  | (refine wpAny_pure ?_; exact rest)
/-- an expression that makes an exception of six fields, whatever is handled -/
def PMkF (X : Cx) (e : Expr) (t : L2.St → Hp → XK → Prop) : Prop := L2H.PMk5 X e t
theorem pmk_own5 {X : Cx} {C : Addr} {bmB : List Value} {B newId initId : String} {x : Str} {p pos : Pos} (F : ExcBaseFacts B newId initId bmB) (q : PySem.W.excIn X.K C bmB newId = true) (gC : X.mg x = some (.ref C))
    (kC : PySem.W.keepIn X.K (.ref C) = true) (r : Raises X (.ref C)) (hg : Gl X x) (hdb : (x == ("__debug__" : Str)) = false := by decide) : L2H.PMk5 X (.Call (.Name x p) [] [] pos) (fun _ H Q => Q (.ref C) none H) := by
  intro pins s σ H Q I h
  refine wpAny_Call_Name_kw (ld_glob I hg gC ?_ hdb)
  refine PySem.W.callWith_K0 I.kIn kC ?_
  show wpAny _ _ (call (.ref C) []) _ _ _
  obtain ⟨bm, N, nm, qn, bs, hdct, sn, sub, ab, col, dd, k0, k1, k2, k3, k5, mN, hC, hN, hni, T⟩ := exc_obj I.kIn q
  refine wpAny_call_exc_subT F T hC hN hni (fun h' e hm => ?_) (by show 0 ≤ sizeLine; exact Nat.zero_le _)
  exact L2H.mk_of5 I hm r h (I.hok.gone hm.new)
section
variable {X : Cx} {W : WX} {e : Expr} {t : L2.St → Hp → XK → Prop} {pos : Pos}
theorem ps_rsf {n : Str} {i : Nat} {cp : Pos} {a0 : Addr} {oe0 : Obj} {cls0 : Value} {d0 : Option Addr} (hot : HotD X) (hpn : (a0, oe0) ∈ X.pn) (hhd : X.A.handled = some (.ref a0)) (hz0 : Zc cls0 d0 oe0) (hd0 : ∃ vs, oe0.data = .fields vs)
    (tk : TakesC X W) (he : L2H.PMk5 X e t) (hN : X.N[i]? = some n) (hln : X.env.kindOf n = some .local) (hdb : (n == ("__debug__" : Str)) = false := by decide) :
    PS X (.Raise (some e) (some (.Name n cp)) pos) (fun _ σ H => σ[i]? = some (some (.ref a0)) ∧ PySem.W.exmOne X.K cls0 (.type "BaseException") = some true ∧ t σ H fun cls d H' => W cls d σ H') := by
  refine ⟨fun pins s σ H D I ⟨hσ, hbe, h⟩ => ?_⟩
  show wpAny _ _ (do standAt pos; raiseStmt X.env (some (do let v ← eval e X.env; standAt pos; pure v)) (some (do let v ← eval (.Name n cp) X.env; standAt pos; pure v))) _ _ _
  refine wpAny_bind (wpAny_standAt (raise_made_from (x1 := a0) (wpAny_bind (wpAny_mono (he pins s σ H _ I h) (fun u s1 hu => wpAny_bind (wpAny_standAt (wpAny_pure ?_))) fun _ _ x => x))))
  obtain ⟨⟨a, oe, vs, sI, H', cls, d, rfl, J, k, hne, ha, hz, hd, h1, na, os, ag, r, q⟩, h5⟩ := hu
  have hi : 4 < vs.size := h5 a oe vs rfl ha hd
  obtain ⟨x1, hh, C⟩ := hot.at J
  have ex : x1 = a0 := by
    have z := hh.symm.trans hhd
    cases z
    rfl
  subst ex
  have k4 : ∀ b u, sI.heap.get? b = some u → (setFrom s1.heap a (.ref x1)).get? b = some u := fun b u z => by
    have nab : a ≠ b := fun y => by
      rw [← y, hne] at z
      cases z
    rw [setFrom_other nab]
    exact k b u z
  obtain ⟨r1, _⟩ := r (model X.prog X.w) s1.heap (J.kIn.keeps k)
  obtain ⟨_, r2⟩ := r (model X.prog X.w) (setFrom s1.heap a (.ref x1)) (J.kIn.keeps k4)
  have P1 : sI.heap.get? x1 = some oe0 := (J.pin (x1, oe0) (List.mem_append_left _ hpn)).1
  have nap : x1 ≠ a := fun z => by
    rw [z, hne] at P1
    cases P1
  obtain ⟨v0, e0⟩ := hd0
  obtain ⟨ha4, hd4⟩ := setFrom_at (v := .ref x1) ha hd
  have h12 : (((vs.setIfInBounds 3 (Value.ref x1)).setIfInBounds 4 (Value.bool true)).setIfInBounds 2 (Value.ref x1))[1]? = some Value.none := set_other (by decide) (set_other (by decide) (set_other (by decide) h1))
  have h22 : (((vs.setIfInBounds 3 (Value.ref x1)).setIfInBounds 4 (Value.bool true)).setIfInBounds 2 (Value.ref x1))[2]? = some (Value.ref x1) := by
    rw [Array.getElem?_setIfInBounds_self_of_lt]
    rw [set_size, set_size]; omega
  have LT : PySem.W.Looks (model X.prog X.w) s1.heap (typeOf (.ref x1)) cls0 := fun A Q E s k0 q => wpAny_typeOf_ref (k0 _ _ (k _ _ P1)) (by rw [hz0.1]; exact q)
  have LX : PySem.W.Looks (model X.prog X.w) s1.heap (isInstance (.ref x1) (.type "BaseException")) true := LT.andThen (PySem.W.exm_cls (J.kIn.keeps k) hbe).2
  refine ⟨a, oe, vs, cls, oe0, v0, rfl, ha, hz.1, hd, h1, hi, nap, hhd, chn_new C k hne, k _ _ P1, e0, fun Q' q' => ?_, LX, r1, r2, tk _ _ (XEc.new J (fun b u z => ?_) hne (Heap.get?_update_self _ ha4 (Obj.isFreed_of_fields (Obj.data_mapFields hd4 _)))
    ⟨by rw [Obj.cls_mapFields, Obj.cls_mapFields, Obj.cls_mapFields]; exact hz.1, by rw [HandSPX.dict_mapFields, HandSPX.dict_mapFields, HandSPX.dict_mapFields]; exact hz.2.1⟩ (Obj.data_mapFields hd4 _) h12 h22 C na os ag q)⟩
  · obtain ⟨m, hn, hl⟩ := J.loc
    obtain ⟨u, ru, l⟩ := hl i n _ hN hσ (.inl hln)
    obtain rfl : u = Value.ref x1 := ru
    rcases l with ⟨hk, hm⟩ | ⟨hk, c, hc, hcell⟩
    · exact wpAny_bind (wpAny_Name (wpAny_loadName_local J.ok.kind hk (hn.keeps k) hm (wpAny_bind (wpAny_standAt (wpAny_pure q')))) hdb)
    · rw [hln] at hk
      rcases hk with hk | hk <;> cases hk
  · have nab : a ≠ b := fun y => by
      rw [← y, hne] at z
      cases z
    show ((setFrom s1.heap a (.ref x1)).update a (Obj.mapFields (·.setIfInBounds 2 (.ref x1)))).get? b = some u
    rw [Heap.get?_update_other _ _ nab]
    exact k4 b u z
end
/-! ### the suite's exception leaves the try: the name goes, on it flies -/
abbrev suiteE (X : Cx) (a : Addr) (pn : List (Addr × Obj)) (xe : Value → Shared → Prop) : Cx := { X with A := X.A.mark (some (.ref a)), calm := false, pn := pn, xe := xe }
section
variable {X : Cx} {Wout : WX}
theorem suite_exc {pins pl : List (Addr × Obj)} {a0 : Addr} {q0 : Addr × Obj} {xe : Value → Shared → Prop} {i : Nat} {n : Str} {pos' : Pos} {u : Value} {s' : Shared} {E2 E3 : Value → Shared → Prop} (hs : X.stack = X.env :: X.outer) (hf : X.env.frame = some X.env.locals) (hN : X.N.Nodup)
    (hi : X.N[i]? = some n) (hln : X.env.kindOf n = some .local) (hex : X.ex = []) (ok : X.Ok) (tk : TakesC X Wout)
    (xx : XEc (suiteE X a0 (q0 :: (X.pn ++ (pins ++ pl))) xe) (fun cls d σ H => Wout cls d (σ.set i none) H) u s') :
    wpAny (model X.prog X.w) (X.A.mark (some (.ref a0))) (noteFrame u X.env) (fun _ s₃ => wpAny (model X.prog X.w) (X.A.mark (some (.ref a0))) (do bindName X.env n .none; unbindBehindTheSuite X.env n pos')
      (fun _ s₄ => wpAny (model X.prog X.w) (X.A.mark (some (.ref a0))) (PySem.passOn "try.except-as" u X.env : Sem Flow) (fun _ _ => False) (notedBy (model X.prog X.w) (X.A.mark (some (.ref a0))) X.env (cameBackBy (model X.prog X.w) X.A X.env X.xe)) s₄) E2 s₃) E3 s' := by
  have hfr : (X.A.mark (some (.ref a0))).frames = some (X.env :: X.outer) := by
    show X.A.frames = _
    rw [ok.frames, hs]
  obtain ⟨a, B, sI, pins', σ', H', cls, d, rfl, J', nb, up, sky, na, os, ag, hw⟩ := xx
  have J : Inv X (pins ++ pl) σ' H' sI := ⟨ok, J'.os, J'.bare, J'.base, J'.loc, J'.cell, J'.free, J'.freeC, fun p hp => J'.pin p (List.mem_append_left _ (List.mem_cons_of_mem _ hp)), J'.hok, J'.len⟩
  have sky' : Sky B (X.env :: X.outer) a (Zb B H' cls d) X.env.locals s'.heap := by rw [← hs]; exact sky
  -- behind the first note
  have fin : ∀ h1, HandSPX.HeldZ B (X.env :: X.outer) a (Zb B H' cls d) X.env.locals h1 → s'.heap.UpToSlots h1 → wpAny (model X.prog X.w) (X.A.mark (some (.ref a0))) (do bindName X.env n .none; unbindBehindTheSuite X.env n pos')
      (fun _ s₄ => wpAny (model X.prog X.w) (X.A.mark (some (.ref a0))) (PySem.passOn "try.except-as" (.ref a) X.env : Sem Flow) (fun _ _ => False) (notedBy (model X.prog X.w) (X.A.mark (some (.ref a0))) X.env (cameBackBy (model X.prog X.w) X.A X.env X.xe)) s₄) E2 { s' with heap := h1 } := fun h1 hh1 up1 => by
    have J3 : Inv X (pins ++ pl) σ' H' { s' with heap := h1 } := J.landed nb hh1.1 (up.trans up1) os ag
    obtain ⟨k1, k2, k3, oe, vs, T, oT, ts, he3, hz, hd, hv1, hnT, hTe, hT, hdT, ht3⟩ := id hh1
    have nT : H' T = none := (J.inGround nb).gone hnT
    have notFr : ∀ (b : Addr) (o : Obj) (fv : Array Value), h1.get? b = some o → o.data = .fields fv → b ∉ frs (X.env :: X.outer) := fun b o fv e dd hm => by
      obtain ⟨_, o', e', hnf⟩ := k3.mem hm
      have eo : o = o' := Option.some.inj (e.symm.trans e')
      rw [← eo] at hnf
      exact hnf _ dd
    have locF : X.env.locals ∈ frs (X.env :: X.outer) := List.mem_filterMap.mpr ⟨X.env, List.mem_cons_self, hf⟩
    have fsF : ∀ b, b ∈ X.fs → b ∈ frs (X.env :: X.outer) := fun b hm => by
      obtain ⟨e, he, q⟩ := List.mem_filterMap.mp hm
      exact List.mem_filterMap.mpr ⟨e, List.mem_cons_of_mem _ he, q⟩
    have fa := notFr a oe vs he3 hd
    have fT := notFr T oT ts hT hdT
    obtain ⟨cx, hcx, Cx0⟩ := hz.2.2 vs hd
    obtain ⟨pl2, hpl, Cpl⟩ := Cx0.pins
    have S3 : Inv X ((a, oe) :: (T, oT) :: (pl2 ++ (pins ++ pl))) σ' H' { s' with heap := h1 } := J3.pins_of fun p hp => by
        rcases List.mem_cons.mp hp with z | hp
        · rw [z]
          exact ⟨he3, na, fun z2 => fa (by rw [show a = X.env.locals from z2]; exact locF), fun z2 => fa (fsF _ z2), fun v z2 => by
            have z3 : oe.data = .cell v := z2
            rw [hd] at z3
            cases z3⟩
        · rcases List.mem_cons.mp hp with z | hp
          · rw [z]
            exact ⟨hT, nT, fun z2 => fT (by rw [show T = X.env.locals from z2]; exact locF), fun z2 => fT (fsF _ z2), fun v z2 => by
              have z3 : oT.data = .cell v := z2
              rw [hdT] at z3
              cases z3⟩
          · rcases List.mem_append.mp hp with hp | hp
            · obtain ⟨g1, g2, vq, g3⟩ := hpl p hp
              have fp := notFr p.1 p.2 vq (k1 _ _ g1) g3
              exact ⟨k1 _ _ g1, g2, fun z2 => fp (by rw [show p.1 = X.env.locals from z2]; exact locF), fun z2 => fp (fsF _ z2), fun v z2 => by
                have z3 : p.2.data = .cell v := z2
                rw [g3] at z3
                cases z3⟩
            · exact J3.pin p (List.mem_append_right _ hp)
    -- the flight of the traceback stays this frame's
    refine gone_ok S3 hN hi hln fun s6 S6 => ?_
    have J6 : Inv X (pins ++ pl) (σ'.set i none) H' s6 := ⟨ok, S6.os, S6.bare, S6.base, S6.loc, S6.cell, S6.free, S6.freeC, fun p hp => S6.pin p ((List.mem_append.mp hp).elim (fun z => List.mem_append_left _ z) fun z => List.mem_append_right _ (List.mem_cons_of_mem _ (List.mem_cons_of_mem _ (List.mem_append_right _ z)))), S6.hok, S6.len⟩
    have pa := S6.pin (a, oe) (List.mem_append_right _ List.mem_cons_self)
    have pT := S6.pin (T, oT) (List.mem_append_right _ (List.mem_cons_of_mem _ List.mem_cons_self))
    have ga : s6.heap.get? a = some oe := pa.1
    have gT : s6.heap.get? T = some oT := pT.1
    have na6 : H' a = none := pa.2.1
    have nT6 : H' T = none := pT.2.1
    have far : ∀ b o, sI.heap.get? b = some o → b ≠ a ∧ b ≠ T := fun b o e => by
      by_cases hb : b ∈ frs X.stack
      · rw [hs] at hb
        exact ⟨fun z => fa (by rw [← z]; exact hb), fun z => fT (by rw [← z]; exact hb)⟩
      · have q := nb b o e hb
        exact ⟨fun z => by
          rw [z, k2] at q
          exact (nomatch q), fun z => by
          rw [z, hnT] at q
          cases q⟩
    have far0 : ∀ b o, X.s_0.heap.get? b = some o → b ≠ a ∧ b ≠ T := fun b o e => by
      obtain ⟨o', q⟩ := J.base.there b o e (by rw [hex]; simp)
      exact far b o' q
    have farP : ∀ p ∈ X.pn ++ (pins ++ pl), p.1 ≠ a ∧ p.1 ≠ T := fun p hp => far p.1 p.2 (J.pin p hp).1
    obtain ⟨G, g1, g2⟩ := restrict s6.heap fun b => !(decide (b = a) || decide (b = T))
    have gIn : ∀ b o, G.get? b = some o → s6.heap.get? b = some o ∧ b ≠ a ∧ b ≠ T := fun b o e => by
      cases q : (!(decide (b = a) || decide (b = T))) with
      | false =>
        rw [g2 b q] at e
        cases e
      | true =>
        rw [g1 b q] at e
        simp only [Bool.not_eq_true', Bool.or_eq_false_iff, decide_eq_false_iff_not] at q
        exact ⟨e, q.1, q.2⟩
    have gOf : ∀ b o, b ≠ a → b ≠ T → s6.heap.get? b = some o → G.get? b = some o := fun b o h1 h2 e => by
      rw [g1 b (by simp [h1, h2])]
      exact e
    have I6 : Inv X (pins ++ pl) (σ'.set i none) H' { s6 with heap := G } := J6.less (fun b o e => (gIn b o e).1) gOf ⟨oe, vs, ga, hd⟩ ⟨oT, ts, gT, hdT⟩ na6 nT6 far0 farP
    have B6in : ∀ b o, (PySem.W.hideAll G (frs X.stack)).get? b = some o → s6.heap.get? b = some o := fun b o e => (gIn b o (PySem.W.of_hideAll _ e)).1
    have Bno : ∀ b, (b = a ∨ b = T) → (PySem.W.hideAll G (frs X.stack)).get? b = none := fun b hb => by
      cases q : (PySem.W.hideAll G (frs X.stack)).get? b with
      | none => rfl
      | some o =>
        obtain ⟨_, n1, n2⟩ := gIn b o (PySem.W.of_hideAll _ q)
        rcases hb with z | z
        · exact absurd z n1
        · exact absurd z n2
    have z6 : Zb (PySem.W.hideAll G (frs X.stack)) H' cls d oe := ⟨hz.1, hz.2.1, fun vs' e => by
      rw [hd] at e
      cases e
      refine ⟨cx, hcx, chp_chn Cpl fun q hq => ?_⟩
      have pq := S6.pin q (List.mem_append_right _ (List.mem_cons_of_mem _ (List.mem_cons_of_mem _ (List.mem_append_left _ hq))))
      obtain ⟨g1, g2, vq, g3⟩ := hpl q hq
      have n1 : q.1 ≠ a := fun z => by
        rw [z, k2] at g1
        cases g1
      have n2 : q.1 ≠ T := fun z => by
        rw [z, hnT] at g1
        cases g1
      have fp := notFr q.1 q.2 vq (k1 _ _ g1) g3
      exact ⟨PySem.W.hideAll_get _ (gOf _ _ n1 n2 pq.1) (by rw [hs]; exact fp), pq.2.1⟩⟩
    have hl6 : HandSPX.HeldZ (PySem.W.hideAll G (frs X.stack)) (X.env :: X.outer) a (Zb (PySem.W.hideAll G (frs X.stack)) H' cls d) X.env.locals s6.heap := by
      refine ⟨B6in, Bno a (.inl rfl), ?_, oe, vs, T, oT, ts, ga, z6, hd, hv1, Bno T (.inr rfl), hTe, gT, hdT, ht3⟩
      have ff := funFrames_none (B := PySem.W.hideAll G (frs X.stack)) J6.stack fun b hb => PySem.W.hideAll_none _ hb
      rw [← hs]
      exact ff
    have last : ∀ h7, HandSPX.HeldZ (PySem.W.hideAll G (frs X.stack)) (X.env :: X.outer) a (Zb (PySem.W.hideAll G (frs X.stack)) H' cls d) X.env.locals h7 → s6.heap.UpToSlots h7 → X.xe (.ref a) { s6 with heap := h7 } := fun h7 hh7 up7 =>
      tk _ _ ⟨a, PySem.W.hideAll G (frs X.stack), { s6 with heap := G }, pins ++ pl, σ'.set i none, H', cls, d, rfl, I6, fun b o e hb => PySem.W.hideAll_get _ e hb, Heap.UpToSlots.trans (Heap.UpToSlots.of_keeps fun b o e => (gIn b o e).1) up7, .inr (.inr (by rw [← hs] at hh7; exact hh7)), na6, rfl, J6.bare, hw⟩
    have fieldOf : ∀ {h7 : Heap} {M : Model} {A : Around} {E : Value → Shared → Prop} {Q : Value → Shared → Prop}, HandSPX.HeldZ (PySem.W.hideAll G (frs X.stack)) (X.env :: X.outer) a (Zb (PySem.W.hideAll G (frs X.stack)) H' cls d) X.env.locals h7 → (∀ T', Q (.ref T') { s6 with heap := h7 }) → wpAny M A (field (.ref a) 1) Q E { s6 with heap := h7 } := fun {h7 M A E Q} hh q => by
      obtain ⟨_, _, _, oe', vs', T', _, _, he', _, hd', hv', _⟩ := hh
      exact wpAny_field he' hd' hv' (q T')
    show wpAny (model X.prog X.w) (X.A.mark (some (.ref a0))) (PySem.passOn "try.except-as" (.ref a) X.env : Sem Flow) (fun _ _ => False) _ s6
    unfold PySem.passOn
    refine wpAny_bind (wpAny_field ga hd hv1 ?_)
    rw [if_neg (show ¬ ((Value.ref T == Value.none) = true) from by simp)]
    have goOn : wpAny (model X.prog X.w) (X.A.mark (some (.ref a0))) (setFlight (.ref a) X.env.frame) (fun _ s7 => wpAny (model X.prog X.w) (X.A.mark (some (.ref a0))) (throw (.ref a) : Sem Flow) (fun _ _ => False) (notedBy (model X.prog X.w) (X.A.mark (some (.ref a0))) X.env (cameBackBy (model X.prog X.w) X.A X.env X.xe)) s7) (notedBy (model X.prog X.w) (X.A.mark (some (.ref a0))) X.env (cameBackBy (model X.prog X.w) X.A X.env X.xe)) s6 := by
      rw [hf]
      refine HandSPX.setFlight_onZ hl6 fun h7 hh7 up7 => wpAny_throw ?_
      show wpAny _ _ (noteFrame (.ref a) X.env) _ _ _
      refine HandSPX.againZ hf hh7.2.2.2 ?_
      show wpAny _ _ _ _ _ _
      refine wpAny_bind (fieldOf hh7 fun T' => ?_)
      rw [if_neg (show ¬ ((Value.ref T' == Value.none) = true) from by simp)]
      have goS : wpAny (model X.prog X.w) X.A (setFlight (.ref a) X.env.frame) (fun _ s8 => X.xe (.ref a) s8) X.xe { s6 with heap := h7 } := by
        rw [hf]
        exact HandSPX.setFlight_onZ hh7 fun h8 hh8 up8 => last h8 hh8 (up7.trans up8)
      first
        | exact wpAny_bind (wpAny_pure goS)
        | exact goS
    first
      | exact wpAny_bind (wpAny_pure (wpAny_bind goOn))
      | exact wpAny_bind goOn
  show wpAny (model X.prog X.w) (X.A.mark (some (.ref a0))) (noteFrame (.ref a) X.env) _ _ _
  rcases sky' with ⟨hB, hn, hl, oe, vs, he0, hz, hd, hv1⟩ | fl | hh
  · exact PXN.look_newZ Zb.steady hfr hl hf he0 hB hn hd hv1 hz fin
  · exact PXN.looks_onZ Zb.steady hfr hf fl fin
  · exact HandSPX.againZ hf hh.2.2.2 (fin s'.heap hh (Heap.UpToSlots.refl _))
end
inductive HdsR (X : Cx) (Wout : WX) : List ExceptHandler → List (List Value × Nat × (Addr → Value → Option Addr → TS)) → Prop
  | nil : HdsR X Wout [] []
  | cons {te : Expr} {cs : List Value} {n : Str} {i : Nat} {ts : Addr → Value → Option Addr → TS} {b₀ : Stmt} {suite : List Stmt} {pos' : Pos} {hds : List ExceptHandler} {l : List (List Value × Nat × (Addr → Value → Option Addr → TS))} (hc : ClsE X te cs)
      (hi : X.N[i]? = some n) (hln : X.env.kindOf n = some .local)
      (hsu : ∀ (a : Addr) (oe : Obj) (cls : Value) (d : Option Addr) (pn : List (Addr × Obj)) (xe : Value → Shared → Prop), Zc cls d oe → (∃ vs, oe.data = .fields vs) → HotD (suiteE X a ((a, oe) :: pn) xe) →
        TakesC (suiteE X a ((a, oe) :: pn) xe) (fun cls d σ H => Wout cls d (σ.set i none) H) → PSs (suiteE X a ((a, oe) :: pn) xe) (b₀ :: suite) (ts a cls d)) (r : HdsR X Wout hds l) :
      HdsR X Wout (.ExceptHandler (some te) (some n) (b₀ :: suite) pos' :: hds) ((cs, i, ts) :: l)
section
variable {X : Cx} {body : List Stmt} {h₀ : ExceptHandler} {hds : List ExceptHandler} {l : List (List Value × Nat × (Addr → Value → Option Addr → TS))} {pos : Pos} {tb : WX → TS} {Wout : WX}
theorem ps_try_mar (hex : X.ex = []) (hs : X.stack = X.env :: X.outer) (hf : X.env.frame = some X.env.locals) (hN : X.N.Nodup) (tk : TakesC X Wout) (hsz : ∀ x ∈ l, x.1.length ≤ 1000)
    (hb : ∀ (W : WX) (pn : List (Addr × Obj)) (xe : Value → Shared → Prop), TakesC (X.tr pn xe) W → PassesOwn (model X.prog X.w) X.A X.env xe → PSs (X.tr pn xe) body (tb W))
    (hh : HdsR X Wout (h₀ :: hds) l) : PS X (.Try body (h₀ :: hds) [] [] pos) (fun D σ H => tb (wMas X.K Wout D l) D σ H) := by
  refine ⟨fun pins s σ H D I h => ?_⟩
  have ok := I.ok
  have hfr : X.A.frames = some (X.env :: X.outer) := by rw [ok.frames, hs]
  refine wpAny_Try_except ?_
  refine wpAny_mono ((hb (wMas X.K Wout D l) (X.pn ++ pins) (fun e s₁ => wpAny (model X.prog X.w) X.A (noteFrame e X.env) (fun _ s₂ => wpAny (model X.prog X.w) X.A (setFlight e none) (fun _ s₃ =>
    wpAny (model X.prog X.w) X.A (handleBy e X.env (h₀ :: hds)) (SP X pins D) X.xe s₃) X.xe s₂) X.xe s₁) (fun u s' xx => ?_) PassesOwn.looking).run [] s σ H D (I.toTry _) h) (fun f s1 hsp => ?_) (fun e s1 he => he)
  · -- the catch
    obtain ⟨a, B, sI, pins', σ', H', cls, d, rfl, J', nb, up, sky, na, os, ag, w⟩ := xx
    have J : Inv X pins σ' H' sI := J'.ofTry ok
    have sky' : Sky B (X.env :: X.outer) a (Zb B H' cls d) X.env.locals s'.heap := by rw [← hs]; exact sky
    show wpAny (model X.prog X.w) X.A (noteFrame (.ref a) X.env) _ _ _
    refine L2N.Sky.land Zb.steady hfr hf sky' fun h3 fl3 up3 => ?_
    have notFr : ∀ {h : Heap} {o : Obj} {vs : Array Value}, h.FunFrames B (X.env :: X.outer) → h.get? a = some o → o.data = .fields vs → a ∉ frs (X.env :: X.outer) := fun {h o vs} ff e dd hm => by
      obtain ⟨_, o', e', hnf⟩ := ff.mem hm
      rw [e] at e'; cases e'
      exact hnf _ dd
    have nfr : a ∉ frs (X.env :: X.outer) := by
      obtain ⟨oe3, vs3, he3, hz3, hd3⟩ := fl3.there
      exact notFr fl3.2.2.1 he3 hd3
    have nL : a ≠ X.env.locals := fun z => nfr (List.mem_filterMap.mpr ⟨X.env, List.mem_cons_self, by rw [hf, z]⟩)
    have nF : a ∉ X.fs := fun hm => by
      obtain ⟨e, he, q⟩ := List.mem_filterMap.mp hm
      exact nfr (List.mem_filterMap.mpr ⟨e, List.mem_cons_of_mem _ he, q⟩)
    have go : ∀ {hds' : List ExceptHandler} {l' : List (List Value × Nat × (Addr → Value → Option Addr → TS))}, HdsR X Wout hds' l' → (∀ x ∈ l', x.1.length ≤ 1000) → wMas X.K Wout D l' cls d σ' H' → ∀ h3, HandSPX.FlyingZ B (X.env :: X.outer) a (Zb B H' cls d) h3 → sI.heap.UpToSlots h3 →
        wpAny (model X.prog X.w) X.A (handleBy (.ref a) X.env hds') (SP X pins D) X.xe { s' with heap := h3 } := by
      intro hds' l' hk
      induction hk with
      | nil =>
        intro _ w h3 fl3 up3
        refine wpAny_handleBy_nil ?_
        obtain ⟨k1, k2, k3, oe, vs, T, oT, ts', he, hz, hd, h1, hr⟩ := id fl3
        unfold PySem.passOn
        refine wpAny_bind (wpAny_field he hd h1 ?_)
        rw [if_neg (show ¬ ((Value.ref T == Value.none) = true) from by simp)]
        have fin : wpAny (model X.prog X.w) X.A (setFlight (.ref a) X.env.frame) (fun _ s4 => wpAny (model X.prog X.w) X.A (throw (.ref a) : Sem Flow) (SP X pins D) X.xe s4) X.xe { s' with heap := h3 } := by
          rw [hf]
          refine HandSPX.setFlight_upZ fl3 fun h4 hh4 up4 => wpAny_throw (tk _ _ ?_)
          exact ⟨a, B, sI, pins, σ', H', cls, d, rfl, J, nb, up3.trans up4, .inr (.inr (by rw [hs]; exact hh4)), na, os, ag, w⟩
        first
          | exact wpAny_bind (wpAny_pure (wpAny_bind fin))
          | exact wpAny_bind fin
      | @cons te cs n i ts b₀ suite pos' hds2 l2 hc hi hln hsu r ih =>
        intro hz0 w h3 fl3 up3
        obtain ⟨b, hb1, hyes, hno⟩ := w
        have J3 : Inv X pins σ' H' { s' with heap := h3 } := J.landed nb fl3.1 up3 os ag
        obtain ⟨oe3, vs3, he3, hz3, hd3⟩ := fl3.there
        have S3 := J3.suite he3 hd3 na nL nF
        refine wpAny_handleBy_cons (codeAny_handlers_test ?_) (by intro q; cases q)
        -- the classes, then the match, in a heap that is kept
        have test : ∀ {R : Bool → Shared → Prop} {E : Value → Shared → Prop}, (∀ h4, (∀ b o, h3.get? b = some o → h4.get? b = some o) → R b { s' with heap := h4 }) →
            wpAny (model X.prog X.w) (X.A.mark (some (.ref a))) (eval te X.env) (fun c s₁ => wpAny (model X.prog X.w) (X.A.mark (some (.ref a))) (excMatches (.ref a) c) R E s₁) E { s' with heap := h3 } := fun {R E} q => by
          cases hc with
          | one hn =>
            rename_i x c np
            have LT : PySem.W.Looks (model X.prog X.w) h3 (typeOf (.ref a)) cls := fun A Q E s k q => wpAny_typeOf_ref (k _ _ he3) (by rw [hz3.1]; exact q)
            obtain ⟨b1, d1, h1, h2, eb⟩ := PySem.W.exmAny_cons hb1
            have w2 : some false = some d1 := h2
            cases w2
            rw [Bool.or_false] at eb
            subst eb
            have LM := PySem.W.exm_one (M := model X.prog X.w) (J3.kIn) LT h1
            obtain ⟨hg, hdbg, hm | ⟨hm, hv, hnn⟩⟩ := hn
            · exact ld_glob (X := X.suite a ((a, oe3) :: (X.pn ++ pins))) S3 hg hm (LM.here (q h3 fun _ _ z => z)) hdbg
            · exact ld_blt (X := X.suite a ((a, oe3) :: (X.pn ++ pins))) S3 hg hm hv (LM.here (q h3 fun _ _ z => z)) hnn hdbg
          | tup hn =>
            rename_i es kk np
            refine wpAny_Tuple_spliced (eval_names (Y := X.suite a ((a, oe3) :: (X.pn ++ pins))) S3 _ hn.suite ⟨?_, ?_⟩)
            · exact Nat.le_trans (hz0 _ List.mem_cons_self) (by decide)
            · have kp : ∀ b o, h3.get? b = some o → (h3.push { cls := .type "tuple", data := .seq cs.toArray }).get? b = some o := fun b o e => Heap.get?_push_of_some _ e
              have LT : PySem.W.Looks (model X.prog X.w) (h3.push { cls := .type "tuple", data := .seq cs.toArray }) (typeOf (.ref a)) cls := fun A Q E s k q => wpAny_typeOf_ref (k _ _ (kp _ _ he3)) (by rw [hz3.1]; exact q)
              have LM := PySem.W.exm_tupN (M := model X.prog X.w) (J3.kIn.keeps kp) LT (Heap.get?_push_size _ rfl) hb1
              exact LM.here (q _ kp)
        refine test fun h4 kp => ?_
        have fl4 := flying_kept fl3 kp
        have up4 : sI.heap.UpToSlots h4 := up3.trans (.of_keeps kp)
        cases b with
        | true =>
          refine codeAny_handlers_suite_as ?_
          refine HandSPX.lands_againZ fl4 fun h5 fl5 up5 => ?_
          have J5 : Inv X pins σ' H' { s' with heap := h5 } := J.landed nb fl5.1 (up4.trans up5) os ag
          obtain ⟨oe5, vs5, he5, hz5, hd5⟩ := fl5.there
          obtain ⟨c5, hc5, C5⟩ := hz5.2.2 vs5 hd5
          obtain ⟨pl, hpl, Cpl⟩ := (C5.keeps fl5.1).pins
          have J5' : Inv X (pins ++ pl) σ' H' { s' with heap := h5 } := J5.pins_of fun p hp => (List.mem_append.mp hp).elim (fun z => J5.pin p (List.mem_append_right _ z)) fun z => by
            obtain ⟨g1, g2, vq, g3⟩ := hpl p z
            have nfq : p.1 ∉ frs (X.env :: X.outer) := fun hm => by
              obtain ⟨_, o', e', hnf⟩ := fl5.2.2.1.mem hm
              rw [g1] at e'; cases e'
              exact hnf _ g3
            refine ⟨g1, g2, fun y => nfq (List.mem_filterMap.mpr ⟨X.env, List.mem_cons_self, by rw [hf, y]⟩), fun hm => ?_, fun v y => by rw [g3] at y; cases y⟩
            obtain ⟨e, he, q⟩ := List.mem_filterMap.mp hm
            exact nfq (List.mem_filterMap.mpr ⟨e, List.mem_cons_of_mem _ he, q⟩)
          have S5 := J5'.suite he5 hd5 na nL nF
          have tkS : ∀ {xeS : Value → Shared → Prop}, (∀ u s3, XEc (suiteE X a ((a, oe5) :: (X.pn ++ (pins ++ pl))) xeS) (fun cls d σ H => Wout cls d (σ.set i none) H) u s3 → xeS u s3) → TakesC (suiteE X a ((a, oe5) :: (X.pn ++ (pins ++ pl))) xeS) (fun cls d σ H => Wout cls d (σ.set i none) H) := fun h u s3 x => h u s3 x
          have hot : ∀ {xeS : Value → Shared → Prop}, HotD (suiteE X a ((a, oe5) :: (X.pn ++ (pins ++ pl))) xeS) := fun {xeS} => ⟨(a, oe5), List.mem_cons_self, rfl, .ref (q := (a, oe5)) List.mem_cons_self hd5 hc5 (Cpl.mono fun q hq => List.mem_cons_of_mem _ (List.mem_append_right _ (List.mem_append_right _ hq)))⟩
          refine store_ok (X := X.suite a ((a, oe5) :: (X.pn ++ (pins ++ pl)))) (v := .ref a) S5 hN hi (.inl hln) rfl (fun s6 S6 => ?_) (.inr hln)
          refine wpAny_mono ((hsu a oe5 cls d (X.pn ++ (pins ++ pl)) (fun x s₃ => wpAny (model X.prog X.w) (X.A.mark (some (.ref a))) (noteFrame x X.env) (fun _ s₃' => wpAny (model X.prog X.w) (X.A.mark (some (.ref a))) (do bindName X.env n .none; unbindBehindTheSuite X.env n pos')
            (fun _ s₄ => wpAny (model X.prog X.w) (X.A.mark (some (.ref a))) (PySem.passOn "try.except-as" x X.env : Sem Flow) (fun _ _ => False) (notedBy (model X.prog X.w) (X.A.mark (some (.ref a))) X.env (cameBackBy (model X.prog X.w) X.A X.env X.xe)) s₄)
            (fun y s₄ => wpAny (model X.prog X.w) (X.A.mark (some (.ref a))) (setFlight x none) (fun _ s₅ => (notedBy (model X.prog X.w) (X.A.mark (some (.ref a))) X.env (cameBackBy (model X.prog X.w) X.A X.env X.xe)) y s₅) (notedBy (model X.prog X.w) (X.A.mark (some (.ref a))) X.env (cameBackBy (model X.prog X.w) X.A X.env X.xe)) s₄) s₃') (notedBy (model X.prog X.w) (X.A.mark (some (.ref a))) X.env (cameBackBy (model X.prog X.w) X.A X.env X.xe)) s₃)
            hz5.zc ⟨_, hd5⟩ hot (tkS fun u s3 x => suite_exc hs hf hN hi hln hex ok tk x)).run [] s6 _ H' _ (S6.wish _) (hyes rfl a na)) (fun f s6 hsp => ?_) (fun x s6 z => z)
          have end_ : ∀ {xeS : Value → Shared → Prop} {σ6 : L2.St} {H6 : Hp} {Q : Shared → Prop}, Inv (suiteE X a ((a, oe5) :: (X.pn ++ (pins ++ pl))) xeS) [] σ6 H6 s6 → (∀ s7, Inv X pins (σ6.set i none) H6 s7 → Q s7) →
              wpAny (model X.prog X.w) X.A (do bindName X.env n .none; unbindBehindTheSuite X.env n pos') (fun _ s7 => Q s7) X.xe s6 := fun {xeS σ6 H6 Q} S6 hq => gone_ok (Inv.unpinned (Inv.unsuite (X := X) (a := a) (show Inv (X.suite a ((a, oe5) :: (X.pn ++ (pins ++ pl)))) [] σ6 H6 s6 from S6.wish fun _ _ => False) ok)) hN hi hln hq
          cases f with
          | next =>
            obtain ⟨σ6, H6, S6, q6⟩ := hsp
            exact end_ S6 fun s7 J7 => ⟨_, _, J7, q6⟩
          | brk =>
            obtain ⟨σ6, H6, S6, q6⟩ := hsp
            exact end_ S6 fun s7 J7 => ⟨_, _, J7, q6⟩
          | cont =>
            obtain ⟨σ6, H6, S6, q6⟩ := hsp
            exact end_ S6 fun s7 J7 => ⟨_, _, J7, q6⟩
          | ret u =>
            obtain ⟨v6, σ6, H6, S6, r6, q6⟩ := hsp
            exact end_ S6 fun s7 J7 => ⟨_, _, _, J7, r6, q6⟩
        | false =>
          show wpAny _ X.A (handleBy (.ref a) X.env hds2) _ _ _
          exact ih (fun x hx => hz0 x (List.mem_cons_of_mem _ hx)) (hno rfl) h4 fl4 up4
    exact go hh hsz w h3 fl3 (up.trans up3)
  · cases f with
    | next =>
      obtain ⟨σ', H', J', q⟩ := hsp
      exact wpAny_execs_nil ⟨σ', H', J'.ofTry ok, q⟩
    | brk =>
      obtain ⟨σ', H', J', q⟩ := hsp
      exact ⟨σ', H', J'.ofTry ok, q⟩
    | cont =>
      obtain ⟨σ', H', J', q⟩ := hsp
      exact ⟨σ', H', J'.ofTry ok, q⟩
    | ret u =>
      obtain ⟨v, σ', H', J', r, q⟩ := hsp
      exact ⟨v, σ', H', J'.ofTry ok, r, q⟩
end
end Bw

/-! own exceptions above ZeroDivisionError; a // b that may raise -/
namespace Bw
open PySem PySem.Spec PyProof.Rows L2 L2H HotX
def zdTail : List Value := [.type "ZeroDivisionError", .type "ArithmeticError", .type "Exception", .type "BaseException", .type "object"]
structure XpZ (K : PySem.W.Frag) (C : Addr) : Prop where
  q : PySem.W.excIn K C zdTail "ZeroDivisionError.__new__" = true
  kp : PySem.W.keepIn K (.ref C) = true
  h1 : PySem.W.subIn K (.ref C) (.type "BaseException") = some true
  h2 : PySem.W.typeIn K (.ref C) = some (.type "type")
section
variable {X : Cx}
theorem pmk_ownZ5 {C : Addr} {x : Str} {p pos : Pos} (h : XpZ X.K C) (gC : X.mg x = some (.ref C)) (hg : Gl X x) (hdb : (x == ("__debug__" : Str)) = false := by decide) : L2H.PMk5 X (.Call (.Name x p) [] [] pos) (fun _ H Q => Q (.ref C) none H) :=
  pmk_own5 PySem.F.excBase_ZeroDivisionError h.q gC h.kp (raises_own h.h1 h.h2) hg hdb
theorem pmk_ownV5 {C : Addr} {x : Str} {p pos : Pos} (h : XpV X.K C) (gC : X.mg x = some (.ref C)) (hg : Gl X x) (hdb : (x == ("__debug__" : Str)) = false := by decide) : L2H.PMk5 X (.Call (.Name x p) [] [] pos) (fun _ H Q => Q (.ref C) none H) :=
  pmk_own5 F.excBase_ValueError h.q gC h.kp (raises_own h.h1 h.h2) hg hdb
theorem takes_newC {W : WX} {pins : List (Addr × Obj)} {σ : L2.St} {H : Hp} {s : Shared} {cls : String} {h' : Heap} {e : Addr} {t' : Nat} (tk : TakesC X W) (I : Inv X pins σ H s) (x : Heap.NewExc s.heap h' e cls) (w : ∀ d, W (.type cls) d σ H) : X.xe (.ref e) { s with heap := h', toks := t' } := by
  obtain ⟨ob, tb, he, hc, hd⟩ := x.there
  exact tk _ _ (XEc.new (s' := { s with heap := h', toks := t' }) I x.keeps x.new he ⟨hc, rfl⟩ hd rfl rfl .non (I.hok.gone x.new) rfl I.bare (w ob.dict))
/-- a // b: the quotient, or a ZeroDivisionError -/
def tFdivX (W : WX) (ta tb : TE) : TE := fun σ H Q => ta σ H fun x H1 => tb σ H1 fun y H2 => ∃ i j : Int, x = .int i ∧ y = .int j ∧ j.natAbs.log2 < 9000 ∧ (j = 0 → ∀ d, W (.type "ZeroDivisionError") d σ H2) ∧ (j ≠ 0 → Q (.int (i.fdiv j)) H2)
theorem pe_fdivX {W : WX} {a b : Expr} {ta tb : TE} {pos : Pos} (hc : X.calm = true) (tk : TakesC X W) (ha : PE X a ta) (hb : PE X b tb) : PE X (.BinOp a .FloorDiv b pos) (tFdivX W ta tb) := by
  refine ⟨fun pins s σ H Q I h => ?_⟩
  refine wpAny_BinOp (binT ha hb I (R := fun x y H2 => ∃ i j : Int, x = .int i ∧ y = .int j ∧ j.natAbs.log2 < 9000 ∧ (j = 0 → ∀ d, W (.type "ZeroDivisionError") d σ H2) ∧ (j ≠ 0 → Q (.int (i.fdiv j)) H2)) h fun v u s2 x y H2 I2 rx ry q => ?_)
  obtain ⟨i, j, rfl, rfl, hl, q0, q1⟩ := q
  obtain ⟨t, rfl⟩ := (show ∃ t, v = Value.int i t from rx)
  obtain ⟨t', rfl⟩ := (show ∃ t, u = Value.int j t from ry)
  by_cases hj : j = 0
  · subst hj
    exact PySem.AutoIntOps.floordiv_0 rfl ⟨I2.ok.hd hc, fun h' tk' e hx => takes_newC (t' := tk') tk I2 hx (q0 rfl)⟩
  · exact PyProof.Rows.floordiv_int hj ⟨.int (i.fdiv j), H2, I2.tok _, ⟨_, rfl⟩, q1 hj⟩ (.inl (PyProof.noPylong_of_log2 hl))
end
theorem ps_rsfE {X : Cx} {W : WX} {e : Expr} {t : L2.St → Hp → XK → Prop} {pos : Pos} {pn : List (Addr × Obj)} {xe : Value → Shared → Prop} {n : Str} {i : Nat} {cp : Pos} {a0 : Addr} {oe0 : Obj} {cls0 : Value} {d0 : Option Addr} (hot : HotD (suiteE X a0 ((a0, oe0) :: pn) xe)) (hz0 : Zc cls0 d0 oe0) (hd0 : ∃ vs, oe0.data = .fields vs)
    (tk : TakesC (suiteE X a0 ((a0, oe0) :: pn) xe) W) (he : L2H.PMk5 (suiteE X a0 ((a0, oe0) :: pn) xe) e t) (hN : X.N[i]? = some n) (hln : X.env.kindOf n = some .local) (hdb : (n == ("__debug__" : Str)) = false := by decide) :
    PS (suiteE X a0 ((a0, oe0) :: pn) xe) (.Raise (some e) (some (.Name n cp)) pos) (fun _ σ H => σ[i]? = some (some (.ref a0)) ∧ PySem.W.exmOne X.K cls0 (.type "BaseException") = some true ∧ t σ H fun cls d H' => W cls d σ H') :=
  ps_rsf hot List.mem_cons_self rfl hz0 hd0 tk he hN hln hdb
theorem ps_fldT {X : Cx} {pn : List (Addr × Obj)} {xe : Value → Shared → Prop} {o value : Expr} {ta tv : TE} {f : Str} {pos pos' : Pos} (ha : PE (X.tr pn xe) o ta) (hv : PE (X.tr pn xe) value tv) (hs : swapsWith value (some (.Attribute o f pos')) pos.line (X.tr pn xe).env = pure false) : PS (X.tr pn xe) (.Assign [.Attribute o f pos'] value pos) (sFld X.K ta tv f) := ps_fld ha hv hs
theorem exm_ZD {K : PySem.W.Frag} : PySem.W.exmOne K (.type "ZeroDivisionError") (.type "ZeroDivisionError") = some true := by kernel_rfl
theorem exm_ZDs {K : PySem.W.Frag} : PySem.W.exmAny K (.type "ZeroDivisionError") [.type "ZeroDivisionError"] = some true := by
  unfold PySem.W.exmAny
  rw [exm_ZD]
  rfl
theorem exm_ZDb {K : PySem.W.Frag} : PySem.W.exmOne K (.type "ZeroDivisionError") (.type "BaseException") = some true := by kernel_rfl
end Bw

namespace Rat0
theorem next_alike {t b : Int} (h : Low t b) : (t = top t (b + 1) ∧ b = bot t (b + 1)) ↔ t = 0 := by
  have hb := h.pos
  have h1 := h.one
  have hby : by_ t (b + 1) = (Int.gcd t (b + 1) : Int) := if_neg (by omega)
  constructor
  · rintro ⟨e1, e2⟩
    have d1 : bot t (b + 1) * by_ t (b + 1) = b + 1 := Int.fdiv_mul_cancel (by_dvd_right t (b + 1))
    have d2 : top t (b + 1) * by_ t (b + 1) = t := Int.fdiv_mul_cancel (by_dvd_left t (b + 1))
    rw [← e2] at d1
    rw [← e1] at d2
    -- b * g = b + 1, t * g = t
    by_cases ht : t = 0
    · exact ht
    · have g1 : by_ t (b + 1) = 1 := Int.eq_of_mul_eq_mul_left ht (by rw [d2, Int.mul_one])
      rw [g1, Int.mul_one] at d1
      omega
  · intro ht
    subst ht
    have eb : b = 1 := by
      have : Int.gcd 0 b = b.natAbs := Int.gcd_zero_left b
      rw [this] at h1
      omega
    subst eb
    decide
end Rat0

open PySem PySem.Spec L2 Bw
local macro_rules | `(tactic| wtm_at "look") => `(tactic| first | assumption | with_reducible exact upd_same | ((with_reducible refine' same_at ?ws ?wt); (case ws => assumption); (case wt => wtm_at "look")) | ((with_reducible refine' kb_at ?ws ?wt ?wn); (case ws => assumption); (case wt => wtm_at "look"); (case wn => wtm_at "ne")))
local macro_rules | `(tactic| wtm_at "ne") => `(tactic| first | assumption | ((with_reducible refine Ne.symm ?ws); (case ws => assumption)) | ((with_reducible refine' ne_of_none ?wa ?wb); (case wb => assumption); (case wa => wtm_at "look")) | ((with_reducible refine' Ne.symm (ne_of_none ?wa ?wb)); (case wb => assumption); (case wa => wtm_at "look")))
local macro_rules | `(tactic| wtm_at "seq") => `(tactic| first | assumption | ((with_reducible refine' SqL.of ?ws); (case ws => wtm_at "look")) | ((with_reducible refine' SqT.of ?ws); (case ws => wtm_at "look")) | ((with_reducible refine' Same.seq ?ws ?wt); (case ws => assumption); (case wt => wtm_at "seq")) | ((with_reducible refine' same_t ?ws ?wt); (case ws => assumption); (case wt => wtm_at "seq")))
local macro_rules | `(tactic| wtm_at "ix") => `(tactic| first | assumption | exact atI_nat (j := 0) rfl | exact atI_nat (j := 1) rfl | exact atI_nat (j := 2) rfl | exact atI_nat (j := 3) rfl | exact atI_nat (j := 4) rfl)
local macro_rules | `(tactic| wtm_at "len") => `(tactic| first | (refine sz ?_; simp only [List.length_cons, List.length_nil]; omega) | (refine sz ?_; omega))
local macro_rules | `(tactic| wtm_at "fld") => `(tactic| first | assumption | exact lk_hit | ((with_reducible refine' lk_miss ?wa ?wb); (case wa => decide +kernel); (case wb => wtm_at "fld")) | rfl)
local macro_rules | `(tactic| wtm_at "tyx") => `(tactic| first | assumption | with_reducible exact tyx_int | with_reducible exact tyx_bl | with_reducible exact tyx_str | with_reducible exact tyx_non | ((with_reducible refine' tyx_lst ?wa); (case wa => wtm_at "look")) | ((with_reducible refine' tyx_tup ?wa); (case wa => wtm_at "look")))
local macro_rules | `(tactic| wtm_at "ixn") => `(tactic| first | assumption | exact Evl.ixN_nat (j := 0) (by simp) | exact Evl.ixN_nat (j := 1) (by simp) | exact Evl.ixN_nat (j := 2) (by simp) | rfl)
local macro_rules | `(tactic| wtm_at "cond") => `(tactic| first | assumption | (show (0 : Int) < _; omega) | exact mulL (by omega) | exact mulR (by omega) | exact divU (b := 64) (by omega) (by omega) (by decide) (by decide) | exact powU (a := 200) (by omega) (by decide) (by decide) (by decide))
local macro_rules | `(tactic| wtm_at "xd") => `(tactic| first | assumption | exact xdOk_none | ((with_reducible refine' XdOk.same ?wx ?ws); (case ws => assumption); (case wx => wtm_at "xd")) | ((with_reducible refine' xdOk_at ?wa); (case wa => wtm_at "look")))
local macro_rules | `(tactic| wtm_at "new") => `(tactic| (intro pN nN; generalize eN : upd _ pN _ = HN; have sN := same_gen nN eN; have hN := at_gen eN; clear eN))
local macro_rules | `(tactic| wtm_at "mut") => `(tactic| (generalize eM : upd _ _ _ = HM; have kM := kb_gen eM; have hM := at_gen eM; clear eM; (repeat (first | rw [pf_hit] at hM | rw [pf_nil] at hM | ((rw [pf_miss] at hM); rotate_left; decide +kernel)))))
local macro_rules | `(tactic| wtm_at "make") => `(tactic| (intro pR dR nR ndR neR; generalize eR : upd (upd _ dR _) pR _ = HR; have sR := same_make nR ndR eR; have hR := at_gen eR; clear eR neR))
local macro_rules | `(tactic| wtm_at "shp") => `(tactic| simp [SeqAt.shaped, PyData.canLay0, PyData.canLayAll0, PyData.depth, PyData.depthAll])
local macro_rules | `(tactic| wtm_at "kit") => `(tactic| first | exact kit_int_int | exact kit_int_bool | exact kit_int_str | exact kit_int_list | exact kit_int_tuple | exact kit_int_dict | exact kit_bool_int | exact kit_bool_bool | exact kit_bool_str | exact kit_bool_list | exact kit_bool_tuple | exact kit_bool_dict | exact kit_str_int | exact kit_str_bool | exact kit_str_str | exact kit_str_list | exact kit_str_tuple | exact kit_str_dict | exact kit_list_int | exact kit_list_bool | exact kit_list_str | exact kit_list_list | exact kit_list_tuple | exact kit_list_dict | exact kit_tuple_int | exact kit_tuple_bool | exact kit_tuple_str | exact kit_tuple_list | exact kit_tuple_tuple | exact kit_tuple_dict | exact kit_NoneType_int | exact kit_NoneType_bool | exact kit_NoneType_str | exact kit_NoneType_list | exact kit_NoneType_tuple | exact kit_NoneType_dict | exact kit_dict_int | exact kit_dict_bool | exact kit_dict_str | exact kit_dict_list | exact kit_dict_tuple | exact kit_dict_dict)
local macro_rules | `(tactic| wtm_at "w1") => `(tactic| first
  | with_reducible refine Stp.pf ?_
  | ((with_reducible refine' w_var ?wv ?_); (case wv => rfl))
  | ((with_reducible refine w_I ?wc ?_); (case' wc => try wtm_at "cond"))
  | ((with_reducible refine' w_setL ?wh ?wj ?_); (case wh => wtm_at "look"); (case wj => wtm_at "ixn"); intro hS kS eS; (try dsimp only [List.set_cons_zero, List.set_cons_succ] at eS))
  | ((with_reducible refine w_eq ?wh ?_); (case wh => rfl))
  | ((with_reducible refine w_ne ?wh ?_); (case wh => rfl))
  | ((with_reducible refine' w_isP ?wa ?wb ?wc ?_); (case wa => assumption); (case wb => assumption); (case wc => wtm_at "xd"))
  | ((with_reducible refine' w_isPt ?wa ?wb ?wc ?_); (case wa => assumption); (case wb => assumption); (case wc => wtm_at "xd"))
  | ((with_reducible refine' w_isPT ?wa ?wt ?wb ?wc ?_); (case wa => assumption); (case wt => wtm_at "look"); (case wb => assumption); (case wc => wtm_at "xd"))
  | ((with_reducible refine' w_tyL ?wh ?_); (case wh => wtm_at "seq"))
  | ((with_reducible refine' w_enum ?wh ?_); (case wh => wtm_at "seq"))
  | ((with_reducible refine' w_slS ?wh ?_); (case wh => wtm_at "len"))
  | ((with_reducible refine' w_slL ?wh ?_); (case wh => wtm_at "seq"); intro pC HC nC sC hC)
  | ((with_reducible refine' w_aug ?wv ?_); (case wv => rfl))
  | ((with_reducible refine' w_faug1 ?wh ?wc ?wn ?wl ?_); (case wh => wtm_at "look"); (case wc => assumption); (case wn => assumption); (case wl => wtm_at "fld"))
  | ((with_reducible refine' w_faug2 ?wh ?wl ?_); (case wh => wtm_at "look"); (case wl => (simp only [List.length_cons, List.length_nil]; omega)); wtm_at "mut")
  | ((with_reducible refine' w_xf ?wa ?wn ?wh ?wl ?_); (case wa => assumption); (case wn => assumption); (case wh => wtm_at "look"); (case wl => wtm_at "fld"))
  | ((with_reducible refine' w_cat ?wh ?wi ?wl ?_); (case wh => wtm_at "look"); (case wi => wtm_at "look"); (case wl => wtm_at "len"); intro pC HC nC sC hC; (try dsimp only [List.cons_append, List.nil_append] at hC))
  | ((with_reducible refine' w_jt ?wh ?_); (case wh => wtm_at "len"))
  | ((with_reducible refine' w_lenL ?wh ?_); (case wh => wtm_at "seq"))
  | ((with_reducible refine' w_lenS ?wh ?_); (case wh => wtm_at "len"))
  | ((with_reducible refine' w_ixL ?wh ?wa ?_); (case wh => wtm_at "seq"); (case wa => wtm_at "ix"))
  | ((with_reducible refine' w_ixT ?wh ?wa ?_); (case wh => wtm_at "seq"); (case wa => wtm_at "ix"))
  | ((with_reducible refine' w_fld ?wh ?wc ?wn ?wl ?_); (case wh => wtm_at "look"); (case wc => assumption); (case wn => assumption); (case wl => wtm_at "fld"))
  | ((with_reducible refine' w_itT ?wh ?_); (case wh => wtm_at "seq"))
  | ((with_reducible refine' w_itL ?wh ?_); (case wh => wtm_at "seq"))
  | ((with_reducible refine' w_meth ?wh ?wl ?_); (case wh => wtm_at "look"); (case wl => wtm_at "fld"))
  | ((with_reducible refine makeG ?_); wtm_at "make")
  | ((with_reducible refine' w_isiB ?wt ?wk ?_); (case wt => wtm_at "tyx"); (case wk => wtm_at "kit"))
  | ((with_reducible refine' w_st ?wh ?wc ?wn ?wl ?_); (case wh => wtm_at "look"); (case wc => assumption); (case wn => assumption); (case wl => (simp only [List.length_cons, List.length_nil]; omega)); wtm_at "mut")
  | ((with_reducible refine' w_gtup ?wh ?wn ?_); (case wh => wtm_at "seq"); (case wn => rfl))
  | ((with_reducible refine' iteT' ?wb ?_); (case wb => rfl))
  | ((with_reducible refine' iteF' ?wb ?_); (case wb => rfl))
  | ((with_reducible refine newL ?wl ?_); (case wl => wtm_at "len"); wtm_at "new"))
local macro_rules | `(tactic| wtm_at "w0") => `(tactic| dsimp only [cxOf, L2H.cxH, Cx.nox, Cx.wish, L2.start, List.map_cons, List.map_nil, List.length_cons, List.length_nil, List.cons_append, List.nil_append, List.replicate, Nat.reduceAdd, Nat.reduceSub])
local macro_rules | `(tactic| wtm_at "wp") => `(tactic| repeat (wtm_at "w1"))
local macro_rules | `(tactic| wtm_at "wq") => `(tactic| repeat ((fail_if_success (with_reducible refine w_if ?_)); wtm_at "w1"))

namespace K31
def topS (i : Nat) : Stmt := PySem.Challenge.pw_blocksearch_k31_ratios_made.main.body.getD i (.Pass ⟨0, 0, 0, 0⟩)
structure Txt (K : PySem.W.Frag) (mg : Str → Option Value) (Z : Zs) (C_Ratio C_NoRatio C_Held C_Gone : Addr) : Prop where
  cl_Ratio : Cls K C_Ratio
  m_Ratio : mg "Ratio" = some (.ref C_Ratio)
  na_Ratio_top : NoAttr K C_Ratio "top"
  na_Ratio_bottom : NoAttr K C_Ratio "bottom"
  c_FARTHEST : ∃ t, mg "FARTHEST" = some (.int (10 ^ 300) t)
  n_isinstance : mg "isinstance" = none
  n_bool : mg "bool" = none
  n_int : mg "int" = none
  n_str : mg "str" = none
  n_list : mg "list" = none
  n_tuple : mg "tuple" = none
  n_len : mg "len" = none
  n_max : mg "max" = none
  n_min : mg "min" = none
  n_range : mg "range" = none
  n_abs : mg "abs" = none
  n_ZeroDivisionError : mg "ZeroDivisionError" = none
  n_KeyError : mg "KeyError" = none
  n_repr : mg "repr" = none
  x_NoNumber : XpV K Z.NoNumber
  x_NoRatio : XpZ K C_NoRatio
  m_NoRatio : mg "NoRatio" = some (.ref C_NoRatio)
  m_Held : mg "Held" = some (.ref C_Held)
  m_Gone : mg "Gone" = some (.ref C_Gone)
  m_Wrong : mg "Wrong" = some (.ref Z.Wrong)
  m_NoWord : mg "NoWord" = some (.ref Z.NoWord)
  m_NoText : mg "NoText" = some (.ref Z.NoText)
  m_NoNumber : mg "NoNumber" = some (.ref Z.NoNumber)
  m_NoSize : mg "NoSize" = some (.ref Z.NoSize)
  m_NoLengths : mg "NoLengths" = some (.ref Z.NoLengths)
  m_NoQuery : mg "NoQuery" = some (.ref Z.NoQuery)
  m_NoCode : mg "NoCode" = some (.ref Z.NoCode)
  m_NoRow : mg "NoRow" = some (.ref Z.NoRow)
  m_NoEntries : mg "NoEntries" = some (.ref Z.NoEntries)
  m_NoQueryText : mg "NoQueryText" = some (.ref Z.NoQueryText)
  m_NoPages : mg "NoPages" = some (.ref Z.NoPages)
  m_NoQueries : mg "NoQueries" = some (.ref Z.NoQueries)
  m_NoShelf : mg "NoShelf" = some (.ref Z.NoShelf)
  m_NoPlace : mg "NoPlace" = some (.ref Z.NoPlace)
  m_NoSlot : mg "NoSlot" = some (.ref Z.NoSlot)
  n_ValueError : mg "ValueError" = none
  n_IndexError : mg "IndexError" = none
end K31

namespace K31
abbrev s_law_kind : Stmt := topS 31
theorem sc_law_kind : FnScope ["_law_e", "_law_got", "_law_names"] ["_law_e"] (defScope s_law_kind) := ⟨rfl, rfl, rfl, by decide +kernel, rfl, by decide +kernel, by decide +kernel⟩
abbrev s_law_how : Stmt := topS 32
theorem sc_law_how : FnScope ["_law_deed", "_law_e"] ["_law_deed"] (defScope s_law_how) := ⟨rfl, rfl, rfl, by decide +kernel, rfl, by decide +kernel, by decide +kernel⟩
section
variable {P : Program} {w : World} {K : PySem.W.Frag} {mg : Str → Option Value} {base : Heap} {Z : Zs} {C_Ratio C_NoRatio C_Held C_Gone : Addr}
abbrev csH (Z : Zs) (NoRatio Held Gone : Addr) : List Addr := [Z.NoWord, Z.NoText, Z.NoNumber, Z.NoSize, Z.NoLengths, Z.NoQuery, Z.NoCode, Z.NoRow, Z.NoEntries, Z.NoQueryText, Z.NoPages, Z.NoShelf, Z.NoQueries, Z.NoPlace, Z.NoSlot, NoRatio, Held, Gone]
abbrev clH (Z : Zs) (NoRatio Held Gone : Addr) : Cl3 := [([.ref Z.Wrong], "ValueError"), ([.ref Z.NoPlace, .ref Z.NoSlot], "IndexError"), ([.ref NoRatio], "ZeroDivisionError"), ([.ref Held, .ref Gone], "KeyError")]
theorem ok_kind3 {f : Addr} {fd : FuncData} (F : Fun K "_law_kind" "_law_kind" s_law_kind f fd) (T : Txt K mg Z C_Ratio C_NoRatio C_Held C_Gone) : FnP0 P w K mg base 1 f fd ["_law_e"] (spKind3 K (csH Z C_NoRatio C_Held C_Gone)) := by
  refine Fun.okP F sc_law_kind (fun p vs H Q h => ?_) (fun cdv A outer s H vs Q p hr h => ?_)
  · obtain ⟨D, d, i, nm, rfl, _⟩ := h
    rfl
  · obtain ⟨a, oe⟩ := p
    obtain ⟨D, d, i, nm, rfl, hz, hf, hk, hx, hn, k⟩ := h
    have hE := hk.ex
    have k0 := hk.is 0 _ rfl
    have k1 := hk.is 1 _ rfl
    have k2 := hk.is 2 _ rfl
    have k3 := hk.is 3 _ rfl
    have k4 := hk.is 4 _ rfl
    have k5 := hk.is 5 _ rfl
    have k6 := hk.is 6 _ rfl
    have k7 := hk.is 7 _ rfl
    have k8 := hk.is 8 _ rfl
    have k9 := hk.is 9 _ rfl
    have k10 := hk.is 10 _ rfl
    have k11 := hk.is 11 _ rfl
    have k12 := hk.is 12 _ rfl
    have k13 := hk.is 13 _ rfl
    have k14 := hk.is 14 _ rfl
    have k15 := hk.is 15 _ rfl
    have k16 := hk.is 16 _ rfl
    have k17 := hk.is 17 _ rfl
    have hi : i < 18 := kind3_lt hn
    refine ⟨_, (pss_cons (ps_set (i := 1) sc_law_kind.nd rfl (.inl rfl) (pe_lst (pa_cons (pe_callB (call_isP (a := a) (oe := oe) List.mem_cons_self hz hf) (by rfl) T.n_isinstance PyProof.Rows.boot_isinstance (pa_cons (pv 0) (pa_cons (pe_gcls T.m_NoWord rfl) pa_nil))) (pa_cons (pe_callB (call_isP (a := a) (oe := oe) List.mem_cons_self hz hf) (by rfl) T.n_isinstance PyProof.Rows.boot_isinstance (pa_cons (pv 0) (pa_cons (pe_gcls T.m_NoText rfl) pa_nil))) (pa_cons (pe_callB (call_isP (a := a) (oe := oe) List.mem_cons_self hz hf) (by rfl) T.n_isinstance PyProof.Rows.boot_isinstance (pa_cons (pv 0) (pa_cons (pe_gcls T.m_NoNumber rfl) pa_nil))) (pa_cons (pe_callB (call_isP (a := a) (oe := oe) List.mem_cons_self hz hf) (by rfl) T.n_isinstance PyProof.Rows.boot_isinstance (pa_cons (pv 0) (pa_cons (pe_gcls T.m_NoSize rfl) pa_nil))) pa_nil))))))
 (pss_cons (ps_set (i := 1) sc_law_kind.nd rfl (.inl rfl) (pe_op op_cat (pv 1) (pe_lst (pa_cons (pe_callB (call_isP (a := a) (oe := oe) List.mem_cons_self hz hf) (by rfl) T.n_isinstance PyProof.Rows.boot_isinstance (pa_cons (pv 0) (pa_cons (pe_gcls T.m_NoLengths rfl) pa_nil))) (pa_cons (pe_callB (call_isP (a := a) (oe := oe) List.mem_cons_self hz hf) (by rfl) T.n_isinstance PyProof.Rows.boot_isinstance (pa_cons (pv 0) (pa_cons (pe_gcls T.m_NoQuery rfl) pa_nil))) (pa_cons (pe_callB (call_isP (a := a) (oe := oe) List.mem_cons_self hz hf) (by rfl) T.n_isinstance PyProof.Rows.boot_isinstance (pa_cons (pv 0) (pa_cons (pe_gcls T.m_NoCode rfl) pa_nil))) (pa_cons (pe_callB (call_isP (a := a) (oe := oe) List.mem_cons_self hz hf) (by rfl) T.n_isinstance PyProof.Rows.boot_isinstance (pa_cons (pv 0) (pa_cons (pe_gcls T.m_NoRow rfl) pa_nil))) pa_nil)))))))
 (pss_cons (ps_set (i := 1) sc_law_kind.nd rfl (.inl rfl) (pe_op op_cat (pv 1) (pe_lst (pa_cons (pe_callB (call_isP (a := a) (oe := oe) List.mem_cons_self hz hf) (by rfl) T.n_isinstance PyProof.Rows.boot_isinstance (pa_cons (pv 0) (pa_cons (pe_gcls T.m_NoEntries rfl) pa_nil))) (pa_cons (pe_callB (call_isP (a := a) (oe := oe) List.mem_cons_self hz hf) (by rfl) T.n_isinstance PyProof.Rows.boot_isinstance (pa_cons (pv 0) (pa_cons (pe_gcls T.m_NoQueryText rfl) pa_nil))) (pa_cons (pe_callB (call_isP (a := a) (oe := oe) List.mem_cons_self hz hf) (by rfl) T.n_isinstance PyProof.Rows.boot_isinstance (pa_cons (pv 0) (pa_cons (pe_gcls T.m_NoPages rfl) pa_nil))) pa_nil))))))
 (pss_cons (ps_set (i := 1) sc_law_kind.nd rfl (.inl rfl) (pe_op op_cat (pv 1) (pe_lst (pa_cons (pe_callB (call_isP (a := a) (oe := oe) List.mem_cons_self hz hf) (by rfl) T.n_isinstance PyProof.Rows.boot_isinstance (pa_cons (pv 0) (pa_cons (pe_gcls T.m_NoShelf rfl) pa_nil))) (pa_cons (pe_callB (call_isP (a := a) (oe := oe) List.mem_cons_self hz hf) (by rfl) T.n_isinstance PyProof.Rows.boot_isinstance (pa_cons (pv 0) (pa_cons (pe_gcls T.m_NoQueries rfl) pa_nil))) (pa_cons (pe_callB (call_isP (a := a) (oe := oe) List.mem_cons_self hz hf) (by rfl) T.n_isinstance PyProof.Rows.boot_isinstance (pa_cons (pv 0) (pa_cons (pe_gcls T.m_NoPlace rfl) pa_nil))) (pa_cons (pe_callB (call_isP (a := a) (oe := oe) List.mem_cons_self hz hf) (by rfl) T.n_isinstance PyProof.Rows.boot_isinstance (pa_cons (pv 0) (pa_cons (pe_gcls T.m_NoSlot rfl) pa_nil))) pa_nil)))))))
 (pss_cons (ps_set (i := 1) sc_law_kind.nd rfl (.inl rfl) (pe_op op_cat (pv 1) (pe_lst (pa_cons (pe_callB (call_isP (a := a) (oe := oe) List.mem_cons_self hz hf) (by rfl) T.n_isinstance PyProof.Rows.boot_isinstance (pa_cons (pv 0) (pa_cons (pe_gcls T.m_NoRatio rfl) pa_nil))) (pa_cons (pe_callB (call_isP (a := a) (oe := oe) List.mem_cons_self hz hf) (by rfl) T.n_isinstance PyProof.Rows.boot_isinstance (pa_cons (pv 0) (pa_cons (pe_gcls T.m_Held rfl) pa_nil))) (pa_cons (pe_callB (call_isP (a := a) (oe := oe) List.mem_cons_self hz hf) (by rfl) T.n_isinstance PyProof.Rows.boot_isinstance (pa_cons (pv 0) (pa_cons (pe_gcls T.m_Gone rfl) pa_nil))) pa_nil))))))
 (pss_cons (ps_set (i := 2) sc_law_kind.nd rfl (.inl rfl) (pe_lst (pa_cons pe_str (pa_cons pe_str (pa_cons pe_str (pa_cons pe_str (pa_cons pe_str (pa_cons pe_str (pa_cons pe_str (pa_cons pe_str (pa_cons pe_str pa_nil)))))))))))
 (pss_cons (ps_set (i := 2) sc_law_kind.nd rfl (.inl rfl) (pe_op op_cat (pv 2) (pe_lst (pa_cons pe_str (pa_cons pe_str (pa_cons pe_str (pa_cons pe_str (pa_cons pe_str (pa_cons pe_str (pa_cons pe_str (pa_cons pe_str (pa_cons pe_str pa_nil))))))))))))
 (pss_cons (ps_if (pt_cmpR op_ne (pe_bm PySem.F.plainAttrs_list PySem.F.slot_list_count PySem.F.type_list_count (mt_countD (huH hr)) (pv 1) (pa_cons pe_bl pa_nil)) pe_int (nomark _))
 (pss_one (ps_ret pe_str))
 pss_nil)
 (pss_one (ps_ret (pe_ix ix_list (pv 2) (pe_bm PySem.F.plainAttrs_list PySem.F.slot_list_index PySem.F.type_list_index (mt_indexD (huH hr)) (pv 1) (pa_cons pe_bl pa_nil)) (fun _ _ => rfl)))))))))))), ?_⟩
    wtm_at "w0"
    wtm_at "wp"
    rename_i p1 n1 H1 s1 h1 p2 n2 H2 s2 h2 p3 H3 n3 s3 h3 p4 n4 H4 s4 h4 p5 H5 n5 s5 h5 p6 n6 H6 s6 h6 p7 H7 n7 s7 h7 p8 n8 H8 s8 h8 p9 H9 n9 s9 h9 p10 n10 H10 s10 h10 p11 n11 H11 s11 h11 p12 H12 n12 s12 h12
    have hC : SqL K H12 p9 _ := .of (s12 _ _ (s11 _ _ (s10 _ _ h9)))
    refine w_countT (n := 1) (bit18 i) rfl hC (cnt18 hi) ?_
    wtm_at "wp"
    refine w_indexT (j := i) (bit18 i) rfl hC (idx18 hi) (fun m hm => bef18 hi m hm) ?_
    have hN : SqL K H12 p12 (kind3Names.map V.str) := .of h12
    refine w_ixL hN (nam18 hn) ?_
    exact k _ (s1.trans (s2.trans (s3.trans (s4.trans (s5.trans (s6.trans (s7.trans (s8.trans (s9.trans (s10.trans (s11.trans s12)))))))))))
theorem how_gives3 {X : Cx} {Z : Zs} {C_Ratio C_NoRatio C_Held C_Gone : Addr} (T : Txt X.K X.mg Z C_Ratio C_NoRatio C_Held C_Gone) (f__law_kind : FnP X.prog X.w X.K X.mg X.base "_law_kind" 1 ["_law_e"] (spKind3 X.K (csH Z C_NoRatio C_Held C_Gone))) (hr : Room 2 X.A) {g : Addr} {cdg : Value} {q : Str} :
    LamX.GivesTo X ["_law_deed", "_law_e"] "_law_how" (defScope s_law_how) g cdg (defBody s_law_how) "_law_deed" q (TTHow3 X.K (csH Z C_NoRatio C_Held C_Gone) (clH Z C_NoRatio C_Held C_Gone)) := by
  intro f c' s H Q tl act hc h
  have hrH : ∀ a : Addr, L2H.RoomH 1 ((X.A.deeper (PyProof.Rows.envOfC "_law_how" (defScope s_law_how) s.heap.objs.size g cdg)).mark (some (.ref a))) := fun a => roomH_mark (hr.deeper _)
  refine ⟨_, pss_cons (ps_try_mas (X := (cxOf C8.CX0 X.prog X.w X.K X.mg X.base ["_law_deed", "_law_e"] "_law_how" (defScope s_law_how) g cdg X.A X.stack s H C8.E0).nox)
      (tb := fun W D σ H => ∃ Ech : XK, (∀ cls d (σ' : L2.St) H', σ'.length = 2 → Ech cls d H' → W cls d σ' H') ∧ σ[0]? = some (some (.ref f)) ∧ H c' = some (LamX.CodeO c' q) ∧ tl Ech H (fun _ H' => D.nx σ H'))
      rfl rfl (show List.Nodup _ from sc_law_how.nd) takes0 ?hsz (fun W pn xe tk _ => ?hb)
      (.cons (.one ⟨rfl, by decide, .inl T.m_Wrong⟩) (i := 1) rfl rfl
        pss_any
      (.cons (.tup (.cons ⟨rfl, by decide, .inl T.m_NoPlace⟩ (.cons ⟨rfl, by decide, .inl T.m_NoSlot⟩ .nil))) (i := 1) rfl rfl
        pss_any
      (.cons (.one ⟨rfl, by decide, .inl T.m_NoRatio⟩) (i := 1) rfl rfl
        pss_any
      (.cons (.tup (.cons ⟨rfl, by decide, .inl T.m_Held⟩ (.cons ⟨rfl, by decide, .inl T.m_Gone⟩ .nil))) (i := 1) rfl rfl
        pss_any .nil))))) (pss_one (ps_ret pe_str)), ?_⟩
  case hsz =>
    intro x hx
    simp only [List.mem_cons, List.not_mem_nil, or_false] at hx
    rcases hx with rfl | rfl | rfl | rfl <;> simp
  case hb =>
    refine ⟨fun pins s' σ H' D I h' => ?_⟩
    obtain ⟨Ech, hW, h1, h2, h3⟩ := h'
    exact (pss_one (ps_expr (act _ pn xe Ech _ _ (takes_len tk) (fun cls d σ' H' e hl => hW cls d σ' H' hl e)))).run pins s' σ H' D I ⟨h1, h2, h3⟩
  · refine ⟨howE3 X.K (csH Z C_NoRatio C_Held C_Gone) (clH Z C_NoRatio C_Held C_Gone) Q, fun cls d σ' H' hl hw => ?_, rfl, hc, h⟩
    obtain ⟨x0, x1, rfl⟩ := two_of hl
    obtain ⟨D, rfl, i, c, nm, hp, hn, hx, k⟩ := hw
    have hE := hp.k.ex
    have ky := hp.yes
    have c4 : c = 0 ∨ c = 1 ∨ c = 2 ∨ c = 3 := by
      obtain ⟨x, e, _⟩ := ky
      have := (List.getElem?_eq_some_iff.mp e).1
      have h4 : (clH Z C_NoRatio C_Held C_Gone).length = 4 := rfl
      omega
    have kn := hp.no
    have sx : ∀ {x y : List Value × String}, some x = some y → y = x := fun h => (Option.some.inj h).symm
    rcases c4 with rfl | rfl | rfl | rfl
    · obtain ⟨x, ex, y1, y2⟩ := ky
      cases sx ex
      refine ⟨true, y1, fun _ a na => fun oe pn hz hf => ⟨_, (pss_one (ps_ret (pe_ix ix_list (pe_lst (pa_cons (pe_fp (a := a) (oe := oe) f__law_kind List.mem_cons_self hz hf (hrH _) rfl (pa_cons (pv 1) pa_nil)) (pa_cons pe_str pa_nil))) (pe_callTy cl_int (by rfl) T.n_int PyProof.Rows.boot_int (pa_cons (pe_not (pe_callB (call_isP (a := a) (oe := oe) List.mem_cons_self hz hf) (by rfl) T.n_isinstance PyProof.Rows.boot_isinstance (pa_cons (pv 1) (pa_cons (pe_bltn (v := .ty "ValueError") (by rfl) T.n_ValueError PyProof.Rows.Boot.«ValueError» rfl) pa_nil)))) pa_nil)) (fun _ _ => rfl)))), ?_⟩, fun z => Bool.noConfusion z⟩
      wtm_at "w0"
      wtm_at "wp"
      intro oe hz hf
      refine ⟨D, d, i, nm, rfl, hz, hf, hp.k, hx, hn, fun H1 s1 => ?_⟩
      have hx1 := hx.same s1
      wtm_at "wp"
      rename_i p2 n2 H2 s2 h2
      exact k _ (s1.trans s2)
    · obtain ⟨x, ex, y1, y2⟩ := ky
      cases sx ex
      have z0 := kn 0 _ (by decide) rfl
      refine ⟨false, z0, fun z => Bool.noConfusion z, fun _ => ⟨true, y1, fun _ a na => fun oe pn hz hf => ⟨_, (pss_one (ps_ret (pe_ix ix_list (pe_lst (pa_cons (pe_fp (a := a) (oe := oe) f__law_kind List.mem_cons_self hz hf (hrH _) rfl (pa_cons (pv 1) pa_nil)) (pa_cons pe_str pa_nil))) (pe_callTy cl_int (by rfl) T.n_int PyProof.Rows.boot_int (pa_cons (pe_not (pe_callB (call_isP (a := a) (oe := oe) List.mem_cons_self hz hf) (by rfl) T.n_isinstance PyProof.Rows.boot_isinstance (pa_cons (pv 1) (pa_cons (pe_bltn (v := .ty "IndexError") (by rfl) T.n_IndexError PyProof.Rows.Boot.«IndexError» rfl) pa_nil)))) pa_nil)) (fun _ _ => rfl)))), ?_⟩, fun z => Bool.noConfusion z⟩⟩
      wtm_at "w0"
      wtm_at "wp"
      intro oe hz hf
      refine ⟨D, d, i, nm, rfl, hz, hf, hp.k, hx, hn, fun H1 s1 => ?_⟩
      have hx1 := hx.same s1
      wtm_at "wp"
      rename_i p2 n2 H2 s2 h2
      exact k _ (s1.trans s2)
    · obtain ⟨x, ex, y1, y2⟩ := ky
      cases sx ex
      have z0 := kn 0 _ (by decide) rfl
      have z1 := kn 1 _ (by decide) rfl
      refine ⟨false, z0, fun z => Bool.noConfusion z, fun _ => ⟨false, z1, fun z => Bool.noConfusion z, fun _ => ⟨true, y1, fun _ a na => fun oe pn hz hf => ⟨_, (pss_one (ps_ret (pe_ix ix_list (pe_lst (pa_cons (pe_fp (a := a) (oe := oe) f__law_kind List.mem_cons_self hz hf (hrH _) rfl (pa_cons (pv 1) pa_nil)) (pa_cons pe_str pa_nil))) (pe_callTy cl_int (by rfl) T.n_int PyProof.Rows.boot_int (pa_cons (pe_not (pe_callB (call_isP (a := a) (oe := oe) List.mem_cons_self hz hf) (by rfl) T.n_isinstance PyProof.Rows.boot_isinstance (pa_cons (pv 1) (pa_cons (pe_bltn (v := .ty "ZeroDivisionError") (by rfl) T.n_ZeroDivisionError PyProof.Rows.Boot.«ZeroDivisionError» rfl) pa_nil)))) pa_nil)) (fun _ _ => rfl)))), ?_⟩, fun z => Bool.noConfusion z⟩⟩⟩
      wtm_at "w0"
      wtm_at "wp"
      intro oe hz hf
      refine ⟨D, d, i, nm, rfl, hz, hf, hp.k, hx, hn, fun H1 s1 => ?_⟩
      have hx1 := hx.same s1
      wtm_at "wp"
      rename_i p2 n2 H2 s2 h2
      exact k _ (s1.trans s2)
    · obtain ⟨x, ex, y1, y2⟩ := ky
      cases sx ex
      have z0 := kn 0 _ (by decide) rfl
      have z1 := kn 1 _ (by decide) rfl
      have z2 := kn 2 _ (by decide) rfl
      refine ⟨false, z0, fun z => Bool.noConfusion z, fun _ => ⟨false, z1, fun z => Bool.noConfusion z, fun _ => ⟨false, z2, fun z => Bool.noConfusion z, fun _ => ⟨true, y1, fun _ a na => fun oe pn hz hf => ⟨_, (pss_one (ps_ret (pe_ix ix_list (pe_lst (pa_cons (pe_fp (a := a) (oe := oe) f__law_kind List.mem_cons_self hz hf (hrH _) rfl (pa_cons (pv 1) pa_nil)) (pa_cons pe_str pa_nil))) (pe_callTy cl_int (by rfl) T.n_int PyProof.Rows.boot_int (pa_cons (pe_not (pe_callB (call_isP (a := a) (oe := oe) List.mem_cons_self hz hf) (by rfl) T.n_isinstance PyProof.Rows.boot_isinstance (pa_cons (pv 1) (pa_cons (pe_bltn (v := .ty "KeyError") (by rfl) T.n_KeyError PyProof.Rows.Boot.«KeyError» rfl) pa_nil)))) pa_nil)) (fun _ _ => rfl)))), ?_⟩, fun z => Bool.noConfusion z⟩⟩⟩⟩
      wtm_at "w0"
      wtm_at "wp"
      intro oe hz hf
      refine ⟨D, d, i, nm, rfl, hz, hf, hp.k, hx, hn, fun H1 s1 => ?_⟩
      have hx1 := hx.same s1
      wtm_at "wp"
      rename_i p2 n2 H2 s2 h2
      exact k _ (s1.trans s2)
theorem how_asks3 {g : Addr} {fd : FuncData} (T : Txt K mg Z C_Ratio C_NoRatio C_Held C_Gone) (F : Fun K "_law_how" "_law_how" s_law_how g fd) (hm : mg "_law_how" = some (.ref g)) (hb : L2.Binds K fd ["_law_deed"] []) (f__law_kind : FnP P w K mg base "_law_kind" 1 ["_law_e"] (spKind3 K (csH Z C_NoRatio C_Held C_Gone))) :
    Asks P w K mg base "_law_how" "_law_deed" ["_law_deed", "_law_e"] s_law_how 2 (TTHow3 K (csH Z C_NoRatio C_Held C_Gone) (clH Z C_NoRatio C_Held C_Gone)) := by
  refine ⟨⟨g, fd, F, hm, hb⟩, sc_law_how, rfl, .inl rfl, fun X e1 e2 e3 e4 e5 hr g cdg q => ?_⟩
  subst e1 e2 e3 e4 e5
  exact how_gives3 T f__law_kind hr
end

end K31

namespace K31
section
variable {P : Program} {w : World} {K : PySem.W.Frag} {mg : Str → Option Value} {base : Heap} {Z : Zs} {C_Ratio C_NoRatio C_Held C_Gone : Addr}
/-! ### ratios: the program's defs -/
abbrev s_is_figured : Stmt := topS 23
theorem sc_is_figured : FnScope ["thing"] ["thing"] (defScope s_is_figured) := ⟨rfl, rfl, rfl, by decide +kernel, rfl, by decide +kernel, by decide +kernel⟩
abbrev s_common_part : Stmt := topS 24
theorem sc_common_part : FnScope ["one", "other"] ["one", "other"] (defScope s_common_part) := ⟨rfl, rfl, rfl, by decide +kernel, rfl, by decide +kernel, by decide +kernel⟩
abbrev s_Ratio___init__ : Stmt := inClass (topS 25) 0
theorem sc_Ratio___init__ : FnScope ["self", "top", "bottom", "e"] ["self", "top", "bottom"] (defScope s_Ratio___init__) := ⟨rfl, rfl, rfl, by decide +kernel, rfl, by decide +kernel, by decide +kernel⟩
abbrev s_Ratio_set_lowest : Stmt := inClass (topS 25) 1
theorem sc_Ratio_set_lowest : FnScope ["self", "top", "bottom", "by"] ["self", "top", "bottom"] (defScope s_Ratio_set_lowest) := ⟨rfl, rfl, rfl, by decide +kernel, rfl, by decide +kernel, by decide +kernel⟩
def spGcd : Sp := fun vs H Q _ => ∃ a b : Int, vs = [.int a, .int b] ∧ Q (.int (Int.gcd a b)) H
theorem ok_common {f : Addr} {fd : FuncData} (F : Fun K "common_part" "common_part" s_common_part f fd) (T : Txt K mg Z C_Ratio C_NoRatio C_Held C_Gone) : FnOk P w K mg base CX0 1 f fd ["one", "other"] spGcd := by
  refine F.ok sc_common_part (fun vs H Q E h => ?_) (fun cdv A outer s H vs Q E hr h => ?_)
  · obtain ⟨a, b, rfl, _⟩ := h
    rfl
  · obtain ⟨a, b, rfl, k⟩ := h
    refine ⟨_, (pss_cons (ps_par (i := 0) (j := 1) (by rfl) sc_common_part.nd rfl rfl (by decide) rfl rfl (pa_cons (pe_callB cl_abs (by rfl) T.n_abs PyProof.Rows.boot_abs (pa_cons (pv 0) pa_nil)) (pa_cons (pe_callB cl_abs (by rfl) T.n_abs PyProof.Rows.boot_abs (pa_cons (pv 1) pa_nil)) pa_nil)) (by rfl))
 (pss_cons (ps_while PassesOwn.never (pt_cmpR op_ne (pv 1) pe_int (nomark _))
 (pss_one (ps_par (i := 0) (j := 1) (by rfl) sc_common_part.nd rfl rfl (by decide) rfl rfl (pa_cons (pv 1) (pa_cons (pe_op op_mod (pv 0) (pv 1)) pa_nil)) (by rfl))))
 (pss_one (ps_ret (pv 0))))), ?_⟩
    wtm_at "w0"
    wtm_at "wp"
    refine ⟨fun m σ H' => H' = H ∧ ∃ x y : Nat, σ = [some (.int x), some (.int y)] ∧ Nat.gcd x y = Int.gcd a b ∧ y = m, ⟨b.natAbs, rfl, a.natAbs, b.natAbs, rfl, rfl, rfl⟩, ?_⟩
    rintro m σ H' ⟨rfl, x, y, rfl, e, rfl⟩
    wtm_at "wp"
    cases y with
    | zero =>
      refine iteF ?_
      wtm_at "wp"
      rw [Nat.gcd_zero_right] at e
      rw [← e] at k
      exact k
    | succ y =>
      refine iteT ?_
      refine w_loopT ?_
      wtm_at "wp"
      refine ⟨(x % (y + 1)), Nat.mod_lt _ (Nat.succ_pos _), rfl, y + 1, x % (y + 1), rfl, ?_, rfl⟩
      rw [← e, Nat.gcd_comm x, Nat.gcd_rec (y + 1) x, Nat.gcd_comm]

def spFig : Sp := fun vs H Q _ => ∃ a : Int, vs = [.int a] ∧ a.natAbs < 10 ^ 300 ∧ Q (.bl true) H
theorem ok_fig {f : Addr} {fd : FuncData} (F : Fun K "is_figured" "is_figured" s_is_figured f fd) (T : Txt K mg Z C_Ratio C_NoRatio C_Held C_Gone) : FnOk P w K mg base CX0 1 f fd ["thing"] spFig := by
  refine F.ok sc_is_figured (fun vs H Q E h => ?_) (fun cdv A outer s H vs Q E hr h => ?_)
  · obtain ⟨a, rfl, _⟩ := h
    rfl
  · obtain ⟨a, rfl, ha, k⟩ := h
    refine ⟨_, (pss_one (ps_ret (pe_and (pe_callB call_isi (by rfl) T.n_isinstance PyProof.Rows.boot_isinstance (pa_cons (pv 0) (pa_cons (pe_bltn (v := .ty "int") (by rfl) T.n_int PyProof.Rows.boot_int rfl) pa_nil))) (pe_and (pe_not (pe_callB call_isi (by rfl) T.n_isinstance PyProof.Rows.boot_isinstance (pa_cons (pv 0) (pa_cons (pe_bltn (v := .ty "bool") (by rfl) T.n_bool PyProof.Rows.boot_bool rfl) pa_nil)))) (pe_one (pe_chain op_lt op_lt (pe_un un_neg (pe_gint T.c_FARTHEST rfl)) (pv 0) (pe_gint T.c_FARTHEST rfl))))))), ?_⟩
    wtm_at "w0"
    wtm_at "wp"
    have e : ((10 : Nat) ^ 300 : Nat) = ((10 : Int) ^ 300) := rfl
    generalize (10 : Int) ^ 300 = z at *
    generalize (10 : Nat) ^ 300 = y at *
    refine w_dec (fun _ => ?_) (fun n => absurd (by omega) n)
    wtm_at "wp"
    rw [decide_eq_true (show a < z by omega)]
    exact k
/-- a ratio at r -/
def RAt (C : Addr) (H : Hp) (r : Addr) (t b : Int) : Prop := ∃ dx, H r = some (.ins C dx [("top", .int t), ("bottom", .int b)])
theorem RAt.same {C : Addr} {H H' : Hp} {r : Addr} {t b : Int} (h : RAt C H r t b) (e : Same H H') : RAt C H' r t b := by
  obtain ⟨dx, h⟩ := h
  exact ⟨dx, e _ _ h⟩
theorem divBy {i t b : Int} (h : b ≠ 0) (hb : b.natAbs < 2 ^ 2000) : CDivU i (Rat0.by_ t b) :=
  divU (b := 2000) (Rat0.by_ne h) (Nat.lt_of_le_of_lt (Rat0.by_le h) hb) (by decide) (by decide)
def spRSet (C : Addr) : Sp := fun vs H Q _ => ∃ (r dx : Addr) (t b : Int) (x y : V), vs = [.ref r, .int t, .int b] ∧ H r = some (.ins C dx [("top", x), ("bottom", y)]) ∧ b ≠ 0 ∧ b.natAbs < 2 ^ 2000 ∧
  ∀ H', KB r H H' → H' r = some (.ins C dx [("top", .int (Rat0.top t b)), ("bottom", .int (Rat0.bot t b))]) → Q .non H'
theorem ok_rset {f : Addr} {fd : FuncData} (F : Fun K "set_lowest" "Ratio.set_lowest" s_Ratio_set_lowest f fd) (T : Txt K mg Z C_Ratio C_NoRatio C_Held C_Gone) (f_common_part : Fn P w K mg base "common_part" 1 ["one", "other"] spGcd) : FnOk P w K mg base CX0 2 f fd ["self", "top", "bottom"] (spRSet C_Ratio) := by
  have hc := T.cl_Ratio
  have h1 := T.na_Ratio_top
  have h2 := T.na_Ratio_bottom
  refine F.ok sc_Ratio_set_lowest (fun vs H Q E h => ?_) (fun cdv A outer s H vs Q E hr h => ?_)
  · obtain ⟨r, dx, t, b, x, y, rfl, _⟩ := h
    rfl
  · obtain ⟨r, dx, t, b, x, y, rfl, ho, hb, hb2, k⟩ := h
    refine ⟨_, (pss_cons (ps_set (i := 3) sc_Ratio_set_lowest.nd rfl (.inl rfl) (pe_fn f_common_part (hr.mono (by omega)) rfl (pa_cons (pv 1) (pa_cons (pv 2) pa_nil))))
 (pss_cons (ps_if (pt_cmpR op_lt (pv 2) pe_int (nomark _))
 (pss_one (ps_set (i := 3) sc_Ratio_set_lowest.nd rfl (.inl rfl) (pe_un un_neg (pv 3))))
 pss_nil)
 (pss_one (ps_asg (pe_tup (pa_cons (pe_op op_fdivU (pv 1) (pv 3)) (pa_cons (pe_op op_fdivU (pv 2) (pv 3)) pa_nil))) (pg_tup rfl (pgs_cons (pg_fld (pv 0)) (pgs_cons (pg_fld (pv 0)) pgs_nil))))))), ?_⟩
    wtm_at "w0"
    wtm_at "wp"
    refine ⟨_, _, rfl, ?_⟩
    wtm_at "wp"
    refine w_dec (fun h => ?_) (fun h => ?_)
    · have eb : Rat0.by_ t b = -(Int.gcd t b : Int) := if_pos h
      have hd : ∀ i, CDivU i (-(Int.gcd t b : Int)) := fun i => eb ▸ divBy hb hb2
      wtm_at "wp"
      · exact hd _
      wtm_at "wp"
      · exact hd _
      wtm_at "wp"
      rename_i pN nN HN sN hN H1 k1 e1 H2 k2 e2
      refine k _ (KB.trans (KB.of sN) (KB.trans k1 k2)) ?_
      rw [e2, Rat0.top, Rat0.bot, eb]
    · have eb : Rat0.by_ t b = (Int.gcd t b : Int) := if_neg h
      have hd : ∀ i, CDivU i (Int.gcd t b : Int) := fun i => eb ▸ divBy hb hb2
      wtm_at "wp"
      · exact hd _
      wtm_at "wp"
      · exact hd _
      wtm_at "wp"
      rename_i pN nN HN sN hN H1 k1 e1 H2 k2 e2
      refine k _ (KB.trans (KB.of sN) (KB.trans k1 k2)) ?_
      rw [e2, Rat0.top, Rat0.bot, eb]

def spRInit (C : Addr) : Sp := fun vs H Q _ => ∃ (r dx : Addr) (t b : Int), vs = [.ref r, .int t, .int b] ∧ H r = some (.ins C dx []) ∧ t.natAbs < 10 ^ 300 ∧ b.natAbs < 10 ^ 300 ∧ b ≠ 0 ∧
  ∀ H', KB r H H' → H' r = some (.ins C dx [("top", .int (Rat0.top t b)), ("bottom", .int (Rat0.bot t b))]) → Q .non H'
theorem f300 {n : Nat} (h : n < 10 ^ 300) : n < 2 ^ 2000 := Nat.lt_trans h (by decide +kernel)
theorem ok_rinit {f : Addr} {fd : FuncData} (F : FunD K "__init__" "Ratio.__init__" (defArgs s_Ratio___init__) (defBody s_Ratio___init__) (defScope s_Ratio___init__) [.int 1] [] f fd) (T : Txt K mg Z C_Ratio C_NoRatio C_Held C_Gone) (f_is_figured : Fn P w K mg base "is_figured" 1 ["thing"] spFig)
    (me_Ratio_set_lowest : Me P w K mg base C_Ratio "set_lowest" 2 ["self", "top", "bottom"] (spRSet C_Ratio)) : FnOk P w K mg base CX0 3 f fd ["self", "top", "bottom"] (spRInit C_Ratio) := by
  have hc := T.cl_Ratio
  have h1 := T.na_Ratio_top
  have h2 := T.na_Ratio_bottom
  refine F.ok sc_Ratio___init__ (fun vs H Q E h => ?_) (fun cdv A outer s H vs Q E hr h => ?_)
  · obtain ⟨r, dx, t, b, rfl, _⟩ := h
    rfl
  · obtain ⟨r, dx, t, b, rfl, ho, ht, hb, hb0, k⟩ := h
    refine ⟨_, PSs.nox (pss_cons (ps_if (PW.pt (pw_or (pt_not (pt_val (pe_fn f_is_figured (hr.mono (by omega)) rfl (pa_cons (pv 1) pa_nil)))) (pw_or1 (pt_not (pt_val (pe_fn f_is_figured (hr.mono (by omega)) rfl (pa_cons (pv 2) pa_nil)))))))
 (pss_one (ps_never))
 pss_nil)
 (pss_cons (ps_try_thru0 (pss_one (ps_fld (pv 0) (pe_op op_fdivU (pv 1) (pv 2)) rfl)))
 (pss_cons (ps_fld (pv 0) pe_int rfl)
 (pss_one (ps_expr (pe_me (pv 0) T.cl_Ratio me_Ratio_set_lowest (hr.mono (by omega)) (pa_cons (pv 1) (pa_cons (pv 2) pa_nil)))))))), ?_⟩
    wtm_at "w0"
    wtm_at "wp"
    refine ⟨_, rfl, ht, ?_⟩
    wtm_at "wp"
    refine ⟨_, rfl, hb, ?_⟩
    wtm_at "wp"
    · exact divU hb0 (f300 hb) (by decide) (by decide)
    wtm_at "wp"
    rename_i H1 k1 e1 H2 k2 e2
    refine ⟨r, dx, t, b, _, _, rfl, e2, hb0, f300 hb, fun H3 k3 e3 => ?_⟩
    exact k _ (k1.trans (k2.trans k3)) e3
def spRMade (C : Addr) : Sp := fun vs H Q _ => ∃ (t b : Int), vs = [.int t, .int b] ∧ b ≠ 0 ∧ b.natAbs < 2 ^ 2000 ∧
  ∀ r H', H r = none → Same H H' → RAt C H' r (Rat0.top t b) (Rat0.bot t b) → Q (.ref r) H'
def spPlus (C : Addr) : Sp := fun vs H Q _ => ∃ (r r' : Addr) (a b c d : Int), vs = [.ref r, .ref r'] ∧ RAt C H r a b ∧ RAt C H r' c d ∧ b ≠ 0 ∧ d ≠ 0 ∧
  a.natAbs < 2 ^ 900 ∧ b.natAbs < 2 ^ 900 ∧ c.natAbs < 2 ^ 900 ∧ d.natAbs < 2 ^ 900 ∧
  ∀ q H', H q = none → Same H H' → RAt C H' q (Rat0.top (a * d + c * b) (b * d)) (Rat0.bot (a * d + c * b) (b * d)) → Q (.ref q) H'
def spTimes (C : Addr) : Sp := fun vs H Q _ => ∃ (r r' : Addr) (a b c d : Int), vs = [.ref r, .ref r'] ∧ RAt C H r a b ∧ RAt C H r' c d ∧ b ≠ 0 ∧ d ≠ 0 ∧
  a.natAbs < 2 ^ 900 ∧ b.natAbs < 2 ^ 900 ∧ c.natAbs < 2 ^ 900 ∧ d.natAbs < 2 ^ 900 ∧
  ∀ q H', H q = none → Same H H' → RAt C H' q (Rat0.top (a * c) (b * d)) (Rat0.bot (a * c) (b * d)) → Q (.ref q) H'
def spLess (C : Addr) : Sp := fun vs H Q _ => ∃ (r r' : Addr) (a b c d : Int), vs = [.ref r, .ref r'] ∧ RAt C H r a b ∧ RAt C H r' c d ∧
  a.natAbs < 2 ^ 900 ∧ b.natAbs < 2 ^ 900 ∧ c.natAbs < 2 ^ 900 ∧ d.natAbs < 2 ^ 900 ∧ Q (.bl (decide (a * d < c * b))) H
theorem mulB {i j : Int} (hi : i.natAbs < 2 ^ 900) (hj : j.natAbs < 2 ^ 900) : CMulU i j := mulW hi hj (by decide) (by decide) (by decide)

abbrev s_law_low : Stmt := topS 29
theorem sc_law_low : FnScope ["_law_upper", "_law_lower", "_law_one", "_law_other"] ["_law_upper", "_law_lower"] (defScope s_law_low) := ⟨rfl, rfl, rfl, by decide +kernel, rfl, by decide +kernel, by decide +kernel⟩
/-! ### the law's own reckoning -/
def spLow (K : PySem.W.Frag) : Sp := fun vs H Q _ => ∃ (t b : Int), vs = [.int t, .int b] ∧ b ≠ 0 ∧ b.natAbs < 2 ^ 2000 ∧
  ∀ p H', H p = none → Same H H' → H' p = some (.tup [.int (Rat0.top t b), .int (Rat0.bot t b)]) → Q (.ref p) H'
theorem ok_low {f : Addr} {fd : FuncData} (F : Fun K "_law_low" "_law_low" s_law_low f fd) (T : Txt K mg Z C_Ratio C_NoRatio C_Held C_Gone) : FnOk P w K mg base CX0 1 f fd ["_law_upper", "_law_lower"] (spLow K) := by
  refine F.ok sc_law_low (fun vs H Q E h => ?_) (fun cdv A outer s H vs Q E hr h => ?_)
  · obtain ⟨a, b, rfl, _⟩ := h
    rfl
  · obtain ⟨a, b, rfl, hb, hb2, k⟩ := h
    refine ⟨_, (pss_cons (ps_par (i := 2) (j := 3) (by rfl) sc_law_low.nd rfl rfl (by decide) rfl rfl (pa_cons (pe_callB cl_abs (by rfl) T.n_abs PyProof.Rows.boot_abs (pa_cons (pv 0) pa_nil)) (pa_cons (pe_callB cl_abs (by rfl) T.n_abs PyProof.Rows.boot_abs (pa_cons (pv 1) pa_nil)) pa_nil)) (by rfl))
 (pss_cons (ps_while PassesOwn.never (pt_cmpR op_gt (pv 3) pe_int (nomark _))
 (pss_one (ps_par (i := 2) (j := 3) (by rfl) sc_law_low.nd rfl rfl (by decide) rfl rfl (pa_cons (pv 3) (pa_cons (pe_op op_mod (pv 2) (pv 3)) pa_nil)) (by rfl))))
 (pss_cons (ps_if (pt_cmpR op_lt (pv 1) pe_int (nomark _))
 (pss_one (ps_set (i := 2) sc_law_low.nd rfl (.inl rfl) (pe_op op_sub pe_int (pv 2))))
 pss_nil)
 (pss_one (ps_ret (pe_tup (pa_cons (pe_op op_fdivU (pv 0) (pv 2)) (pa_cons (pe_op op_fdivU (pv 1) (pv 2)) pa_nil)))))))), ?_⟩
    wtm_at "w0"
    wtm_at "wp"
    refine ⟨fun m σ H' => H' = H ∧ ∃ x y : Nat, σ = [some (.int a), some (.int b), some (.int x), some (.int y)] ∧ Nat.gcd x y = Int.gcd a b ∧ y = m, ⟨b.natAbs, rfl, a.natAbs, b.natAbs, rfl, rfl, rfl⟩, ?_⟩
    rintro m σ H' ⟨rfl, x, y, rfl, e, rfl⟩
    wtm_at "wp"
    cases y with
    | zero =>
      refine iteF ?_
      rw [Nat.gcd_zero_right] at e
      subst e
      wtm_at "wp"
      refine w_dec (fun h => ?_) (fun h => ?_)
      · have eb : Rat0.by_ a b = -(Int.gcd a b : Int) := if_pos h
        have eb' : Rat0.by_ a b = 0 - (Int.gcd a b : Int) := by omega
        have hd : ∀ i, CDivU i (0 - (Int.gcd a b : Int)) := fun i => eb' ▸ divBy hb hb2
        wtm_at "wp"
        · exact hd _
        wtm_at "wp"
        · exact hd _
        wtm_at "wp"
        rename_i pN nN HN sN hN
        refine k _ _ nN sN ?_
        rw [hN, Rat0.top, Rat0.bot, eb']
      · have eb : Rat0.by_ a b = (Int.gcd a b : Int) := if_neg h
        have hd : ∀ i, CDivU i (Int.gcd a b : Int) := fun i => eb ▸ divBy hb hb2
        wtm_at "wp"
        · exact hd _
        wtm_at "wp"
        · exact hd _
        wtm_at "wp"
        rename_i pN nN HN sN hN
        refine k _ _ nN sN ?_
        rw [hN, Rat0.top, Rat0.bot, eb]
    | succ y =>
      refine w_dec (fun _ => ?_) (fun n => absurd (by omega) n)
      refine w_loopT ?_
      wtm_at "wp"
      refine ⟨(x % (y + 1)), Nat.mod_lt _ (Nat.succ_pos _), rfl, y + 1, x % (y + 1), rfl, ?_, rfl⟩
      rw [← e, Nat.gcd_comm x, Nat.gcd_rec (y + 1) x, Nat.gcd_comm]

abbrev s_law_is_ratio : Stmt := topS 30
theorem sc_law_is_ratio : FnScope ["_law_told", "_law_due", "_law_number"] ["_law_told", "_law_due"] (defScope s_law_is_ratio) := ⟨rfl, rfl, rfl, by decide +kernel, rfl, by decide +kernel, by decide +kernel⟩
def spIsRa (K : PySem.W.Frag) (C : Addr) : Sp := fun vs H Q _ => ∃ (r p : Addr) (a b : Int), vs = [.ref r, .ref p] ∧ RAt C H r a b ∧ SqT K H p [.int a, .int b] ∧ ∀ H', Same H H' → Q (.bl true) H'
theorem ok_isra {f : Addr} {fd : FuncData} (F : Fun K "_law_is_ratio" "_law_is_ratio" s_law_is_ratio f fd) (T : Txt K mg Z C_Ratio C_NoRatio C_Held C_Gone) : FnOk P w K mg base CX0 1 f fd ["_law_told", "_law_due"] (spIsRa K C_Ratio) := by
  have hc := T.cl_Ratio
  have h1 := T.na_Ratio_top
  have h2 := T.na_Ratio_bottom
  refine F.ok sc_law_is_ratio (fun vs H Q E h => ?_) (fun cdv A outer s H vs Q E hr h => ?_)
  · obtain ⟨r, p, a, b, rfl, _⟩ := h
    rfl
  · obtain ⟨r, p, a, b, rfl, ⟨dx, ho⟩, hp, k⟩ := h
    refine ⟨_, (pss_cons (ps_for PassesOwn.never rfl (pi_tup (pe_tup (pa_cons (pe_fld (pv 0) rfl) (pa_cons (pe_fld (pv 0) rfl) pa_nil)))) (pg_name (i := 2) sc_law_is_ratio.nd rfl (.inl rfl))
 (pss_one (ps_if (PW.pt (pw_or (pt_not (pt_val (pe_callB call_isi (by rfl) T.n_isinstance PyProof.Rows.boot_isinstance (pa_cons (pv 2) (pa_cons (pe_bltn (v := .ty "int") (by rfl) T.n_int PyProof.Rows.boot_int rfl) pa_nil))))) (pw_or1 (pt_val (pe_callB call_isi (by rfl) T.n_isinstance PyProof.Rows.boot_isinstance (pa_cons (pv 2) (pa_cons (pe_bltn (v := .ty "bool") (by rfl) T.n_bool PyProof.Rows.boot_bool rfl) pa_nil)))))))
 (pss_one (ps_ret pe_bl))
 pss_nil)))
 (pss_one (ps_ret (pe_cmpR (op_eqD hr.units) (pe_tup (pa_cons (pe_fld (pv 0) rfl) (pa_cons (pe_fld (pv 0) rfl) pa_nil))) (pv 1) (nomark _))))), ?_⟩
    wtm_at "w0"
    wtm_at "wp"
    rename_i q nq H1 s1 hq
    refine for_tup (xs := [.int a, .int b]) (fun i σ H' => H' = H1 ∧ ∃ v, σ = [some (.ref r), some (.ref p), v]) ⟨rfl, _, rfl⟩ (fun i σ H' _ ⟨e, _⟩ => e ▸ SqT.of hq) ?_ ?_
    · rintro i x σ H' hx ⟨rfl, v, rfl⟩
      obtain ⟨n, rfl⟩ : ∃ n, x = V.int n := by
        have := List.mem_of_getElem? hx
        simp at this
        rcases this with e | e <;> exact ⟨_, e⟩
      wtm_at "wp"
      exact ⟨rfl, _, rfl⟩
    · rintro σ H' ⟨rfl, v, rfl⟩
      wtm_at "wp"
      rename_i q2 nq2 H2 s2 hq2
      refine w_eqD (dp_t2 (SqT.of hq2)) (dp_t2 (by wtm_at "seq")) (by wtm_at "shp") (by wtm_at "shp") (k := true) (by simp [PyData.eqv, PyData.eqvAll]) ?_
      exact k _ (s1.trans s2)

abbrev s_Ratio___eq__ : Stmt := inClass (topS 25) 2
theorem sc_Ratio___eq__ : FnScope ["self", "other"] ["self", "other"] (defScope s_Ratio___eq__) := ⟨rfl, rfl, rfl, by decide +kernel, rfl, by decide +kernel, by decide +kernel⟩
/-- how two are seen to be alike -/
def RqR (K : PySem.W.Frag) (C : Addr) : Addr → V → Hp → Bool → Prop := fun a y H b => ∃ t u, RAt C H a t u ∧ ((∃ r t' u', y = .ref r ∧ RAt C H r t' u' ∧ b = decide (t = t' ∧ u = u')) ∨ (NotC K H C y ∧ b = false))
theorem ok_req {f : Addr} {fd : FuncData} (F : Fun K "__eq__" "Ratio.__eq__" s_Ratio___eq__ f fd) (T : Txt K mg Z C_Ratio C_NoRatio C_Held C_Gone) (kl : Kls K C_Ratio) : FnOk P w K mg base CX0 1 f fd ["self", "other"] (spEqb (RqR K C_Ratio)) := by
  have hc := T.cl_Ratio
  have h1 := T.na_Ratio_top
  have h2 := T.na_Ratio_bottom
  refine F.ok sc_Ratio___eq__ (fun vs H Q E h => ?_) (fun cdv A outer s H vs Q E hr h => ?_)
  · obtain ⟨a, y, b, rfl, _⟩ := h
    rfl
  · obtain ⟨a, y, b, rfl, ⟨t, u, ⟨d1, o1⟩, hy⟩, k⟩ := h
    refine ⟨_, (pss_cons (ps_if (pt_not (pt_val (pe_callB call_isi (by rfl) T.n_isinstance PyProof.Rows.boot_isinstance (pa_cons (pv 1) (pa_cons (pe_gcls T.m_Ratio rfl) pa_nil)))))
 (pss_one (ps_ret pe_bl))
 pss_nil)
 (pss_one (ps_ret (pe_and (pe_cmpR op_eq (pe_fld (pv 0) rfl) (pe_fld (pv 1) rfl) (nomark _)) (pe_one (pe_cmpR op_eq (pe_fld (pv 0) rfl) (pe_fld (pv 1) rfl) (nomark _))))))), ?_⟩
    wtm_at "w0"
    wtm_at "wp"
    rcases hy with ⟨r, t', u', rfl, ⟨d2, o2⟩, rfl⟩ | ⟨⟨tv, ht, hk⟩, rfl⟩
    · refine w_isiO (kl.ty o2) kit_self ?_
      wtm_at "wp"
      refine w_dec (fun e1 => ?_) (fun e1 => ?_)
      · wtm_at "wp"
        have e : decide (V.int u = V.int u') = decide (t = t' ∧ u = u') := by
          rw [decide_eq_decide]
          exact ⟨fun z => ⟨V.int.inj e1, V.int.inj z⟩, fun z => by rw [z.2]⟩
        rw [e]
        exact k _ (.refl _)
      · have e : decide (t = t' ∧ u = u') = false := decide_eq_false fun z => e1 (by rw [z.1])
        rw [e] at k
        exact k _ (.refl _)
    · refine w_isiO ht hk ?_
      wtm_at "wp"
      exact k _ (.refl _)

end
end K31

namespace K31
section
variable {P : Program} {w : World} {K : PySem.W.Frag} {mg : Str → Option Value} {base : Heap} {Z : Zs} {C_Ratio C_NoRatio C_Held C_Gone : Addr}
abbrev s_Ratio___str__ : Stmt := inClass (topS 25) 4
theorem sc_Ratio___str__ : FnScope ["self"] ["self"] (defScope s_Ratio___str__) := ⟨rfl, rfl, rfl, by decide +kernel, rfl, by decide +kernel, by decide +kernel⟩
abbrev s_Ratio___repr__ : Stmt := inClass (topS 25) 3
theorem sc_Ratio___repr__ : FnScope ["self"] ["self"] (defScope s_Ratio___repr__) := ⟨rfl, rfl, rfl, by decide +kernel, rfl, by decide +kernel, by decide +kernel⟩
def numS (i : Int) : Str := (toString i : String)
theorem numS_len {i : Int} (h : i.natAbs < 10 ^ 300) : (numS i).length ≤ 301 := by
  show (Str.ofString (toString i)).length ≤ 301
  rw [ofString_length]
  exact int_text_length_le10 (by decide) h
theorem lg300 {i : Int} (h : i.natAbs < 10 ^ 300) : i.natAbs.log2 < 1920 := PySem.Flt.log2_lt_of (by decide) (Nat.lt_trans h (by decide +kernel))
theorem str_e0 (x : Str) : Str.empty ++ x = x := str_ext (by
  rw [cps_append]
  rfl)
def ratS (t b : Int) : Str := if b = 1 then numS t else numS t ++ "/" ++ numS b
def ratR (t b : Int) : Str := "Ratio(" ++ numS t ++ ", " ++ numS b ++ ")"
def spRStr (C : Addr) : Sp := fun vs H Q _ => ∃ (r : Addr) (t b : Int), vs = [.ref r] ∧ RAt C H r t b ∧ t.natAbs < 10 ^ 300 ∧ b.natAbs < 10 ^ 300 ∧ Q (.str (ratS t b)) H
theorem ok_rstr {f : Addr} {fd : FuncData} (F : Fun K "__str__" "Ratio.__str__" s_Ratio___str__ f fd) (T : Txt K mg Z C_Ratio C_NoRatio C_Held C_Gone) : FnOk P w K mg base CX0 1 f fd ["self"] (spRStr C_Ratio) := by
  have hc := T.cl_Ratio
  have h1 := T.na_Ratio_top
  have h2 := T.na_Ratio_bottom
  refine F.ok sc_Ratio___str__ (fun vs H Q E h => ?_) (fun cdv A outer s H vs Q E hr h => ?_)
  · obtain ⟨r, t, b, rfl, _⟩ := h
    rfl
  · obtain ⟨r, t, b, rfl, ⟨d, hp⟩, ht, hb, k⟩ := h
    refine ⟨_, (pss_cons (ps_if (pt_cmpR op_eq (pe_fld (pv 0) rfl) pe_int (nomark _))
 (pss_one (ps_ret (pe_callTy cl_str (by rfl) T.n_str PyProof.Rows.boot_str (pa_cons (pe_fld (pv 0) rfl) pa_nil))))
 pss_nil)
 (pss_one (ps_ret (pe_fj (.cons (pe_fmt (pe_fld (pv 0) rfl)) (.cons pe_str (.cons (pe_fmt (pe_fld (pv 0) rfl)) .nil))))))), ?_⟩
    wtm_at "w0"
    wtm_at "wp"
    refine w_dec (fun e => ?_) (fun e => ?_)
    · have eb : b = 1 := V.int.inj e
      wtm_at "wp"
      refine w_strI (Nat.lt_trans ht (by decide +kernel)) ?_
      rw [ratS, if_pos eb] at k
      exact k
    · have eb : b ≠ 1 := fun z => e (by rw [z])
      rw [ratS, if_neg eb] at k
      wtm_at "wp"
      have hn := numS_len ht
      have hm := numS_len hb
      have l0 : Str.empty.length = 0 := rfl
      have l1 : ("/" : Str).length = 1 := rfl
      refine .inr ⟨t, rfl, lg300 ht, numS t, rfl, sz (by rw [Str.length_append]; omega), ?_⟩
      wtm_at "wp"
      refine ⟨sz (by rw [Str.length_append, Str.length_append]; omega), ?_⟩
      wtm_at "wp"
      refine .inr ⟨b, rfl, lg300 hb, numS b, rfl, sz (by rw [Str.length_append, Str.length_append, Str.length_append]; omega), ?_⟩
      wtm_at "wp"
      have e : Str.empty ++ numS t ++ ("/" : Str) ++ numS b = numS t ++ "/" ++ numS b := by rw [str_e0]
      rw [e]
      exact k
def spRRepr (C : Addr) : Sp := fun vs H Q _ => ∃ (r : Addr) (t b : Int), vs = [.ref r] ∧ RAt C H r t b ∧ t.natAbs < 10 ^ 300 ∧ b.natAbs < 10 ^ 300 ∧ Q (.str (ratR t b)) H
theorem ok_rrepr {f : Addr} {fd : FuncData} (F : Fun K "__repr__" "Ratio.__repr__" s_Ratio___repr__ f fd) (T : Txt K mg Z C_Ratio C_NoRatio C_Held C_Gone) : FnOk P w K mg base CX0 1 f fd ["self"] (spRRepr C_Ratio) := by
  have hc := T.cl_Ratio
  have h1 := T.na_Ratio_top
  have h2 := T.na_Ratio_bottom
  refine F.ok sc_Ratio___repr__ (fun vs H Q E h => ?_) (fun cdv A outer s H vs Q E hr h => ?_)
  · obtain ⟨r, t, b, rfl, _⟩ := h
    rfl
  · obtain ⟨r, t, b, rfl, ⟨d, hp⟩, ht, hb, k⟩ := h
    refine ⟨_, (pss_one (ps_ret (pe_fj (.cons pe_str (.cons (pe_fmt (pe_fld (pv 0) rfl)) (.cons pe_str (.cons (pe_fmt (pe_fld (pv 0) rfl)) (.cons pe_str .nil)))))))), ?_⟩
    wtm_at "w0"
    wtm_at "wp"
    have hn := numS_len ht
    have hm := numS_len hb
    have l0 : Str.empty.length = 0 := rfl
    have l1 : ("Ratio(" : Str).length = 6 := by decide +kernel
    have l2 : (", " : Str).length = 2 := rfl
    have l3 : (")" : Str).length = 1 := rfl
    refine ⟨by decide +kernel, ?_⟩
    wtm_at "wp"
    refine .inr ⟨t, rfl, lg300 ht, numS t, rfl, sz (by rw [Str.length_append, Str.length_append]; omega), ?_⟩
    wtm_at "wp"
    refine ⟨sz (by rw [Str.length_append, Str.length_append, Str.length_append]; omega), ?_⟩
    wtm_at "wp"
    refine .inr ⟨b, rfl, lg300 hb, numS b, rfl, sz (by rw [Str.length_append, Str.length_append, Str.length_append, Str.length_append]; omega), ?_⟩
    wtm_at "wp"
    refine ⟨sz (by rw [Str.length_append, Str.length_append, Str.length_append, Str.length_append, Str.length_append]; omega), ?_⟩
    wtm_at "wp"
    rw [str_e0]
    exact k

end
end K31

namespace K31
section
variable {P : Program} {w : World} {K : PySem.W.Frag} {mg : Str → Option Value} {base : Heap} {Z : Zs} {C_Ratio C_NoRatio C_Held C_Gone : Addr}
abbrev s_law_purse : Stmt := topS 27
theorem sc_law_purse : FnScope ["_law_script", "_law_at", "_law_cell", "_law_great"] ["_law_script", "_law_at"] (defScope s_law_purse) := ⟨rfl, rfl, rfl, by decide +kernel, rfl, by decide +kernel, by decide +kernel⟩
abbrev s_law_take : Stmt := topS 28
theorem sc_law_take : FnScope ["_law_purse_here", "_law_many", "_law_digit", "_law_one"] ["_law_purse_here", "_law_many"] (defScope s_law_take) := ⟨rfl, rfl, rfl, by decide +kernel, rfl, by decide +kernel, by decide +kernel⟩
/-! ### draws -/
/-- a purse at p: three numbers -/
def Purse (H : Hp) (p : Addr) (n : Nat) : Prop := ∃ a b c : Int, H p = some (.lst [.int a, .int b, .int c]) ∧ 0 ≤ a ∧ 0 ≤ b ∧ b < 10 ^ 30 ∧ 0 ≤ c ∧ c ≤ n
theorem Purse.mono {H H' : Hp} {p : Addr} {n n' : Nat} (h : Purse H p n) (e : Same H H') (hn : n ≤ n') : Purse H' p n' := by
  obtain ⟨a, b, c, h, h1, h2, h3, h4, h5⟩ := h
  exact ⟨a, b, c, e _ _ h, h1, h2, h3, h4, by omega⟩
def spTake : Sp := fun vs H Q _ => ∃ (p : Addr) (m : Int) (n : Nat), vs = [.ref p, .int m] ∧ Purse H p n ∧ n ≤ 10 ^ 9 ∧ 0 < m ∧ m ≤ 10 ^ 16 ∧
  ∀ (d : Int) H', 0 ≤ d → d < m → KB p H H' → Purse H' p (n + 1) → Q (.int d) H'
theorem ok_take {f : Addr} {fd : FuncData} (F : Fun K "_law_take" "_law_take" s_law_take f fd) : FnOk P w K mg base CX0 1 f fd ["_law_purse_here", "_law_many"] spTake := by
  refine F.ok sc_law_take (fun vs H Q E h => ?_) (fun cdv A outer s H vs Q E hr h => ?_)
  · obtain ⟨p, m, n, rfl, _⟩ := h
    rfl
  · obtain ⟨p, m, n, rfl, ⟨a, b, c, hp, ha, hb, hb2, hc, hc2⟩, hn, hm, hm2, k⟩ := h
    have hb2' : b < 1000000000000000000000000000000 := hb2
    have hn' : n ≤ 1000000000 := hn
    have hm2' : m ≤ 10000000000000000 := hm2
    have hcc : (c + 1) * (c + 1) ≤ 1000000001 * 1000000001 := Int.mul_le_mul (by omega) (by omega) (by omega) (by omega)
    have hcc0 : 0 ≤ (c + 1) * (c + 1) := Int.mul_nonneg (by omega) (by omega)
    refine ⟨_, (pss_cons (ps_if (pt_cmpR op_gt (pe_ix ix_list (pv 0) pe_int (fun _ _ => rfl)) pe_int (nomark _))
 (pss_cons (ps_set (i := 2) sc_law_take.nd rfl (.inl rfl) (pe_op op_mod (pe_ix ix_list (pv 0) pe_int (fun _ _ => rfl)) (pv 1)))
 (pss_cons (ps_asg (pe_op op_fdivU (pe_ix ix_list (pv 0) pe_int (fun _ _ => rfl)) (pv 1)) (pg_sub (pv 0) pe_int set_list))
 (pss_one (ps_ret (pv 2)))))
 pss_nil)
 (pss_cons (ps_asg (pe_op op_add (pe_ix ix_list (pv 0) pe_int (fun _ _ => rfl)) pe_int) (pg_sub (pv 0) pe_int set_list))
 (pss_cons (ps_set (i := 3) sc_law_take.nd rfl (.inl rfl) (pe_op op_mod (pe_op op_powU (pe_op op_add (pe_ix ix_list (pv 0) pe_int (fun _ _ => rfl)) (pe_op op_mulU (pe_op op_mulU pe_int (pe_ix ix_list (pv 0) pe_int (fun _ _ => rfl))) (pe_ix ix_list (pv 0) pe_int (fun _ _ => rfl)))) pe_int) pe_int))
 (pss_one (ps_ret (pe_op op_mod (pe_op op_fdivU (pe_op op_mod (pe_op op_add (pe_op op_mulU (pv 3) (pe_op op_add (pv 3) pe_int)) (pe_ix ix_list (pv 0) pe_int (fun _ _ => rfl))) pe_int) pe_int) (pv 1))))))), ?_⟩
    wtm_at "w0"
    wtm_at "wp"
    refine w_dec (fun h0 => ?_) (fun h0 => ?_)
    · wtm_at "wp"
      rename_i H1 k1 e1
      refine k _ _ (Int.emod_nonneg _ (by omega)) (Int.emod_lt_of_pos _ hm) k1 ⟨_, _, _, e1, ?_, hb, hb2, hc, by omega⟩
      rw [Int.fdiv_eq_ediv_of_nonneg _ (Int.le_of_lt hm)]
      exact Int.ediv_nonneg ha (Int.le_of_lt hm)
    · wtm_at "wp"
      · refine powU (a := 200) ?_ (by decide) (by decide) (by decide)
        rw [Int.mul_assoc]
        omega
      wtm_at "wp"
      rename_i H1 k1 e1
      exact k _ _ (Int.emod_nonneg _ (by omega)) (Int.emod_lt_of_pos _ hm) k1 ⟨_, _, _, e1, ha, hb, hb2, by omega, by omega⟩
def spPurse (K : PySem.W.Frag) : Sp := fun vs H Q _ => ∃ (a : Addr) (ns : List Int) (j : Nat), vs = [.ref a, .int j] ∧ SqL K H a (ns.map V.int) ∧ j ≤ 63 ∧
  ∀ p H', H p = none → Same H H' → Purse H' p 0 → Q (.ref p) H'
theorem purse_num {c : Int} {j : Nat} (hj : j ≤ 63) : 0 ≤ c % 1000000000000000000 * 1000003 + 7919 * j + 17 ∧ c % 1000000000000000000 * 1000003 + 7919 * j + 17 < 10 ^ 30 := by
  have h1 := Int.emod_nonneg c (show (1000000000000000000 : Int) ≠ 0 by decide)
  have h2 := Int.emod_lt_of_pos c (show (0 : Int) < 1000000000000000000 by decide)
  constructor <;> omega
theorem ok_purse {f : Addr} {fd : FuncData} (F : Fun K "_law_purse" "_law_purse" s_law_purse f fd) (T : Txt K mg Z C_Ratio C_NoRatio C_Held C_Gone) : FnOk P w K mg base CX0 1 f fd ["_law_script", "_law_at"] (spPurse K) := by
  refine F.ok sc_law_purse (fun vs H Q E h => ?_) (fun cdv A outer s H vs Q E hr h => ?_)
  · obtain ⟨a, ns, j, rfl, _⟩ := h
    rfl
  · obtain ⟨a, ns, j, rfl, hS, hj, k⟩ := h
    refine ⟨_, (pss_cons (ps_set (i := 2) sc_law_purse.nd rfl (.inl rfl) pe_int)
 (pss_cons (ps_if (pt_cmpR op_lt (pv 1) (pe_callB cl_len (by rfl) T.n_len PySem.boot_len (pa_cons (pv 0) pa_nil)) (nomark _))
 (pss_one (ps_set (i := 2) sc_law_purse.nd rfl (.inl rfl) (pe_ix ix_list (pv 0) (pv 1) (fun _ _ => rfl))))
 pss_nil)
 (pss_cons (ps_set (i := 3) sc_law_purse.nd rfl (.inl rfl) (pe_op op_mulU (pe_callB cl_abs (by rfl) T.n_abs PyProof.Rows.boot_abs (pa_cons (pv 2) pa_nil)) (pe_callTy cl_int (by rfl) T.n_int PyProof.Rows.boot_int (pa_cons (pe_cmpR op_ge (pe_callB cl_abs (by rfl) T.n_abs PyProof.Rows.boot_abs (pa_cons (pv 2) pa_nil)) (pe_op op_powU pe_int pe_int) (nomark _)) pa_nil))))
 (pss_one (ps_ret (pe_lst (pa_cons (pv 3) (pa_cons (pe_op op_add (pe_op op_add (pe_op op_mulU (pe_op op_mod (pv 2) (pe_op op_powU pe_int pe_int)) pe_int) (pe_op op_mulU pe_int (pv 1))) pe_int) (pa_cons pe_int pa_nil))))))))), ?_⟩
    wtm_at "w0"
    wtm_at "wp"
    refine w_dec (fun h0 => ?_) (fun h0 => ?_)
    · have hl : j < ns.length := by
        rw [List.length_map] at h0
        omega
      have hx : atI (ns.map V.int) (j : Int) = some (.int ns[j]) := atI_nat (by rw [List.getElem?_map, List.getElem?_eq_getElem hl]; rfl)
      wtm_at "wp"
      rename_i p np H1 s1 hp
      exact k _ _ np s1 ⟨_, _, _, hp, Int.mul_nonneg (by omega) (by split <;> omega), (purse_num hj).1, (purse_num hj).2, by omega, by omega⟩
    · wtm_at "wp"
      rename_i p np H1 s1 hp
      exact k _ _ np s1 ⟨_, _, _, hp, Int.mul_nonneg (by omega) (by split <;> omega), (purse_num hj).1, (purse_num hj).2, by omega, by omega⟩

abbrev s_law_far : Stmt := topS 33
theorem sc_law_far : FnScope ["_law_purse_here", "_law_small", "_law_sign", "_law_got", "_law_nth"] ["_law_purse_here"] (defScope s_law_far) := ⟨rfl, rfl, rfl, by decide +kernel, rfl, by decide +kernel, by decide +kernel⟩
def spFar : Sp := fun vs H Q _ => ∃ (p : Addr) (n : Nat), vs = [.ref p] ∧ Purse H p n ∧ n ≤ 10 ^ 8 ∧
  ∀ (d : Int) H', d.natAbs < 10 ^ 245 → KB p H H' → Purse H' p (n + 40) → Q (.int d) H'
theorem far_turn {g d : Int} {i : Nat} (h0 : 0 ≤ g) (h : g < 10 ^ (5 + 8 * i)) (d0 : 0 ≤ d) (hd : d < 100000000) : 0 ≤ g * 100000000 + d ∧ g * 100000000 + d < 10 ^ (5 + 8 * (i + 1)) := by
  have e : (10 : Int) ^ (5 + 8 * (i + 1)) = 10 ^ (5 + 8 * i) * 100000000 := by
    rw [show 5 + 8 * (i + 1) = (5 + 8 * i) + 8 by omega, Int.pow_add]
    rfl
  rw [e]
  generalize (10 : Int) ^ (5 + 8 * i) = z at *
  constructor
  · have := Int.mul_nonneg h0 (show (0 : Int) ≤ 100000000 by decide)
    omega
  · have := Int.mul_le_mul_of_nonneg_right (show g + 1 ≤ z by omega) (show (0 : Int) ≤ 100000000 by decide)
    omega
theorem far_le {g : Int} {i : Nat} (h0 : 0 ≤ g) (h : g < 10 ^ (5 + 8 * i)) (hi : i ≤ 30) : g.natAbs < 10 ^ 245 := by
  have h0' := Nat.pow_le_pow_right (show 10 > 0 by decide) (show 5 + 8 * i ≤ 245 by omega)
  have h1 : ((10 ^ (5 + 8 * i) : Nat) : Int) ≤ ((10 ^ 245 : Nat) : Int) := Int.ofNat_le.mpr h0'
  rw [Int.natCast_pow (n := 5 + 8 * i)] at h1
  have h3 : ((10 : Nat) : Int) = 10 := rfl
  rw [h3] at h1
  generalize (10 : Nat) ^ 245 = z at *
  generalize (10 : Int) ^ (5 + 8 * i) = y at *
  omega
theorem far_mul {g : Int} (h : g.natAbs < 10 ^ 245) {j : Int} (hj : j.natAbs < 2 ^ 64) : CMulU g j := mulW (Nat.lt_trans h (by decide +kernel : (10:Nat) ^ 245 < 2 ^ 900)) hj (by decide) (by decide) (by decide)
theorem ok_far {f : Addr} {fd : FuncData} (F : Fun K "_law_far" "_law_far" s_law_far f fd) (T : Txt K mg Z C_Ratio C_NoRatio C_Held C_Gone) (f__law_take : Fn P w K mg base "_law_take" 1 ["_law_purse_here", "_law_many"] spTake) : FnOk P w K mg base CX0 2 f fd ["_law_purse_here"] spFar := by
  refine F.ok sc_law_far (fun vs H Q E h => ?_) (fun cdv A outer s H vs Q E hr h => ?_)
  · obtain ⟨p, n, rfl, _⟩ := h
    rfl
  · obtain ⟨p, n, rfl, hp, hn, k⟩ := h
    have hn' : n ≤ 100000000 := hn
    refine ⟨_, (pss_cons (ps_set (i := 1) sc_law_far.nd rfl (.inl rfl) (pe_cmpR op_eq (pe_fn f__law_take (hr.mono (by omega)) rfl (pa_cons (pv 0) (pa_cons pe_int pa_nil))) pe_int (nomark _)))
 (pss_cons (ps_set (i := 2) sc_law_far.nd rfl (.inl rfl) (pe_op op_sub pe_int (pe_op op_mulU pe_int (pe_fn f__law_take (hr.mono (by omega)) rfl (pa_cons (pv 0) (pa_cons pe_int pa_nil))))))
 (pss_cons (ps_if (pt_val (pv 1))
 (pss_one (ps_ret (pe_op op_mulU (pv 2) (pe_fn f__law_take (hr.mono (by omega)) rfl (pa_cons (pv 0) (pa_cons pe_int pa_nil))))))
 pss_nil)
 (pss_cons (ps_set (i := 3) sc_law_far.nd rfl (.inl rfl) (pe_fn f__law_take (hr.mono (by omega)) rfl (pa_cons (pv 0) (pa_cons (pe_op op_powU pe_int pe_int) pa_nil))))
 (pss_cons (ps_for PassesOwn.never rfl (pi_range1 (by rfl) T.n_range (pa_cons (pe_ix ix_list (pe_lst (pa_cons (pe_fn f__law_take (hr.mono (by omega)) rfl (pa_cons (pv 0) (pa_cons pe_int pa_nil))) (pa_cons pe_int pa_nil))) (pe_callTy cl_int (by rfl) T.n_int PyProof.Rows.boot_int (pa_cons (pe_cmpR op_eq (pe_fn f__law_take (hr.mono (by omega)) rfl (pa_cons (pv 0) (pa_cons pe_int pa_nil))) pe_int (nomark _)) pa_nil)) (fun _ _ => rfl)) pa_nil)) (pg_name (i := 4) sc_law_far.nd rfl (.inl rfl))
 (pss_one (ps_set (i := 3) sc_law_far.nd rfl (.inl rfl) (pe_op op_add (pe_op op_mulU (pv 3) (pe_op op_powU pe_int pe_int)) (pe_fn f__law_take (hr.mono (by omega)) rfl (pa_cons (pv 0) (pa_cons (pe_op op_powU pe_int pe_int) pa_nil)))))))
 (pss_one (ps_ret (pe_op op_mulU (pv 2) (pv 3))))))))), ?_⟩
    wtm_at "w0"
    wtm_at "wp"
    refine ⟨p, 4, n, rfl, hp, by omega, by decide, by decide, fun d1 H1 d10 d11 k1 p1 => ?_⟩
    wtm_at "wp"
    refine ⟨p, 2, _, rfl, p1, by omega, by decide, by decide, fun d2 H2 d20 d21 k2 p2 => ?_⟩
    wtm_at "wp"
    have hs : (1 - 2 * d2).natAbs = 1 := by omega
    have hm : ∀ x : Int, ((1 - 2 * d2) * x).natAbs = x.natAbs := fun x => by rw [Int.natAbs_mul, hs, Nat.one_mul]
    have he12 : (12 : Nat) < 10 ^ 245 := by decide +kernel
    refine w_dec (fun _ => ?_) (fun _ => ?_)
    · wtm_at "wp"
      refine ⟨p, 12, _, rfl, p2, by omega, by decide, by decide, fun d3 H3 d30 d31 k3 p3 => ?_⟩
      wtm_at "wp"
      refine k _ _ ?_ (k1.trans (k2.trans k3)) (p3.mono (Same.refl _) (by omega))
      rw [hm]
      exact Nat.lt_trans (by omega : d3.natAbs < 12) he12
    · wtm_at "wp"
      refine ⟨p, _, _, rfl, p2, by omega, by decide, by decide, fun d3 H3 d30 d31 k3 p3 => ?_⟩
      wtm_at "wp"
      refine ⟨p, 6, _, rfl, p3, by omega, by decide, by decide, fun d4 H4 d40 d41 k4 p4 => ?_⟩
      wtm_at "wp"
      rename_i l5 n5 H5 s5 h5
      have p5 := p4.mono s5 (Nat.le_refl _)
      have np5 : l5 ≠ p := fun z => by obtain ⟨_, _, _, hx, _⟩ := p4; rw [z, hx] at n5; cases n5
      refine ⟨p, 8, _, rfl, p5, by omega, by decide, by decide, fun d6 H6 d60 d61 k6 p6 => ?_⟩
      have h6 := k6 _ _ h5 np5
      have KK : KB p H H6 := k1.trans (k2.trans (k3.trans (k4.trans ((KB.of s5).trans k6))))
      clear k1 k2 k3 k4 s5 k6 p1 p2 p3 p4 p5 h5
      wtm_at "wp"
      obtain ⟨m, hm30, hat⟩ : ∃ m : Nat, m ≤ 30 ∧ atI [V.int d4, V.int 30] (if decide (V.int d6 = V.int 5) = true then 1 else 0) = some (.int m) := by
        obtain ⟨m4, rfl⟩ := Int.eq_ofNat_of_zero_le d40
        split
        · exact ⟨30, Nat.le_refl _, rfl⟩
        · exact ⟨m4, by omega, rfl⟩
      refine w_ixL (.of h6) hat ?_
      wtm_at "wp"
      refine ⟨m, rfl, by omega, by omega, for_range (n := m) (fun i σ H' => ∃ (g : Int) (v : Option V), σ = [some (.ref p), some (.bl (decide (V.int d1 = V.int 0))), some (.int (1 - 2 * d2)), some (.int g), v] ∧ 0 ≤ g ∧ g < 10 ^ (5 + 8 * i) ∧ KB p H H' ∧ Purse H' p (n + 5 + i)) ?_ ?_ ?_⟩
      · exact ⟨d3, none, rfl, d30, d31, KK, p6.mono (Same.refl _) (by omega)⟩
      · rintro i σ H7 hi ⟨g, v, rfl, g0, g1, k7, p7⟩
        have gb := far_le g0 g1 (by omega)
        wtm_at "wp"
        refine ⟨p, _, _, rfl, p7, by omega, by decide, by decide, fun d8 H8 d80 d81 k8 p8 => ?_⟩
        wtm_at "wp"
        have tt := far_turn g0 g1 d80 d81
        exact ⟨_, _, rfl, tt.1, tt.2, k7.trans k8, p8.mono (Same.refl _) (by omega)⟩
      · rintro σ H7 ⟨g, v, rfl, g0, g1, k7, p7⟩
        have gb := far_le g0 g1 hm30
        wtm_at "wp"
        refine k _ _ ?_ k7 (p7.mono (Same.refl _) (by omega))
        rw [hm]
        exact gb

end
end K31

namespace K31
section
variable {P : Program} {w : World} {K : PySem.W.Frag} {mg : Str → Option Value} {base : Heap} {Z : Zs} {C_Ratio C_NoRatio C_Held C_Gone : Addr}
/-! ### a ratio refused -/
def figB : V → Bool
  | .int i => decide (i.natAbs < 10 ^ 300)
  | _ => false
def spFigA : Sp := fun vs H Q _ => ∃ v, vs = [v] ∧ Thg H v ∧ Q (.bl (figB v)) H
theorem fig_cmp (i : Int) : (decide (-(10 : Int) ^ 300 < i) && decide (i < (10 : Int) ^ 300)) = decide (i.natAbs < 10 ^ 300) := by
  have e : ((10 : Nat) ^ 300 : Nat) = ((10 : Int) ^ 300) := rfl
  generalize (10 : Int) ^ 300 = z at *
  generalize (10 : Nat) ^ 300 = y at *
  rw [← Bool.decide_and, decide_eq_decide]
  omega
theorem ok_figA {f : Addr} {fd : FuncData} (F : Fun K "is_figured" "is_figured" s_is_figured f fd) (T : Txt K mg Z C_Ratio C_NoRatio C_Held C_Gone) : FnOk P w K mg base CX0 1 f fd ["thing"] spFigA := by
  refine F.ok sc_is_figured (fun vs H Q E h => ?_) (fun cdv A outer s H vs Q E hr h => ?_)
  · obtain ⟨a, rfl, _⟩ := h
    rfl
  · obtain ⟨v, rfl, hv, k⟩ := h
    refine ⟨_, (pss_one (ps_ret (pe_and (pe_callB call_isi (by rfl) T.n_isinstance PyProof.Rows.boot_isinstance (pa_cons (pv 0) (pa_cons (pe_bltn (v := .ty "int") (by rfl) T.n_int PyProof.Rows.boot_int rfl) pa_nil))) (pe_and (pe_not (pe_callB call_isi (by rfl) T.n_isinstance PyProof.Rows.boot_isinstance (pa_cons (pv 0) (pa_cons (pe_bltn (v := .ty "bool") (by rfl) T.n_bool PyProof.Rows.boot_bool rfl) pa_nil)))) (pe_one (pe_chain op_lt op_lt (pe_un un_neg (pe_gint T.c_FARTHEST rfl)) (pv 0) (pe_gint T.c_FARTHEST rfl))))))), ?_⟩
    wtm_at "w0"
    cases hv with
    | int i =>
      have fc := fig_cmp i
      have k' : Q (.bl (decide (i.natAbs < 10 ^ 300))) H := k
      rw [← fc] at k'
      clear fc k
      generalize (10 : Int) ^ 300 = z at *
      wtm_at "wp"
      by_cases h1 : -z < i
      · refine iteT' (decide_eq_true h1) ?_
        rw [decide_eq_true h1, Bool.true_and] at k'
        wtm_at "wp"
        exact k'
      · refine iteF' (decide_eq_false h1) ?_
        rw [decide_eq_false h1, Bool.false_and] at k'
        wtm_at "wp"
        exact k'
    | _ => wtm_at "wp"; exact k
def spRInitX (C C0 : Addr) (Z : Zs) : Sp := fun vs H _ E => ∃ (r d : Addr) (t b : V), vs = [.ref r, t, b] ∧ H r = some (.ins C d []) ∧ Thg H t ∧ Thg H b ∧
  (((figB t && figB b) = false ∧ E (.ref Z.NoNumber) none H) ∨ ∃ i : Int, t = .int i ∧ i.natAbs < 10 ^ 300 ∧ b = .int 0 ∧ E (.ref C0) none H)
theorem ok_rinitX {f : Addr} {fd : FuncData} (F : FunD K "__init__" "Ratio.__init__" (defArgs s_Ratio___init__) (defBody s_Ratio___init__) (defScope s_Ratio___init__) [.int 1] [] f fd) (T : Txt K mg Z C_Ratio C_NoRatio C_Held C_Gone) (f_is_figured : Fn P w K mg base "is_figured" 1 ["thing"] spFigA)
    (f_common_part : Fn P w K mg base "common_part" 1 ["one", "other"] spGcd) (me_Ratio_set_lowest : Me P w K mg base C_Ratio "set_lowest" 2 ["self", "top", "bottom"] (spRSet C_Ratio)) : FnOk P w K mg base (L2.CX P w) 3 f fd ["self", "top", "bottom"] (spRInitX C_Ratio C_NoRatio Z) := by
  have hc := T.cl_Ratio
  have h1 := T.na_Ratio_top
  have h2 := T.na_Ratio_bottom
  refine F.ok sc_Ratio___init__ (fun vs H Q E h => ?_) (fun cdv A outer s H vs Q E hr h => ?_)
  · obtain ⟨r, dx, t, b, rfl, _⟩ := h
    rfl
  · obtain ⟨r, dx, t, b, rfl, ho, ht, hb, k⟩ := h
    refine ⟨_, (pss_cons (ps_if (PW.pt (pw_or (pt_not (pt_val (pe_fn f_is_figured (hr.mono (by omega)) rfl (pa_cons (pv 1) pa_nil)))) (pw_or1 (pt_not (pt_val (pe_fn f_is_figured (hr.mono (by omega)) rfl (pa_cons (pv 2) pa_nil)))))))
 (pss_one (ps_raise rfl takesX (pmk_ownV T.x_NoNumber T.m_NoNumber rfl)))
 pss_nil)
 (pss_cons (ps_try_mar rfl rfl rfl (show List.Nodup _ from sc_Ratio___init__.nd) (TakesC.of takesX) (by intro x hx; simp only [List.mem_cons, List.not_mem_nil, or_false] at hx; subst hx; simp) (fun W pn xe tkW po => (pss_one (ps_fldT (pv 0) (pe_fdivX rfl tkW (pv 1) (pv 2)) rfl)))
 (.cons (.one (names_blt (by rfl) T.n_ZeroDivisionError boot_ZeroDivisionError)) (i := 3) rfl rfl (fun a oe cls d pn xe hz hf hot tks =>
 (pss_one (ps_rsfE (n := "e") (i := 3) hot hz hf tks (pmk_ownZ5 T.x_NoRatio T.m_NoRatio rfl) rfl rfl))) .nil))
 (pss_cons (ps_fld (pv 0) pe_int rfl)
 (pss_one (ps_expr (pe_me (pv 0) T.cl_Ratio me_Ratio_set_lowest (hr.mono (by omega)) (pa_cons (pv 1) (pa_cons (pv 2) pa_nil)))))))), ?_⟩
    wtm_at "w0"
    wtm_at "wp"
    refine ⟨t, rfl, ht, ?_⟩
    have ki : ∀ i : Int, i.natAbs < 10 ^ 300 → figB (.int i) = true := fun i hi => decide_eq_true hi
    cases hft : figB t with
    | false =>
      rcases k with ⟨_, ke⟩ | ⟨i, rfl, hi, _⟩
      · wtm_at "wp"
        exact ke
      · rw [ki i hi] at hft
        cases hft
    | true =>
      wtm_at "wp"
      refine ⟨b, rfl, hb, ?_⟩
      rcases k with ⟨k0, ke⟩ | ⟨i, rfl, hi, rfl, ke⟩
      · rw [hft, Bool.true_and] at k0
        rw [k0]
        wtm_at "wp"
        exact ke
      · rw [ki 0 (by decide +kernel)]
        wtm_at "wp"
        refine ⟨_, rfl, _, rfl, i, 0, rfl, rfl, by decide, fun _ d => ⟨true, exm_ZDs, fun _ a _ => ⟨rfl, exm_ZDb, ke⟩, fun z => by cases z⟩, fun z => absurd rfl z⟩

end
end K31

namespace K31
section
variable {P : Program} {w : World} {K : PySem.W.Frag} {mg : Str → Option Value} {base : Heap} {Z : Zs} {C_Ratio C_NoRatio C_Held C_Gone : Addr}
abbrev s_law_shown : Stmt := topS 34
theorem sc_law_shown : FnScope ["_law_due"] ["_law_due"] (defScope s_law_shown) := ⟨rfl, rfl, rfl, by decide +kernel, rfl, by decide +kernel, by decide +kernel⟩
def spShown (K : PySem.W.Frag) : Sp := fun vs H Q _ => ∃ (p : Addr) (t b : Int), vs = [.ref p] ∧ SqT K H p [.int t, .int b] ∧ t.natAbs < 10 ^ 300 ∧ b.natAbs < 10 ^ 300 ∧ Q (.str (ratS t b)) H
theorem lt1919 {i : Int} (h : i.natAbs < 10 ^ 300) : i.natAbs < 2 ^ 1919 := Nat.lt_trans h (by decide +kernel)
theorem ok_shown {f : Addr} {fd : FuncData} (F : Fun K "_law_shown" "_law_shown" s_law_shown f fd) (T : Txt K mg Z C_Ratio C_NoRatio C_Held C_Gone) : FnOk P w K mg base CX0 1 f fd ["_law_due"] (spShown K) := by
  refine F.ok sc_law_shown (fun vs H Q E h => ?_) (fun cdv A outer s H vs Q E hr h => ?_)
  · obtain ⟨p, t, b, rfl, _⟩ := h
    rfl
  · obtain ⟨p, t, b, rfl, hp, ht, hb, k⟩ := h
    have hn := numS_len ht
    have hm := numS_len hb
    have hn' : (Str.ofString (toString t)).length ≤ 301 := hn
    have hm' : (Str.ofString (toString b)).length ≤ 301 := hm
    have l1 : ("/" : Str).length = 1 := rfl
    refine ⟨_, (pss_cons (ps_if (pt_cmpR op_eq (pe_ix ix_tup (pv 0) pe_int (fun _ _ => rfl)) pe_int (nomark _))
 (pss_one (ps_ret (pe_callTy cl_str (by rfl) T.n_str PyProof.Rows.boot_str (pa_cons (pe_ix ix_tup (pv 0) pe_int (fun _ _ => rfl)) pa_nil))))
 pss_nil)
 (pss_one (ps_ret (pe_op op_addS (pe_op op_addS (pe_callTy cl_str (by rfl) T.n_str PyProof.Rows.boot_str (pa_cons (pe_ix ix_tup (pv 0) pe_int (fun _ _ => rfl)) pa_nil)) pe_str) (pe_callTy cl_str (by rfl) T.n_str PyProof.Rows.boot_str (pa_cons (pe_ix ix_tup (pv 0) pe_int (fun _ _ => rfl)) pa_nil)))))), ?_⟩
    wtm_at "w0"
    wtm_at "wp"
    refine w_dec (fun e => ?_) (fun e => ?_)
    · have eb : b = 1 := V.int.inj e
      rw [ratS, if_pos eb] at k
      wtm_at "wp"
      exact w_strI (lt1919 ht) k
    · have eb : b ≠ 1 := fun z => e (by rw [z])
      rw [ratS, if_neg eb] at k
      wtm_at "wp"
      refine w_strI (lt1919 ht) ?_
      wtm_at "wp"
      refine w_addS (sz (by have := hn'; omega)) ?_
      wtm_at "wp"
      refine w_strI (lt1919 hb) ?_
      wtm_at "wp"
      refine w_addS (sz (by rw [Str.length_append]; omega)) ?_
      exact k
abbrev s_law_right : Stmt := topS 35
theorem sc_law_right : FnScope ["_law_upper", "_law_lower", "_law_due", "_law_told"] ["_law_upper", "_law_lower"] (defScope s_law_right) := ⟨rfl, rfl, rfl, by decide +kernel, rfl, by decide +kernel, by decide +kernel⟩
def spRight31 : Sp := fun vs H Q _ => ∃ (t b : Int), vs = [.int t, .int b] ∧ b ≠ 0 ∧ t.natAbs < 10 ^ 299 ∧ b.natAbs < 10 ^ 299 ∧ ∀ H', Same H H' → Q (.bl true) H'
theorem ok_right {f : Addr} {fd : FuncData} (F : Fun K "_law_right" "_law_right" s_law_right f fd) (T : Txt K mg Z C_Ratio C_NoRatio C_Held C_Gone) (pn : PlainNot K C_Ratio)
    (f__law_low : Fn P w K mg base "_law_low" 1 ["_law_upper", "_law_lower"] (spLow K)) (f__law_is_ratio : Fn P w K mg base "_law_is_ratio" 1 ["_law_told", "_law_due"] (spIsRa K C_Ratio)) (f__law_shown : Fn P w K mg base "_law_shown" 1 ["_law_due"] (spShown K))
    (sp_Ratio_str : Spc P w K mg base C_Ratio "__str__" 1 ["self"] (spRStr C_Ratio)) (sp_Ratio_repr : Spc P w K mg base C_Ratio "__repr__" 1 ["self"] (spRRepr C_Ratio)) (e_Ratio : EqO P w K mg base C_Ratio 1 ["self", "other"] (spEqb (RqR K C_Ratio))) (ne_Ratio : NeO K C_Ratio)
    (mk_Ratio_1 : Mkr P w K mg base "Ratio" C_Ratio 3 ["self", "top", "bottom"] [.int 1] (spRInit C_Ratio)) (mk_Ratio_2 : Mkr P w K mg base "Ratio" C_Ratio 3 ["self", "top", "bottom"] [] (spRInit C_Ratio)) (mk_Ratio_bottom_top : MkrXK P w K mg base "Ratio" C_Ratio 3 ["self", "top", "bottom"] ["bottom", "top"] (fun vs zs => vs ++ zs.reverse) (spRInit C_Ratio)) : FnOk P w K mg base CX0 6 f fd ["_law_upper", "_law_lower"] spRight31 := by
  have hc := T.cl_Ratio
  refine F.ok sc_law_right (fun vs H Q E h => ?_) (fun cdv A outer s H vs Q E hr h => ?_)
  · obtain ⟨t, b, rfl, _⟩ := h
    rfl
  · obtain ⟨t, b, rfl, hb0, ht, hb, k⟩ := h
    refine ⟨_, (pss_cons (ps_set (i := 2) sc_law_right.nd rfl (.inl rfl) (pe_fn f__law_low (hr.mono (by omega)) rfl (pa_cons (pv 0) (pa_cons (pv 1) pa_nil))))
 (pss_cons (ps_set (i := 3) sc_law_right.nd rfl (.inl rfl) (pe_mkr mk_Ratio_2 (hr.mono (by omega)) rfl (pa_cons (pv 0) (pa_cons (pv 1) pa_nil))))
 (pss_cons (ps_if (PW.pt (pw_or (pt_not (pt_val (pe_fn f__law_is_ratio (hr.mono (by omega)) rfl (pa_cons (pv 3) (pa_cons (pv 2) pa_nil))))) (pw_or1 (pt_cmpR op_ne (pe_callTy (cl_strO sp_Ratio_str (hr.mono (by omega))) (by rfl) T.n_str PyProof.Rows.boot_str (pa_cons (pv 3) pa_nil)) (pe_fn f__law_shown (hr.mono (by omega)) rfl (pa_cons (pv 2) pa_nil)) (nomark _)))))
 (pss_one (ps_ret pe_bl))
 pss_nil)
 (pss_cons (ps_if (pt_cmpR op_ne (pe_callB (cl_reprO sp_Ratio_repr (hr.mono (by omega))) (by rfl) T.n_repr PyProof.Rows.boot_repr (pa_cons (pv 3) pa_nil)) (pe_op op_addS (pe_op op_addS (pe_op op_addS (pe_op op_addS pe_str (pe_callTy cl_str (by rfl) T.n_str PyProof.Rows.boot_str (pa_cons (pe_ix ix_tup (pv 2) pe_int (fun _ _ => rfl)) pa_nil))) pe_str) (pe_callTy cl_str (by rfl) T.n_str PyProof.Rows.boot_str (pa_cons (pe_ix ix_tup (pv 2) pe_int (fun _ _ => rfl)) pa_nil))) pe_str) (nomark _))
 (pss_one (ps_ret pe_bl))
 pss_nil)
 (pss_cons (ps_if (PW.pt (pw_or (pt_cmpR (op_neO e_Ratio ne_Ratio (hr.mono (by decide))) (pv 3) (pe_mkr mk_Ratio_2 (hr.mono (by omega)) rfl (pa_cons (pe_ix ix_tup (pv 2) pe_int (fun _ _ => rfl)) (pa_cons (pe_ix ix_tup (pv 2) pe_int (fun _ _ => rfl)) pa_nil))) (nomark _)) (pw_or (pt_cmpR (op_eqb (rcb_ins e_Ratio) (hr.mono (by decide))) (pv 3) (pv 2) (nomark _)) (pw_or (pt_cmpR (op_eqb (rcb_ins e_Ratio) (hr.mono (by decide))) (pv 3) (pe_ix ix_tup (pv 2) pe_int (fun _ _ => rfl)) (nomark _)) (pw_or1 (pt_cmpR (op_eqb (rcb_ins e_Ratio) (hr.mono (by decide))) (pv 3) (pe_callTy (cl_strO sp_Ratio_str (hr.mono (by omega))) (by rfl) T.n_str PyProof.Rows.boot_str (pa_cons (pv 3) pa_nil)) (nomark _)))))))
 (pss_one (ps_ret pe_bl))
 pss_nil)
 (pss_cons (ps_if (PW.pt (pw_or (pt_not (pt_val (pe_fn f__law_is_ratio (hr.mono (by omega)) rfl (pa_cons (pe_mkr mk_Ratio_1 (hr.mono (by omega)) rfl (pa_cons (pv 0) pa_nil)) (pa_cons (pe_tup (pa_cons (pv 0) (pa_cons pe_int pa_nil))) pa_nil))))) (pw_or1 (pt_not (pt_val (pe_fn f__law_is_ratio (hr.mono (by omega)) rfl (pa_cons (pe_mkxk mk_Ratio_bottom_top lets0 (hr.mono (by omega)) rfl (pk_cons (pv 1) (pk_cons (pv 0) pk_nil))) (pa_cons (pv 2) pa_nil))))))))
 (pss_one (ps_ret pe_bl))
 pss_nil)
 (pss_one (ps_ret (pe_and (pe_cmpR op_eq (pe_cmpR (op_eqb (rcb_ins e_Ratio) (hr.mono (by decide))) (pv 3) (pe_mkr mk_Ratio_1 (hr.mono (by omega)) rfl (pa_cons (pv 0) pa_nil)) (nomark _)) (pe_cmpR (op_eqD hr.units) (pv 2) (pe_tup (pa_cons (pv 0) (pa_cons pe_int pa_nil))) (nomark _)) (nomark _)) (pe_one (pe_cmpR op_eq (pe_cmpR (op_eqb (rcb_ins e_Ratio) (hr.mono (by decide))) (pv 3) (pe_mkr mk_Ratio_2 (hr.mono (by omega)) rfl (pa_cons (pe_ix ix_tup (pv 2) pe_int (fun _ _ => rfl)) (pa_cons (pe_op op_add (pe_ix ix_tup (pv 2) pe_int (fun _ _ => rfl)) pe_int) pa_nil))) (nomark _)) (pe_cmpR op_eq (pe_ix ix_tup (pv 2) pe_int (fun _ _ => rfl)) pe_int (nomark _)) (nomark _)))))))))))), ?_⟩
    wtm_at "w0"
    wtm_at "wp"
    have h299 : (10 : Nat) ^ 299 + 1 < 10 ^ 300 := by decide +kernel
    have h99 : (10 : Nat) ^ 299 < 10 ^ 300 := by decide +kernel
    have hL := Rat0.low_of (t := t) hb0
    have bt : (Rat0.top t b).natAbs < 10 ^ 299 := Nat.lt_of_le_of_lt (Rat0.top_le t b) ht
    have bb : (Rat0.bot t b).natAbs < 10 ^ 299 := Nat.lt_of_le_of_lt (Rat0.bot_le t b) hb
    have eT := hL.top
    have eB := hL.bot
    have hna := Rat0.next_alike hL
    have bpos := hL.pos
    refine ⟨t, b, rfl, hb0, f300 (Nat.lt_trans hb h99), fun p H1 np s1 hp => ?_⟩
    have bt3 := Nat.lt_trans bt h99
    have bb3 := Nat.lt_trans bb h99
    wtm_at "wp"
    rename_i r dr nr nd H2 s2 h2
    refine ⟨r, dr, t, b, rfl, h2, Nat.lt_trans ht h99, Nat.lt_trans hb h99, hb0, fun H3 k3 e3 => ⟨rfl, ?_⟩⟩
    have s3 : Same H1 H3 := k3.same s2 nr
    have hp3 := s3 _ _ hp
    have R3 : RAt C_Ratio H3 r (Rat0.top t b) (Rat0.bot t b) := ⟨dr, e3⟩
    wtm_at "wp"
    refine ⟨r, p, _, _, rfl, R3, .of hp3, fun H4 s4 => ?_⟩
    have hp4 := s4 _ _ hp3
    have R4 := R3.same s4
    wtm_at "wp"
    refine w_txtO (s4 _ _ e3) ⟨r, _, _, rfl, R4, bt3, bb3, _, rfl, ?_⟩
    wtm_at "wp"
    refine ⟨p, _, _, rfl, .of hp4, bt3, bb3, ?_⟩
    wtm_at "wp"
    refine iteF' (by simp) ?_
    wtm_at "wp"
    refine w_txtO (s4 _ _ e3) ⟨r, _, _, rfl, R4, bt3, bb3, _, rfl, ?_⟩
    wtm_at "wp"
    have hnT : (Str.ofString (toString (Rat0.top t b))).length ≤ 301 := numS_len bt3
    have hnB : (Str.ofString (toString (Rat0.bot t b))).length ≤ 301 := numS_len bb3
    have l1 : ("Ratio(" : Str).length = 6 := by decide +kernel
    have l2 : (", " : Str).length = 2 := rfl
    have l3 : (")" : Str).length = 1 := rfl
    refine w_strI (lt1919 bt3) ?_
    refine w_addS (sz (by omega)) ?_
    wtm_at "wp"
    refine w_addS (sz (by rw [Str.length_append]; omega)) ?_
    wtm_at "wp"
    refine w_strI (lt1919 bb3) ?_
    refine w_addS (sz (by rw [Str.length_append, Str.length_append]; omega)) ?_
    wtm_at "wp"
    refine w_addS (sz (by rw [Str.length_append, Str.length_append, Str.length_append]; omega)) ?_
    have eR : ratR (Rat0.top t b) (Rat0.bot t b) = ("Ratio(" : Str) ++ Str.ofString (toString (Rat0.top t b)) ++ ", " ++ Str.ofString (toString (Rat0.bot t b)) ++ ")" := rfl
    rw [← eR]
    wtm_at "wp"
    refine iteF' (by simp) ?_
    wtm_at "wp"
    rename_i r5 d5 n5 m5 H5 s5 h5
    refine ⟨r5, d5, _, _, rfl, h5, bt3, bb3, by omega, fun H6 k6 e6 => ⟨rfl, ?_⟩⟩
    rw [eT, eB] at e6
    have S6 : Same H4 H6 := k6.same s5 n5
    have e3' : H6 r = some (.ins C_Ratio dr [("top", .int (Rat0.top t b)), ("bottom", .int (Rat0.bot t b))]) := S6 _ _ (s4 _ _ e3)
    have hp6 := S6 _ _ hp4
    refine w_neO (b := true) ⟨r, dr, _, rfl, e3', .own e6, _, _, ⟨dr, e3'⟩, .inl ⟨r5, _, _, rfl, ⟨d5, e6⟩, (decide_eq_true ⟨rfl, rfl⟩).symm⟩⟩ (fun H7 s7 => ?_)
    wtm_at "wp"
    have e7 := s7 _ _ e3'
    have hp7 := s7 _ _ hp6
    refine w_eqb (b := false) ⟨r, dr, _, rfl, e7, (pn.of (.tup hp7)).2, _, _, ⟨dr, e7⟩, .inr ⟨(pn.of (.tup hp7)).1, rfl⟩⟩ (fun H8 s8 => ?_)
    wtm_at "wp"
    have e8 := s8 _ _ e7
    have hp8 := s8 _ _ hp7
    refine w_eqb (b := false) ⟨r, dr, _, rfl, e8, (pn.of (.int _)).2, _, _, ⟨dr, e8⟩, .inr ⟨(pn.of (.int _)).1, rfl⟩⟩ (fun H9 s9 => ?_)
    wtm_at "wp"
    have e9 := s9 _ _ e8
    have hp9 := s9 _ _ hp8
    refine w_txtO e9 ⟨r, _, _, rfl, ⟨dr, e9⟩, bt3, bb3, _, rfl, ?_⟩
    wtm_at "wp"
    refine w_eqb (b := false) ⟨r, dr, _, rfl, e9, (pn.of (.str _)).2, _, _, ⟨dr, e9⟩, .inr ⟨(pn.of (.str _)).1, rfl⟩⟩ (fun H10 s10 => ?_)
    wtm_at "wp"
    have e10 := s10 _ _ e9
    have hp10 := s10 _ _ hp9
    have hL1 : Rat0.Low t 1 := ⟨by decide, Int.gcd_one⟩
    have eT1 := hL1.top
    have eB1 := hL1.bot
    rename_i r11 d11 n11 m11 H11 s11 h11
    refine ⟨r11, d11, t, 1, rfl, h11, Nat.lt_trans ht h99, by decide +kernel, by decide, fun H12 k12 e12 => ⟨rfl, ?_⟩⟩
    rw [eT1, eB1] at e12
    have S12 : Same H10 H12 := k12.same s11 n11
    wtm_at "wp"
    rename_i p13 n13 H13 s13 h13
    refine ⟨r11, p13, t, 1, rfl, ⟨d11, s13 _ _ e12⟩, .of h13, fun H14 s14 => ?_⟩
    have S14 : Same H10 H14 := S12.trans (s13.trans s14)
    wtm_at "wp"
    refine ⟨rfl, rfl, fun r15 d15 n15 m15 ne15 => ?_⟩
    have s15 : Same H14 (upd (upd H14 d15 (.own r15)) r15 (.ins C_Ratio d15 [])) := fun c o h => by
      have c1 : c ≠ r15 := fun z => by rw [z, n15] at h; cases h
      have c2 : c ≠ d15 := fun z => by rw [z, m15] at h; cases h
      rw [upd_ne c1, upd_ne c2]
      exact h
    refine ⟨r15, d15, t, b, rfl, upd_same, Nat.lt_trans ht h99, Nat.lt_trans hb h99, hb0, fun H16 k16 e16 => ⟨rfl, ?_⟩⟩
    have S16 : Same H10 H16 := S14.trans (k16.same s15 n15)
    wtm_at "wp"
    refine ⟨r15, p, _, _, rfl, ⟨d15, e16⟩, .of (S16 _ _ hp10), fun H17 s17 => ?_⟩
    wtm_at "wp"
    have S17 : Same H10 H17 := S16.trans s17
    have e17 := S17 _ _ e10
    have hp17 := S17 _ _ hp10
    rename_i r18 d18 n18 m18 H18 s18 h18
    refine ⟨r18, d18, t, 1, rfl, h18, Nat.lt_trans ht h99, by decide +kernel, by decide, fun H19 k19 e19 => ⟨rfl, ?_⟩⟩
    rw [eT1, eB1] at e19
    have S19 : Same H17 H19 := k19.same s18 n18
    have f19 := S19 _ _ e17
    have hp19 := S19 _ _ hp17
    refine w_eqb (b := decide (Rat0.top t b = t ∧ Rat0.bot t b = 1)) ⟨r, dr, _, rfl, f19, .own e19, _, _, ⟨dr, f19⟩, .inl ⟨r18, t, 1, rfl, ⟨d18, e19⟩, rfl⟩⟩ (fun H20 s20 => ?_)
    wtm_at "wp"
    rename_i p21 n21 H21 s21 h21
    have hp21 := (s20.trans s21) _ _ hp19
    refine w_eqD (dp_t2 (SqT.of hp21)) (dp_t2 (SqT.of h21)) (by wtm_at "shp") (by wtm_at "shp") (k := decide (Rat0.top t b = t ∧ Rat0.bot t b = 1)) (by rw [Bool.eq_iff_iff]; simp [PyData.eqv, PyData.eqvAll]) ?_
    wtm_at "wp"
    refine iteT' (decide_eq_true rfl) ?_
    have f21 := (s20.trans s21) _ _ f19
    wtm_at "wp"
    rename_i r22 d22 n22 m22 H22 s22 h22
    refine ⟨r22, d22, _, Rat0.bot t b + 1, rfl, h22, bt3, by omega, by omega, fun H23 k23 e23 => ⟨rfl, ?_⟩⟩
    have S23 : Same H21 H23 := k23.same s22 n22
    have f23 := S23 _ _ f21
    have hp23 := S23 _ _ hp21
    refine w_eqb (b := decide (Rat0.top t b = Rat0.top (Rat0.top t b) (Rat0.bot t b + 1) ∧ Rat0.bot t b = Rat0.bot (Rat0.top t b) (Rat0.bot t b + 1))) ⟨r, dr, _, rfl, f23, .own e23, _, _, ⟨dr, f23⟩, .inl ⟨r22, _, _, rfl, ⟨d22, e23⟩, rfl⟩⟩ (fun H24 s24 => ?_)
    have hp24 := s24 _ _ hp23
    wtm_at "wp"
    have e0 : decide (V.int (Rat0.top t b) = V.int 0) = decide (Rat0.top t b = Rat0.top (Rat0.top t b) (Rat0.bot t b + 1) ∧ Rat0.bot t b = Rat0.bot (Rat0.top t b) (Rat0.bot t b + 1)) := by
      rw [decide_eq_decide, hna]
      exact ⟨fun z => V.int.inj z, fun z => by rw [z]⟩
    rw [e0, decide_eq_true rfl]
    exact k _ (s1.trans (s3.trans (s4.trans (S6.trans (s7.trans (s8.trans (s9.trans (s10.trans (S17.trans (S19.trans (s20.trans (s21.trans (S23.trans s24)))))))))))))

end
end K31

namespace K31
section
variable {P : Program} {w : World} {K : PySem.W.Frag} {mg : Str → Option Value} {base : Heap} {Z : Zs} {C_Ratio C_NoRatio C_Held C_Gone : Addr}
theorem purse_ext {H H' : Hp} {p : Addr} {n : Nat} (h : Purse H p n) (e : LamX.ExtN H H') : Purse H' p n := by
  obtain ⟨a, b, c, h, r⟩ := h
  exact ⟨a, b, c, e _ _ h (fun _ z => by cases z), r⟩
theorem purse_kb {H H' : Hp} {p D : Addr} {n : Nat} (h : Purse H p n) (k : KB D H H') (ne : p ≠ D) : Purse H' p n := by
  obtain ⟨a, b, c, h, r⟩ := h
  exact ⟨a, b, c, k _ _ h ne, r⟩
theorem grown_kbp {TT : List (Addr × Str)} {H H1 H2 : Hp} {p : Addr} {xs : List V} (g : Grown TT H H1) (n : H p = none) (k : KB p H1 H2) (hp : H1 p = some (.lst xs)) : Grown TT H H2 := ⟨fun b o h no => k b o (g.e b o h no) (ne_of_none h n), tabs_kb g.t hp k⟩
def spLaw (K : PySem.W.Frag) (TT : List (Addr × Str)) : Sp := fun vs H Q _ => ∃ (a : Addr) (ns : List Int), vs = [.ref a] ∧ SqL K H a (ns.map V.int) ∧ ns.length ≤ 63 ∧ LamX.Tabs TT H ∧ ∀ H', Q (.bl true) H'

abbrev s_law : Stmt := topS 36
theorem sc_law : FnScope ["_law_script", "_law_at", "_law_purse_here", "_law_great", "_law_odd", "_law_by", "_law_upper", "_law_lower"] ["_law_script"] (defScope s_law) := ⟨rfl, rfl, rfl, by decide +kernel, rfl, by decide +kernel, by decide +kernel⟩
/-! ### the law -/
theorem Purse.at {H : Hp} {p : Addr} {n : Nat} (h : Purse H p n) : ∃ x, H p = some (.lst x) := by
  obtain ⟨_, _, _, h, _⟩ := h
  exact ⟨_, h⟩
theorem units0_of {k : Nat} {A : Around} (r : Room k A) : A.units < cLine := r.units0
theorem w_andR {b : Bool} {A X : Prop} {D : Ends} {σ : L2.St} {H : Hp} (Inv : L2.St → Hp → Prop) (h2 : b = false → Inv σ H) (h1 : (∀ σ H, Inv σ H → D.nx σ H) → b = true → A) (hi : ∀ σ H, Inv σ H → D.nx σ H) : if b = true then A else (if false = true then X else tNext D σ H) := by
  cases b with
  | true => exact h1 hi rfl
  | false => exact hi _ _ (h2 rfl)
theorem odd31 {t1 t2 t3 : Addr} {d G : Int} (g0 : figB (.int G) = false) (gm : figB (.int (0 - G)) = false) (gp : figB (.int (G + 7)) = false) (h0 : 0 ≤ d) (h1 : d < 10) : ∃ v, atI [V.bl true, V.bl false, V.non, V.str "3", V.ref t1, V.ref t2, V.int G, V.int (0 - G), V.int (G + 7), V.ref t3] d = some v ∧ figB v = false ∧
    ∀ X : Hp, X t1 = some (.tup [V.int 3]) → X t2 = some (.lst [V.int 3]) → X t3 = some (.tup []) → Thg X v := by
  have : d = 0 ∨ d = 1 ∨ d = 2 ∨ d = 3 ∨ d = 4 ∨ d = 5 ∨ d = 6 ∨ d = 7 ∨ d = 8 ∨ d = 9 := by omega
  rcases this with rfl | rfl | rfl | rfl | rfl | rfl | rfl | rfl | rfl | rfl
  · exact ⟨_, rfl, rfl, fun X _ _ _ => .bl _⟩
  · exact ⟨_, rfl, rfl, fun X _ _ _ => .bl _⟩
  · exact ⟨_, rfl, rfl, fun X _ _ _ => .non⟩
  · exact ⟨_, rfl, rfl, fun X _ _ _ => .str _⟩
  · exact ⟨_, rfl, rfl, fun X h _ _ => .tup h⟩
  · exact ⟨_, rfl, rfl, fun X _ h _ => .lst h⟩
  · exact ⟨_, rfl, g0, fun X _ _ _ => .int _⟩
  · exact ⟨_, rfl, gm, fun X _ _ _ => .int _⟩
  · exact ⟨_, rfl, gp, fun X _ _ _ => .int _⟩
  · exact ⟨_, rfl, rfl, fun X _ _ h => .tup h⟩
theorem ok_law {f c0 P1 : Addr} {fd : FuncData} {TT : List (Addr × Str)} (F : FunC K "law" "law" s_law f fd c0) (T : Txt K mg Z C_Ratio C_NoRatio C_Held C_Gone) (hTB : LamX.TabB base mg c0 P1) (hmT : (P1, lamN "law") ∈ TT) (hu : ∀ p ∈ TT, p.1 = P1 → p.2 = lamN "law") (hN : How3 K (csH Z C_NoRatio C_Held C_Gone) (clH Z C_NoRatio C_Held C_Gone) Z.NoNumber 2 0) (hR : How3 K (csH Z C_NoRatio C_Held C_Gone) (clH Z C_NoRatio C_Held C_Gone) C_NoRatio 15 2)
    (f__law_purse : Fn P w K mg base "_law_purse" 1 ["_law_script", "_law_at"] (spPurse K)) (f__law_take : Fn P w K mg base "_law_take" 1 ["_law_purse_here", "_law_many"] spTake) (f__law_far : Fn P w K mg base "_law_far" 2 ["_law_purse_here"] spFar) (f__law_right : Fn P w K mg base "_law_right" 6 ["_law_upper", "_law_lower"] spRight31)
    (mk_Ratio_1 : Mkr P w K mg base "Ratio" C_Ratio 3 ["self", "top", "bottom"] [.int 1] (spRInit C_Ratio)) (mk_Ratio_2 : Mkr P w K mg base "Ratio" C_Ratio 3 ["self", "top", "bottom"] [] (spRInit C_Ratio)) (mx_Ratio_1 : MkrX P w K mg base "Ratio" C_Ratio 3 ["self", "top", "bottom"] [.int 1] (spRInitX C_Ratio C_NoRatio Z)) (mx_Ratio_2 : MkrX P w K mg base "Ratio" C_Ratio 3 ["self", "top", "bottom"] [] (spRInitX C_Ratio C_NoRatio Z))
    (pn : PlainNot K C_Ratio) (e_Ratio : EqO P w K mg base C_Ratio 1 ["self", "other"] (spEqb (RqR K C_Ratio))) (ne_Ratio : NeO K C_Ratio) (f__law_how : Asks P w K mg base "_law_how" "_law_deed" ["_law_deed", "_law_e"] s_law_how 2 (TTHow3 K (csH Z C_NoRatio C_Held C_Gone) (clH Z C_NoRatio C_Held C_Gone))) : FnOk P w K mg base CX0 8 f fd ["_law_script"] (spLaw K TT) := by
  refine F.ok sc_law (fun vs H Q E h => ?_) (fun A outer s H vs Q E hr h => ?_)
  · obtain ⟨a, ns, rfl, _⟩ := h
    rfl
  · obtain ⟨a, ns, rfl, hS, hl, hT, k⟩ := h
    have hu0 := hr.units
    refine ⟨_, (pss_cons (ps_for PassesOwn.never rfl (pi_range1 (by rfl) T.n_range (pa_cons (pe_callB (cl_max rfl) (by rfl) T.n_max PyProof.Rows.boot_max (pa_cons pe_int (pa_cons (pe_callB (cl_min rfl) (by rfl) T.n_min PyProof.Rows.boot_min (pa_cons (pe_callB cl_len (by rfl) T.n_len PySem.boot_len (pa_cons (pv 0) pa_nil)) (pa_cons pe_int pa_nil))) pa_nil))) pa_nil)) (pg_name (i := 1) sc_law.nd rfl (.inl rfl))
 (pss_cons (ps_set (i := 2) sc_law.nd rfl (.inl rfl) (pe_fn f__law_purse (hr.mono (by omega)) rfl (pa_cons (pv 0) (pa_cons (pv 1) pa_nil))))
 (pss_cons (ps_set (i := 3) sc_law.nd rfl (.inl rfl) (pe_op op_powU (pe_op op_powU pe_int pe_int) pe_int))
 (pss_cons (ps_set (i := 4) sc_law.nd rfl (.inr rfl) (pe_ix ix_list (pe_lst (pa_cons pe_bl (pa_cons pe_bl (pa_cons pe_non (pa_cons pe_str (pa_cons (pe_tup (pa_cons pe_int pa_nil)) (pa_cons (pe_lst (pa_cons pe_int pa_nil)) (pa_cons (pv 3) (pa_cons (pe_op op_sub pe_int (pv 3)) (pa_cons (pe_op op_add (pv 3) pe_int) (pa_cons (pe_tup pa_nil) pa_nil))))))))))) (pe_fn f__law_take (hr.mono (by omega)) rfl (pa_cons (pv 2) (pa_cons pe_int pa_nil))) (fun _ _ => rfl)))
 (pss_cons (ps_set (i := 5) sc_law.nd rfl (.inl rfl) (pe_ix ix_list (pe_lst (pa_cons pe_int (pa_cons (pe_op op_add pe_int (pe_fn f__law_take (hr.mono (by omega)) rfl (pa_cons (pv 2) (pa_cons (pe_op op_powU pe_int pe_int) pa_nil)))) pa_nil))) (pe_fn f__law_take (hr.mono (by omega)) rfl (pa_cons (pv 2) (pa_cons pe_int pa_nil))) (fun _ _ => rfl)))
 (pss_cons (ps_asg (pe_tup (pa_cons (pe_op op_mulU (pe_fn f__law_far (hr.mono (by omega)) rfl (pa_cons (pv 2) pa_nil)) (pv 5)) (pa_cons (pe_op op_mulU (pe_fn f__law_far (hr.mono (by omega)) rfl (pa_cons (pv 2) pa_nil)) (pv 5)) pa_nil))) (pg_tup rfl (pgs_cons (pg_name (i := 6) sc_law.nd rfl (.inr rfl)) (pgs_cons (pg_name (i := 7) sc_law.nd rfl (.inl rfl)) pgs_nil))))
 (pss_cons (ps_if (PW.pt (pw_and (pt_cmpR op_ne (pv 7) pe_int (nomark _)) (pw_and1 (pt_not (pt_val (pe_fn f__law_right (hr.mono (by omega)) rfl (pa_cons (pv 6) (pa_cons (pv 7) pa_nil))))))))
 (pss_one (ps_ret pe_bl))
 pss_nil)
 (pss_cons (ps_if (pt_cmpR op_ne (pe_asks (T := TT) (j := 5) f__law_how rfl (by exact hTB) (by rfl) (by rfl) hmT hu (hr.mono (by omega)) (hr.mono (by omega)) (by rfl) rfl (fun _ _ _ _ _ => rfl) (fun A' outer' s' H' E' f' c' hr' => (pe_mkx mx_Ratio_2 (lets_of takesLam) (hr'.mono (by omega)) rfl (pa_cons (pv 6) (pa_cons pe_int pa_nil))))) pe_str (nomark _))
 (pss_one (ps_ret pe_bl))
 pss_nil)
 (pss_cons (ps_if (pt_cmpR op_ne (pe_asks (T := TT) (j := 5) f__law_how rfl (by exact hTB) (by rfl) (by rfl) hmT hu (hr.mono (by omega)) (hr.mono (by omega)) (by rfl) rfl (fun _ _ _ _ _ => rfl) (fun A' outer' s' H' E' f' c' hr' => (pe_mkx mx_Ratio_2 (lets_of takesLam) (hr'.mono (by omega)) rfl (pa_cons (pv 4) (pa_cons pe_int pa_nil))))) pe_str (nomark _))
 (pss_one (ps_ret pe_bl))
 pss_nil)
 (pss_cons (ps_if (pt_cmpR op_ne (pe_asks (T := TT) (j := 5) f__law_how rfl (by exact hTB) (by rfl) (by rfl) hmT hu (hr.mono (by omega)) (hr.mono (by omega)) (by rfl) rfl (fun _ _ _ _ _ => rfl) (fun A' outer' s' H' E' f' c' hr' => (pe_mkx mx_Ratio_2 (lets_of takesLam) (hr'.mono (by omega)) rfl (pa_cons (pv 4) (pa_cons pe_int pa_nil))))) pe_str (nomark _))
 (pss_one (ps_ret pe_bl))
 pss_nil)
 (pss_cons (ps_if (pt_cmpR op_ne (pe_asks (T := TT) (j := 5) f__law_how rfl (by exact hTB) (by rfl) (by rfl) hmT hu (hr.mono (by omega)) (hr.mono (by omega)) (by rfl) rfl (fun _ _ _ _ _ => rfl) (fun A' outer' s' H' E' f' c' hr' => (pe_mkx mx_Ratio_1 (lets_of takesLam) (hr'.mono (by omega)) rfl (pa_cons (pv 4) pa_nil)))) pe_str (nomark _))
 (pss_one (ps_ret pe_bl))
 pss_nil)
 (pss_cons (ps_if (pt_cmpR op_ne (pe_asks (T := TT) (j := 5) f__law_how rfl (by exact hTB) (by rfl) (by rfl) hmT hu (hr.mono (by omega)) (hr.mono (by omega)) (by rfl) rfl (fun _ _ _ _ _ => rfl) (fun A' outer' s' H' E' f' c' hr' => (pe_mkx mx_Ratio_2 (lets_of takesLam) (hr'.mono (by omega)) rfl (pa_cons (pv 6) (pa_cons (pv 4) pa_nil))))) pe_str (nomark _))
 (pss_one (ps_ret pe_bl))
 pss_nil)
 (pss_one (ps_if (pt_cmpR op_ne (pe_asks (T := TT) (j := 5) f__law_how rfl (by exact hTB) (by rfl) (by rfl) hmT hu (hr.mono (by omega)) (hr.mono (by omega)) (by rfl) rfl (fun _ _ _ _ _ => rfl) (fun A' outer' s' H' E' f' c' hr' => (pe_mkx mx_Ratio_2 (lets_of takesLam) (hr'.mono (by omega)) rfl (pa_cons pe_int (pa_cons pe_bl pa_nil))))) pe_str (nomark _))
 (pss_one (ps_ret pe_bl))
 pss_nil))))))))))))))
 (pss_one (ps_ret (pe_and (pe_cmpR (op_eqb (rcb_ins e_Ratio) (hr.mono (by decide))) (pe_mkr mk_Ratio_2 (hr.mono (by omega)) rfl (pa_cons pe_int (pa_cons (pe_op op_sub pe_int pe_int) pa_nil))) (pe_mkr mk_Ratio_1 (hr.mono (by omega)) rfl (pa_cons pe_int pa_nil)) (nomark _)) (pe_and (pe_cmpR (op_eqb (rcb_ins e_Ratio) (hr.mono (by decide))) (pe_mkr mk_Ratio_2 (hr.mono (by omega)) rfl (pa_cons pe_int (pa_cons pe_int pa_nil))) (pe_mkr mk_Ratio_1 (hr.mono (by omega)) rfl (pa_cons pe_int pa_nil)) (nomark _)) (pe_and (pe_cmpR (op_neO e_Ratio ne_Ratio (hr.mono (by decide))) (pe_mkr mk_Ratio_1 (hr.mono (by omega)) rfl (pa_cons pe_int pa_nil)) pe_int (nomark _)) (pe_one (pe_cmpR (op_neO e_Ratio ne_Ratio (hr.mono (by decide))) (pe_mkr mk_Ratio_1 (hr.mono (by omega)) rfl (pa_cons pe_int pa_nil)) (pe_mkr mk_Ratio_2 (hr.mono (by omega)) rfl (pa_cons pe_int (pa_cons pe_int pa_nil))) (nomark _))))))))), ?_⟩
    wtm_at "w0"
    wtm_at "wp"
    have hml : (ns.map V.int).length = ns.length := List.length_map ..
    refine ⟨_, rfl, by omega, by omega, ?_⟩
    refine for_fin fin_rng (fun i σ H' => ∃ v1 v2 v3 v4 v5 v6 v7 : Option V, σ = [some (.ref a), v1, v2, v3, v4, v5, v6, v7] ∧ Grown TT H H') ⟨_, _, _, _, _, _, _, rfl, Grown.of hT (.refl _)⟩ (fun _ _ _ _ _ => trivial) ?_ ?_
    · rintro i v σ H1 H1' hi ⟨v1, v2, v3, v4, v5, v6, v7, rfl, g1⟩ ⟨rfl, rfl⟩
      have ei : (0 : Int) + (i : Int) = ((i : Nat) : Int) := by omega
      rw [ei]
      have hi' : i ≤ 63 := by omega
      wtm_at "wp"
      refine ⟨a, ns, i, rfl, extn_seq g1.e hS, hi', fun p H2 np s2 hp2 => ?_⟩
      wtm_at "wp"
      · exact powU (a := 200) (by decide +kernel) (by decide) (by decide) (by decide)
      obtain ⟨G, eG, g0, gm, gp⟩ : ∃ G : Int, ((10 : Int) ^ Int.toNat 60) ^ Int.toNat 5 = G ∧ figB (.int G) = false ∧ figB (.int (0 - G)) = false ∧ figB (.int (G + 7)) = false := ⟨_, rfl, by decide +kernel, by decide +kernel, by decide +kernel⟩
      rw [eG]
      clear eG
      wtm_at "wp"
      rename_i t1 n1 H3 s3 h3 t2 n2 H4 s4 h4 t3 n3 H5 s5 h5 l6 n6 H6 s6 h6
      have S6 : Same H2 H6 := s3.trans (s4.trans (s5.trans s6))
      have hp6 := hp2.mono S6 (Nat.le_refl _)
      have hp2x := hp2.at.choose_spec
      have nep : ∀ {X : Hp} {c : Addr}, Same H2 X → X c = none → c ≠ p := fun s n z => by rw [z, s _ _ hp2x] at n; cases n
      have p1 := nep (.refl _) n1
      have p2 := nep s3 n2
      have p3 := nep (s3.trans s4) n3
      have p6 := nep (s3.trans (s4.trans s5)) n6
      refine ⟨p, 10, _, rfl, hp6, by omega, by decide, by decide, fun d7 H7 d70 d71 k7 hp7 => ?_⟩
      obtain ⟨odd, hat, ho, hodd⟩ := odd31 (t1 := t1) (t2 := t2) (t3 := t3) g0 gm gp d70 d71
      refine w_ixL (.of (k7 _ _ h6 p6)) hat ?_
      have a1 := k7 _ _ (s6 _ _ (s5 _ _ (s4 _ _ h3))) p1
      have a2 := k7 _ _ (s6 _ _ (s5 _ _ h4)) p2
      have a3 := k7 _ _ (s6 _ _ h5) p3
      have K7 : KB p H2 H7 := (KB.of S6).trans k7
      clear h3 h4 h5 h6 s3 s4 s5 s6 hp6 k7
      wtm_at "wp"
      refine ⟨p, _, _, rfl, hp7, by omega, by decide, by decide, fun b8 H8 b80 b81 k8 hp8 => ?_⟩
      wtm_at "wp"
      rename_i l9 n9 H9 s9 h9
      have K9 : KB p H2 H9 := K7.trans (k8.trans (KB.of s9))
      have p9 : l9 ≠ p := fun z => by obtain ⟨x, hx⟩ := hp8.at; rw [z, hx] at n9; cases n9
      have b1 := s9 _ _ (k8 _ _ a1 p1)
      have b2 := s9 _ _ (k8 _ _ a2 p2)
      have b3 := s9 _ _ (k8 _ _ a3 p3)
      refine ⟨p, 2, _, rfl, hp8.mono s9 (Nat.le_refl _), by omega, by decide, by decide, fun d10 H10 d100 d101 k10 hp10 => ?_⟩
      obtain ⟨by_, hby, hb1⟩ : ∃ by_ : Int, atI [V.int 1, V.int (1 + b8)] d10 = some (.int by_) ∧ by_.natAbs < 2 ^ 40 := by
        have hd : d10 = 0 ∨ d10 = 1 := by omega
        rcases hd with rfl | rfl
        · exact ⟨_, rfl, by decide⟩
        · exact ⟨_, rfl, by have e40 : (2 : Nat) ^ 40 = 1099511627776 := rfl; rw [e40]; omega⟩
      refine w_ixL (.of (k10 _ _ h9 p9)) hby ?_
      have c1 := k10 _ _ b1 p1
      have c2 := k10 _ _ b2 p2
      have c3 := k10 _ _ b3 p3
      have K10 := K9.trans k10
      clear a1 a2 a3 b1 b2 b3 h9 k8 k10 s9 K7 K9 hp7 hp8
      wtm_at "wp"
      refine ⟨p, _, rfl, hp10, by omega, fun u0 H11 hu0' k11 hp11 => ?_⟩
      have big : ∀ x : Int, x.natAbs < 10 ^ 245 → (x * by_).natAbs < 10 ^ 299 := fun x hx => by
        rw [Int.natAbs_mul]
        refine Nat.lt_of_lt_of_le (Nat.mul_lt_mul'' hx hb1) (by decide +kernel)
      have mulOk : ∀ x : Int, x.natAbs < 10 ^ 245 → CMulU x by_ := fun x hx => mulW (a := 900) (b := 40) (Nat.lt_trans hx (by decide +kernel)) hb1 (by decide) (by decide) (by decide)
      wtm_at "wp"
      refine ⟨p, _, rfl, hp11, by omega, fun l0 H12 hl0' k12 hp12 => ?_⟩
      wtm_at "wp"
      rename_i q13 n13 H13 s13 h13
      have d1 := s13 _ _ ((k11.trans k12) _ _ c1 p1)
      have d2 := s13 _ _ ((k11.trans k12) _ _ c2 p2)
      have d3 := s13 _ _ ((k11.trans k12) _ _ c3 p3)
      have g13 : Grown TT H H13 := (g1.trans (grown_kbp (Grown.of g1.t s2) np (K10.trans (k11.trans k12)) hp2x)).same s13
      have hu3 : (u0 * by_).natAbs < 10 ^ 299 := big _ hu0'
      have hl3 : (l0 * by_).natAbs < 10 ^ 299 := big _ hl0'
      generalize u0 * by_ = up at hu3 ⊢
      generalize l0 * by_ = lo at hl3 ⊢
      clear c1 c2 c3 k11 k12 s13 h13 hp10 hp11 hp12 K10 big mulOk
      refine w_andR (fun σ H' => σ = [some (.ref a), some (.int i), some (.ref p), some (.int G), some odd, some (.int by_), some (.int up), some (.int lo)] ∧ Same H13 H') (fun _ => ⟨rfl, .refl _⟩) (fun hK hne => ?_) ?_
      · have hlo : lo ≠ 0 := fun z => by rw [z] at hne; simp at hne
        wtm_at "wp"
        refine ⟨up, lo, rfl, hlo, hu3, hl3, fun H14 s14 => ?_⟩
        wtm_at "wp"
        exact hK _ _ ⟨rfl, s14⟩
      rintro σ H14 ⟨rfl, s14⟩
      have e1 := s14 _ _ d1
      have e2 := s14 _ _ d2
      have e3 := s14 _ _ d3
      have g14 := g13.same s14
      clear d1 d2 d3 s14 g13
      wtm_at "wp"
      refine w_lam g14.t (fun H20 e20 t20 => w_how3 ?_)
      wtm_at "wp"
      rename_i r20 d20 m20 q20 H21 s21 h21
      have G20 : Grown TT H14 H21 := ((Grown.mk e20 t20)).same s21
      have o20 := hodd H21 (G20.e _ _ e1 (fun _ z => by cases z)) (G20.e _ _ e2 (fun _ z => by cases z)) (G20.e _ _ e3 (fun _ z => by cases z))
      refine ⟨r20, d20, .int up, .int 0, rfl, h21, .int _, .int _, .inr ⟨up, rfl, Nat.lt_trans hu3 (by decide +kernel), rfl, C_NoRatio, rfl, 15, 2, "NoRatio", hR, rfl, xdOk_none, fun H25 s25 => ?_⟩⟩
      have g25 : Grown TT H14 H25 := G20.same s25
      wtm_at "wp"
      refine w_lam g25.t (fun H30 e30 t30 => w_how3 ?_)
      wtm_at "wp"
      rename_i r30 d30 m30 q30 H31 s31 h31
      have G30 : Grown TT H14 H31 := (g25.trans (Grown.mk e30 t30)).same s31
      have o30 := hodd H31 (G30.e _ _ e1 (fun _ z => by cases z)) (G30.e _ _ e2 (fun _ z => by cases z)) (G30.e _ _ e3 (fun _ z => by cases z))
      refine ⟨r30, d30, odd, .int 0, rfl, h31, o30, .int _, .inl ⟨by rw [ho]; rfl, Z.NoNumber, rfl, 2, 0, "NoNumber", hN, rfl, xdOk_none, fun H35 s35 => ?_⟩⟩
      have g35 : Grown TT H14 H35 := G30.same s35
      wtm_at "wp"
      refine w_lam g35.t (fun H40 e40 t40 => w_how3 ?_)
      wtm_at "wp"
      rename_i r40 d40 m40 q40 H41 s41 h41
      have G40 : Grown TT H14 H41 := (g35.trans (Grown.mk e40 t40)).same s41
      have o40 := hodd H41 (G40.e _ _ e1 (fun _ z => by cases z)) (G40.e _ _ e2 (fun _ z => by cases z)) (G40.e _ _ e3 (fun _ z => by cases z))
      refine ⟨r40, d40, odd, .int 3, rfl, h41, o40, .int _, .inl ⟨by rw [ho]; rfl, Z.NoNumber, rfl, 2, 0, "NoNumber", hN, rfl, xdOk_none, fun H45 s45 => ?_⟩⟩
      have g45 : Grown TT H14 H45 := G40.same s45
      wtm_at "wp"
      refine w_lam g45.t (fun H50 e50 t50 => w_how3 ?_)
      wtm_at "wp"
      rename_i r50 d50 m50 q50 H51 s51 h51
      have G50 : Grown TT H14 H51 := (g45.trans (Grown.mk e50 t50)).same s51
      have o50 := hodd H51 (G50.e _ _ e1 (fun _ z => by cases z)) (G50.e _ _ e2 (fun _ z => by cases z)) (G50.e _ _ e3 (fun _ z => by cases z))
      refine ⟨r50, d50, odd, .int 1, rfl, h51, o50, .int _, .inl ⟨by rw [ho]; rfl, Z.NoNumber, rfl, 2, 0, "NoNumber", hN, rfl, xdOk_none, fun H55 s55 => ?_⟩⟩
      have g55 : Grown TT H14 H55 := G50.same s55
      wtm_at "wp"
      refine w_lam g55.t (fun H60 e60 t60 => w_how3 ?_)
      wtm_at "wp"
      rename_i r60 d60 m60 q60 H61 s61 h61
      have G60 : Grown TT H14 H61 := (g55.trans (Grown.mk e60 t60)).same s61
      have o60 := hodd H61 (G60.e _ _ e1 (fun _ z => by cases z)) (G60.e _ _ e2 (fun _ z => by cases z)) (G60.e _ _ e3 (fun _ z => by cases z))
      refine ⟨r60, d60, .int up, odd, rfl, h61, .int _, o60, .inl ⟨by rw [ho, Bool.and_false], Z.NoNumber, rfl, 2, 0, "NoNumber", hN, rfl, xdOk_none, fun H65 s65 => ?_⟩⟩
      have g65 : Grown TT H14 H65 := G60.same s65
      wtm_at "wp"
      refine w_lam g65.t (fun H70 e70 t70 => w_how3 ?_)
      wtm_at "wp"
      rename_i r70 d70 m70 q70 H71 s71 h71
      have G70 : Grown TT H14 H71 := (g65.trans (Grown.mk e70 t70)).same s71
      have o70 := hodd H71 (G70.e _ _ e1 (fun _ z => by cases z)) (G70.e _ _ e2 (fun _ z => by cases z)) (G70.e _ _ e3 (fun _ z => by cases z))
      refine ⟨r70, d70, .int 1, .bl true, rfl, h71, .int _, .bl _, .inl ⟨by rw [show figB (.bl true) = false from rfl, Bool.and_false], Z.NoNumber, rfl, 2, 0, "NoNumber", hN, rfl, xdOk_none, fun H75 s75 => ?_⟩⟩
      have g75 : Grown TT H14 H75 := G70.same s75
      wtm_at "wp"
      exact ⟨_, _, _, _, _, _, _, rfl, g14.trans g75⟩
    · rintro σ H1 ⟨v1, v2, v3, v4, v5, v6, v7, rfl, g1⟩
      wtm_at "wp"
      rename_i r2 d2 n2 m2 H2 s2 h2
      refine ⟨r2, d2, 0, 0 - 7, rfl, h2, by decide +kernel, by decide +kernel, by decide, fun J2 k2 e2 => ⟨rfl, ?_⟩⟩
      rw [show Rat0.top (0) (0 - 7) = 0 from by decide, show Rat0.bot (0) (0 - 7) = 1 from by decide] at e2
      have S2 := k2.same s2 n2
      wtm_at "wp"
      rename_i r3 d3 n3 m3 H3 s3 h3
      refine ⟨r3, d3, 0, 1, rfl, h3, by decide +kernel, by decide +kernel, by decide, fun J3 k3 e3 => ⟨rfl, ?_⟩⟩
      rw [show Rat0.top (0) (1) = 0 from by decide, show Rat0.bot (0) (1) = 1 from by decide] at e3
      have S3 := k3.same s3 n3
      have f2 := S3 _ _ e2
      refine w_eqb (b := true) ⟨r2, d2, _, rfl, f2, .own e3, _, _, ⟨d2, f2⟩, .inl ⟨r3, _, _, rfl, ⟨d3, e3⟩, rfl⟩⟩ (fun X4 x4 => ?_)
      wtm_at "wp"
      rename_i r5 d5 n5 m5 H5 s5 h5
      refine ⟨r5, d5, 2, 2, rfl, h5, by decide +kernel, by decide +kernel, by decide, fun J5 k5 e5 => ⟨rfl, ?_⟩⟩
      rw [show Rat0.top (2) (2) = 1 from by decide, show Rat0.bot (2) (2) = 1 from by decide] at e5
      have S5 := k5.same s5 n5
      wtm_at "wp"
      rename_i r6 d6 n6 m6 H6 s6 h6
      refine ⟨r6, d6, 1, 1, rfl, h6, by decide +kernel, by decide +kernel, by decide, fun J6 k6 e6 => ⟨rfl, ?_⟩⟩
      rw [show Rat0.top (1) (1) = 1 from by decide, show Rat0.bot (1) (1) = 1 from by decide] at e6
      have S6 := k6.same s6 n6
      have f5 := S6 _ _ e5
      refine w_eqb (b := true) ⟨r5, d5, _, rfl, f5, .own e6, _, _, ⟨d5, f5⟩, .inl ⟨r6, _, _, rfl, ⟨d6, e6⟩, rfl⟩⟩ (fun X7 x7 => ?_)
      wtm_at "wp"
      rename_i r8 d8 n8 m8 H8 s8 h8
      refine ⟨r8, d8, 1, 1, rfl, h8, by decide +kernel, by decide +kernel, by decide, fun J8 k8 e8 => ⟨rfl, ?_⟩⟩
      rw [show Rat0.top (1) (1) = 1 from by decide, show Rat0.bot (1) (1) = 1 from by decide] at e8
      have S8 := k8.same s8 n8
      wtm_at "wp"
      refine w_neO (b := false) ⟨r8, d8, _, rfl, e8, (pn.of (.int _)).2, _, _, ⟨d8, e8⟩, .inr ⟨(pn.of (.int _)).1, rfl⟩⟩ (fun X9 x9 => ?_)
      wtm_at "wp"
      rename_i r10 d10 n10 m10 H10 s10 h10
      refine ⟨r10, d10, 1, 1, rfl, h10, by decide +kernel, by decide +kernel, by decide, fun J10 k10 e10 => ⟨rfl, ?_⟩⟩
      rw [show Rat0.top (1) (1) = 1 from by decide, show Rat0.bot (1) (1) = 1 from by decide] at e10
      have S10 := k10.same s10 n10
      wtm_at "wp"
      rename_i r11 d11 n11 m11 H11 s11 h11
      refine ⟨r11, d11, 1, 2, rfl, h11, by decide +kernel, by decide +kernel, by decide, fun J11 k11 e11 => ⟨rfl, ?_⟩⟩
      rw [show Rat0.top (1) (2) = 1 from by decide, show Rat0.bot (1) (2) = 2 from by decide] at e11
      have S11 := k11.same s11 n11
      have f10 := S11 _ _ e10
      refine w_neO (b := false) ⟨r10, d10, _, rfl, f10, .own e11, _, _, ⟨d10, f10⟩, .inl ⟨r11, _, _, rfl, ⟨d11, e11⟩, rfl⟩⟩ (fun X12 x12 => ?_)
      exact k _

end
end K31

namespace K31
theorem all_mk {l : PySem.W.OpenLaw} {w : World} {K : PySem.W.Frag} {h : Heap} {mg : Str → Option Value} {fa : Addr} (X : K.In h) (G : h.Ns mainGlobals mg) (hfa : mg "law" = some (.ref fa))
    {C_Wrong : Addr}
    {C_NoWord : Addr}
    {C_NoText : Addr}
    {C_NoNumber : Addr}
    {C_NoSize : Addr}
    {C_NoLengths : Addr}
    {C_NoQuery : Addr}
    {C_NoCode : Addr}
    {C_NoRow : Addr}
    {C_NoEntries : Addr}
    {C_NoQueryText : Addr}
    {C_NoPages : Addr}
    {C_NoQueries : Addr}
    {C_NoShelf : Addr}
    {C_NoPlace : Addr}
    {C_NoSlot : Addr}
    {tc_FARTHEST : Tok}
    {C_NoRatio : Addr}
    {C_Held : Addr}
    {C_Gone : Addr}
    {C_Ratio : Addr}
    {f_law_kind : Addr} {od_law_kind an_law_kind : Option Addr} {sl_law_kind : Array (Option Value)} {oc_law_kind kV_law_kind dc_law_kind pm_law_kind ct_law_kind : Value} {cd_law_kind : Value}
    {f_law_how : Addr} {od_law_how an_law_how : Option Addr} {sl_law_how : Array (Option Value)} {oc_law_how kV_law_how dc_law_how pm_law_how ct_law_how : Value} {cd_law_how : Value}
    {f_is_figured : Addr} {od_is_figured an_is_figured : Option Addr} {sl_is_figured : Array (Option Value)} {oc_is_figured kV_is_figured dc_is_figured pm_is_figured ct_is_figured : Value} {cd_is_figured : Value}
    {f_common_part : Addr} {od_common_part an_common_part : Option Addr} {sl_common_part : Array (Option Value)} {oc_common_part kV_common_part dc_common_part pm_common_part ct_common_part : Value} {cd_common_part : Value}
    {f_Ratio_set_lowest : Addr} {od_Ratio_set_lowest an_Ratio_set_lowest : Option Addr} {sl_Ratio_set_lowest : Array (Option Value)} {oc_Ratio_set_lowest kV_Ratio_set_lowest dc_Ratio_set_lowest pm_Ratio_set_lowest ct_Ratio_set_lowest cd_Ratio_set_lowest : Value}
    {f_Ratio___init__ : Addr} {od_Ratio___init__ an_Ratio___init__ : Option Addr} {sl_Ratio___init__ : Array (Option Value)} {oc_Ratio___init__ kV_Ratio___init__ dc_Ratio___init__ pm_Ratio___init__ ct_Ratio___init__ cd_Ratio___init__ : Value}
    {Td_Ratio___init__ : Addr} {odT_Ratio___init__ : Option Addr} {slT_Ratio___init__ : Array (Option Value)} {ocT_Ratio___init__ : Value} {nT_Ratio___init__ : Nat} {tk0_Ratio___init__ : Tok}
    {f_Ratio___eq__ : Addr} {od_Ratio___eq__ an_Ratio___eq__ : Option Addr} {sl_Ratio___eq__ : Array (Option Value)} {oc_Ratio___eq__ kV_Ratio___eq__ dc_Ratio___eq__ pm_Ratio___eq__ ct_Ratio___eq__ cd_Ratio___eq__ : Value}
    {f_Ratio___str__ : Addr} {od_Ratio___str__ an_Ratio___str__ : Option Addr} {sl_Ratio___str__ : Array (Option Value)} {oc_Ratio___str__ kV_Ratio___str__ dc_Ratio___str__ pm_Ratio___str__ ct_Ratio___str__ cd_Ratio___str__ : Value}
    {f_Ratio___repr__ : Addr} {od_Ratio___repr__ an_Ratio___repr__ : Option Addr} {sl_Ratio___repr__ : Array (Option Value)} {oc_Ratio___repr__ kV_Ratio___repr__ dc_Ratio___repr__ pm_Ratio___repr__ ct_Ratio___repr__ cd_Ratio___repr__ : Value}
    {f_law_purse : Addr} {od_law_purse an_law_purse : Option Addr} {sl_law_purse : Array (Option Value)} {oc_law_purse kV_law_purse dc_law_purse pm_law_purse ct_law_purse : Value} {cd_law_purse : Value}
    {f_law_take : Addr} {od_law_take an_law_take : Option Addr} {sl_law_take : Array (Option Value)} {oc_law_take kV_law_take dc_law_take pm_law_take ct_law_take : Value} {cd_law_take : Value}
    {f_law_low : Addr} {od_law_low an_law_low : Option Addr} {sl_law_low : Array (Option Value)} {oc_law_low kV_law_low dc_law_low pm_law_low ct_law_low : Value} {cd_law_low : Value}
    {f_law_is_ratio : Addr} {od_law_is_ratio an_law_is_ratio : Option Addr} {sl_law_is_ratio : Array (Option Value)} {oc_law_is_ratio kV_law_is_ratio dc_law_is_ratio pm_law_is_ratio ct_law_is_ratio : Value} {cd_law_is_ratio : Value}
    {f_law_far : Addr} {od_law_far an_law_far : Option Addr} {sl_law_far : Array (Option Value)} {oc_law_far kV_law_far dc_law_far pm_law_far ct_law_far : Value} {cd_law_far : Value}
    {f_law_shown : Addr} {od_law_shown an_law_shown : Option Addr} {sl_law_shown : Array (Option Value)} {oc_law_shown kV_law_shown dc_law_shown pm_law_shown ct_law_shown : Value} {cd_law_shown : Value}
    {f_law_right : Addr} {od_law_right an_law_right : Option Addr} {sl_law_right : Array (Option Value)} {oc_law_right kV_law_right dc_law_right pm_law_right ct_law_right : Value} {cd_law_right : Value}
    {f_law : Addr} {od_law an_law : Option Addr} {sl_law : Array (Option Value)} {oc_law kV_law dc_law pm_law ct_law : Value} {c0_law P_law : Addr}
    (aC_Wrong : PySem.W.nsIn K mainGlobals "Wrong" = some (some (.ref C_Wrong)))
    (aC_NoWord : PySem.W.nsIn K mainGlobals "NoWord" = some (some (.ref C_NoWord)))
    (aC_NoText : PySem.W.nsIn K mainGlobals "NoText" = some (some (.ref C_NoText)))
    (aC_NoNumber : PySem.W.nsIn K mainGlobals "NoNumber" = some (some (.ref C_NoNumber)))
    (aC_NoSize : PySem.W.nsIn K mainGlobals "NoSize" = some (some (.ref C_NoSize)))
    (aC_NoLengths : PySem.W.nsIn K mainGlobals "NoLengths" = some (some (.ref C_NoLengths)))
    (aC_NoQuery : PySem.W.nsIn K mainGlobals "NoQuery" = some (some (.ref C_NoQuery)))
    (aC_NoCode : PySem.W.nsIn K mainGlobals "NoCode" = some (some (.ref C_NoCode)))
    (aC_NoRow : PySem.W.nsIn K mainGlobals "NoRow" = some (some (.ref C_NoRow)))
    (aC_NoEntries : PySem.W.nsIn K mainGlobals "NoEntries" = some (some (.ref C_NoEntries)))
    (aC_NoQueryText : PySem.W.nsIn K mainGlobals "NoQueryText" = some (some (.ref C_NoQueryText)))
    (aC_NoPages : PySem.W.nsIn K mainGlobals "NoPages" = some (some (.ref C_NoPages)))
    (aC_NoQueries : PySem.W.nsIn K mainGlobals "NoQueries" = some (some (.ref C_NoQueries)))
    (aC_NoShelf : PySem.W.nsIn K mainGlobals "NoShelf" = some (some (.ref C_NoShelf)))
    (aC_NoPlace : PySem.W.nsIn K mainGlobals "NoPlace" = some (some (.ref C_NoPlace)))
    (aC_NoSlot : PySem.W.nsIn K mainGlobals "NoSlot" = some (some (.ref C_NoSlot)))
    (g_FARTHEST : PySem.W.nsIn K mainGlobals "FARTHEST" = some (some (.int (10 ^ 300) tc_FARTHEST)))
    (z_isinstance : PySem.W.nsIn K mainGlobals "isinstance" = some none)
    (z_bool : PySem.W.nsIn K mainGlobals "bool" = some none)
    (z_int : PySem.W.nsIn K mainGlobals "int" = some none)
    (z_str : PySem.W.nsIn K mainGlobals "str" = some none)
    (z_list : PySem.W.nsIn K mainGlobals "list" = some none)
    (z_tuple : PySem.W.nsIn K mainGlobals "tuple" = some none)
    (z_len : PySem.W.nsIn K mainGlobals "len" = some none)
    (z_max : PySem.W.nsIn K mainGlobals "max" = some none)
    (z_min : PySem.W.nsIn K mainGlobals "min" = some none)
    (z_range : PySem.W.nsIn K mainGlobals "range" = some none)
    (z_abs : PySem.W.nsIn K mainGlobals "abs" = some none)
    (z_ZeroDivisionError : PySem.W.nsIn K mainGlobals "ZeroDivisionError" = some none)
    (z_KeyError : PySem.W.nsIn K mainGlobals "KeyError" = some none)
    (z_repr : PySem.W.nsIn K mainGlobals "repr" = some none)
    (z_ValueError : PySem.W.nsIn K mainGlobals "ValueError" = some none)
    (z_IndexError : PySem.W.nsIn K mainGlobals "IndexError" = some none)
    (aC_NoRatio : PySem.W.nsIn K mainGlobals "NoRatio" = some (some (.ref C_NoRatio)))
    (aC_Held : PySem.W.nsIn K mainGlobals "Held" = some (some (.ref C_Held)))
    (aC_Gone : PySem.W.nsIn K mainGlobals "Gone" = some (some (.ref C_Gone)))
    (q_NoNumber : PySem.W.excIn K C_NoNumber PySem.HandSPX.veTail "ValueError.__new__" = true)
    (kp_NoNumber : PySem.W.keepIn K (.ref C_NoNumber) = true)
    (e1_NoNumber : PySem.W.subIn K (.ref C_NoNumber) (.type "BaseException") = some true)
    (e2_NoNumber : PySem.W.typeIn K (.ref C_NoNumber) = some (.type "type"))
    (q_NoRatio : PySem.W.excIn K C_NoRatio zdTail "ZeroDivisionError.__new__" = true)
    (kp_NoRatio : PySem.W.keepIn K (.ref C_NoRatio) = true)
    (e1_NoRatio : PySem.W.subIn K (.ref C_NoRatio) (.type "BaseException") = some true)
    (e2_NoRatio : PySem.W.typeIn K (.ref C_NoRatio) = some (.type "type"))
    (aC_Ratio : PySem.W.nsIn K mainGlobals "Ratio" = some (some (.ref C_Ratio)))
    (pg_Ratio : PySem.W.plainGet K C_Ratio Str.empty = true)
    (hd_Ratio : PySem.W.hasDictIn K C_Ratio = true)
    (po_Ratio : PySem.W.plainOver K C_Ratio = true)
    (sa_Ratio : PySem.W.findIn K (.ref C_Ratio) "__setattr__" = some (some (.builtin "object.__setattr__")))
    (na_Ratio_top : PySem.W.findIn K (.ref C_Ratio) "top" = some none)
    (na_Ratio_bottom : PySem.W.findIn K (.ref C_Ratio) "bottom" = some none)
    (ka_Ratio : PySem.W.findIn K (.ref C_Ratio) "__class__" = some (some (.builtin "object.__class__")))
    (kn_Ratio : PySem.W.specialIn K (.builtin "object.__class__") "__get__" = some (some (.builtin "getset_descriptor.__get__")))
    (kt_Ratio : PySem.W.takesIn K (.builtin "object.__class__") = some true)
    (km_Ratio : PySem.W.mroIn K C_Ratio (.type "object") = some true)
    (pn_Ratio : plainNotB K C_Ratio = true)
    (neo1_Ratio : PySem.W.findIn K (.ref C_Ratio) "__ne__" = some (some (.builtin "object.__ne__")))
    (neo2_Ratio : PySem.W.subIn K (.ref C_Ratio) (.type "object") = some true)
    (h3_NoNumber : how3B K (csH (⟨C_Wrong, C_NoWord, C_NoText, C_NoNumber, C_NoSize, C_NoLengths, C_NoQuery, C_NoCode, C_NoRow, C_NoEntries, C_NoQueryText, C_NoPages, C_Wrong, C_NoQueries, C_NoShelf, C_Wrong, C_Wrong, C_NoPlace, C_NoSlot⟩ : Zs) C_NoRatio C_Held C_Gone) (clH (⟨C_Wrong, C_NoWord, C_NoText, C_NoNumber, C_NoSize, C_NoLengths, C_NoQuery, C_NoCode, C_NoRow, C_NoEntries, C_NoQueryText, C_NoPages, C_Wrong, C_NoQueries, C_NoShelf, C_Wrong, C_Wrong, C_NoPlace, C_NoSlot⟩ : Zs) C_NoRatio C_Held C_Gone) C_NoNumber 2 0 = true)
    (h3_NoRatio : how3B K (csH (⟨C_Wrong, C_NoWord, C_NoText, C_NoNumber, C_NoSize, C_NoLengths, C_NoQuery, C_NoCode, C_NoRow, C_NoEntries, C_NoQueryText, C_NoPages, C_Wrong, C_NoQueries, C_NoShelf, C_Wrong, C_Wrong, C_NoPlace, C_NoSlot⟩ : Zs) C_NoRatio C_Held C_Gone) (clH (⟨C_Wrong, C_NoWord, C_NoText, C_NoNumber, C_NoSize, C_NoLengths, C_NoQuery, C_NoCode, C_NoRow, C_NoEntries, C_NoQueryText, C_NoPages, C_Wrong, C_NoQueries, C_NoShelf, C_Wrong, C_Wrong, C_NoPlace, C_NoSlot⟩ : Zs) C_NoRatio C_Held C_Gone) C_NoRatio 15 2 = true)
    (a_law_kind : PySem.W.nsIn K mainGlobals "_law_kind" = some (some (.ref f_law_kind)))
    (l_law_kind : K.lookup f_law_kind = some ⟨oc_law_kind, od_law_kind, .func (PySem.W.fnOf "_law_kind" "_law_kind" (defArgs s_law_kind) (defBody s_law_kind) (defScope s_law_kind) .none kV_law_kind dc_law_kind pm_law_kind an_law_kind cd_law_kind ct_law_kind), sl_law_kind⟩)
    (c_law_kind : PySem.W.codeIn K cd_law_kind "_law_kind" = true)
    (k_law_kind : PySem.W.keepIn K (.ref f_law_kind) = true)
    (a_law_how : PySem.W.nsIn K mainGlobals "_law_how" = some (some (.ref f_law_how)))
    (l_law_how : K.lookup f_law_how = some ⟨oc_law_how, od_law_how, .func (PySem.W.fnOf "_law_how" "_law_how" (defArgs s_law_how) (defBody s_law_how) (defScope s_law_how) .none kV_law_how dc_law_how pm_law_how an_law_how cd_law_how ct_law_how), sl_law_how⟩)
    (c_law_how : PySem.W.codeIn K cd_law_how "_law_how" = true)
    (k_law_how : PySem.W.keepIn K (.ref f_law_how) = true)
    (a_is_figured : PySem.W.nsIn K mainGlobals "is_figured" = some (some (.ref f_is_figured)))
    (l_is_figured : K.lookup f_is_figured = some ⟨oc_is_figured, od_is_figured, .func (PySem.W.fnOf "is_figured" "is_figured" (defArgs s_is_figured) (defBody s_is_figured) (defScope s_is_figured) .none kV_is_figured dc_is_figured pm_is_figured an_is_figured cd_is_figured ct_is_figured), sl_is_figured⟩)
    (c_is_figured : PySem.W.codeIn K cd_is_figured "is_figured" = true)
    (k_is_figured : PySem.W.keepIn K (.ref f_is_figured) = true)
    (a_common_part : PySem.W.nsIn K mainGlobals "common_part" = some (some (.ref f_common_part)))
    (l_common_part : K.lookup f_common_part = some ⟨oc_common_part, od_common_part, .func (PySem.W.fnOf "common_part" "common_part" (defArgs s_common_part) (defBody s_common_part) (defScope s_common_part) .none kV_common_part dc_common_part pm_common_part an_common_part cd_common_part ct_common_part), sl_common_part⟩)
    (c_common_part : PySem.W.codeIn K cd_common_part "common_part" = true)
    (k_common_part : PySem.W.keepIn K (.ref f_common_part) = true)
    (a_Ratio_set_lowest : PySem.W.findIn K (.ref C_Ratio) "set_lowest" = some (some (.ref f_Ratio_set_lowest)))
    (i_Ratio_set_lowest : PySem.W.isFn K (.ref f_Ratio_set_lowest) = true)
    (l_Ratio_set_lowest : K.lookup f_Ratio_set_lowest = some ⟨oc_Ratio_set_lowest, od_Ratio_set_lowest, .func (PySem.W.fnOf "set_lowest" "Ratio.set_lowest" (defArgs s_Ratio_set_lowest) (defBody s_Ratio_set_lowest) (defScope s_Ratio_set_lowest) .none kV_Ratio_set_lowest dc_Ratio_set_lowest pm_Ratio_set_lowest an_Ratio_set_lowest cd_Ratio_set_lowest ct_Ratio_set_lowest), sl_Ratio_set_lowest⟩)
    (c_Ratio_set_lowest : PySem.W.codeIn K cd_Ratio_set_lowest "Ratio.set_lowest" = true)
    (k_Ratio_set_lowest : PySem.W.keepIn K (.ref f_Ratio_set_lowest) = true)
    (a_Ratio___init__ : PySem.W.findIn K (.ref C_Ratio) "__init__" = some (some (.ref f_Ratio___init__)))
    (i_Ratio___init__ : PySem.W.isFn K (.ref f_Ratio___init__) = true)
    (l_Ratio___init__ : K.lookup f_Ratio___init__ = some ⟨oc_Ratio___init__, od_Ratio___init__, .func (PySem.W.fnOf "__init__" "Ratio.__init__" (defArgs s_Ratio___init__) (defBody s_Ratio___init__) (defScope s_Ratio___init__) (.ref Td_Ratio___init__) kV_Ratio___init__ dc_Ratio___init__ pm_Ratio___init__ an_Ratio___init__ cd_Ratio___init__ ct_Ratio___init__), sl_Ratio___init__⟩)
    (lT_Ratio___init__ : K.lookup Td_Ratio___init__ = some ⟨ocT_Ratio___init__, odT_Ratio___init__, .seq (List.toArray [.int 1 tk0_Ratio___init__]) nT_Ratio___init__, slT_Ratio___init__⟩)
    (c_Ratio___init__ : PySem.W.codeIn K cd_Ratio___init__ "Ratio.__init__" = true)
    (k_Ratio___init__ : PySem.W.keepIn K (.ref f_Ratio___init__) = true)
    (mk_Ratio : PySem.W.makesIn K C_Ratio = true)
    (kc_Ratio : PySem.W.keepIn K (.ref C_Ratio) = true)
    (a_Ratio___eq__ : PySem.W.findIn K (.ref C_Ratio) "__eq__" = some (some (.ref f_Ratio___eq__)))
    (i_Ratio___eq__ : PySem.W.isFn K (.ref f_Ratio___eq__) = true)
    (l_Ratio___eq__ : K.lookup f_Ratio___eq__ = some ⟨oc_Ratio___eq__, od_Ratio___eq__, .func (PySem.W.fnOf "__eq__" "Ratio.__eq__" (defArgs s_Ratio___eq__) (defBody s_Ratio___eq__) (defScope s_Ratio___eq__) .none kV_Ratio___eq__ dc_Ratio___eq__ pm_Ratio___eq__ an_Ratio___eq__ cd_Ratio___eq__ ct_Ratio___eq__), sl_Ratio___eq__⟩)
    (c_Ratio___eq__ : PySem.W.codeIn K cd_Ratio___eq__ "Ratio.__eq__" = true)
    (k_Ratio___eq__ : PySem.W.keepIn K (.ref f_Ratio___eq__) = true)
    (a_Ratio___str__ : PySem.W.findIn K (.ref C_Ratio) "__str__" = some (some (.ref f_Ratio___str__)))
    (i_Ratio___str__ : PySem.W.isFn K (.ref f_Ratio___str__) = true)
    (l_Ratio___str__ : K.lookup f_Ratio___str__ = some ⟨oc_Ratio___str__, od_Ratio___str__, .func (PySem.W.fnOf "__str__" "Ratio.__str__" (defArgs s_Ratio___str__) (defBody s_Ratio___str__) (defScope s_Ratio___str__) .none kV_Ratio___str__ dc_Ratio___str__ pm_Ratio___str__ an_Ratio___str__ cd_Ratio___str__ ct_Ratio___str__), sl_Ratio___str__⟩)
    (c_Ratio___str__ : PySem.W.codeIn K cd_Ratio___str__ "Ratio.__str__" = true)
    (k_Ratio___str__ : PySem.W.keepIn K (.ref f_Ratio___str__) = true)
    (a_Ratio___repr__ : PySem.W.findIn K (.ref C_Ratio) "__repr__" = some (some (.ref f_Ratio___repr__)))
    (i_Ratio___repr__ : PySem.W.isFn K (.ref f_Ratio___repr__) = true)
    (l_Ratio___repr__ : K.lookup f_Ratio___repr__ = some ⟨oc_Ratio___repr__, od_Ratio___repr__, .func (PySem.W.fnOf "__repr__" "Ratio.__repr__" (defArgs s_Ratio___repr__) (defBody s_Ratio___repr__) (defScope s_Ratio___repr__) .none kV_Ratio___repr__ dc_Ratio___repr__ pm_Ratio___repr__ an_Ratio___repr__ cd_Ratio___repr__ ct_Ratio___repr__), sl_Ratio___repr__⟩)
    (c_Ratio___repr__ : PySem.W.codeIn K cd_Ratio___repr__ "Ratio.__repr__" = true)
    (k_Ratio___repr__ : PySem.W.keepIn K (.ref f_Ratio___repr__) = true)
    (a_law_purse : PySem.W.nsIn K mainGlobals "_law_purse" = some (some (.ref f_law_purse)))
    (l_law_purse : K.lookup f_law_purse = some ⟨oc_law_purse, od_law_purse, .func (PySem.W.fnOf "_law_purse" "_law_purse" (defArgs s_law_purse) (defBody s_law_purse) (defScope s_law_purse) .none kV_law_purse dc_law_purse pm_law_purse an_law_purse cd_law_purse ct_law_purse), sl_law_purse⟩)
    (c_law_purse : PySem.W.codeIn K cd_law_purse "_law_purse" = true)
    (k_law_purse : PySem.W.keepIn K (.ref f_law_purse) = true)
    (a_law_take : PySem.W.nsIn K mainGlobals "_law_take" = some (some (.ref f_law_take)))
    (l_law_take : K.lookup f_law_take = some ⟨oc_law_take, od_law_take, .func (PySem.W.fnOf "_law_take" "_law_take" (defArgs s_law_take) (defBody s_law_take) (defScope s_law_take) .none kV_law_take dc_law_take pm_law_take an_law_take cd_law_take ct_law_take), sl_law_take⟩)
    (c_law_take : PySem.W.codeIn K cd_law_take "_law_take" = true)
    (k_law_take : PySem.W.keepIn K (.ref f_law_take) = true)
    (a_law_low : PySem.W.nsIn K mainGlobals "_law_low" = some (some (.ref f_law_low)))
    (l_law_low : K.lookup f_law_low = some ⟨oc_law_low, od_law_low, .func (PySem.W.fnOf "_law_low" "_law_low" (defArgs s_law_low) (defBody s_law_low) (defScope s_law_low) .none kV_law_low dc_law_low pm_law_low an_law_low cd_law_low ct_law_low), sl_law_low⟩)
    (c_law_low : PySem.W.codeIn K cd_law_low "_law_low" = true)
    (k_law_low : PySem.W.keepIn K (.ref f_law_low) = true)
    (a_law_is_ratio : PySem.W.nsIn K mainGlobals "_law_is_ratio" = some (some (.ref f_law_is_ratio)))
    (l_law_is_ratio : K.lookup f_law_is_ratio = some ⟨oc_law_is_ratio, od_law_is_ratio, .func (PySem.W.fnOf "_law_is_ratio" "_law_is_ratio" (defArgs s_law_is_ratio) (defBody s_law_is_ratio) (defScope s_law_is_ratio) .none kV_law_is_ratio dc_law_is_ratio pm_law_is_ratio an_law_is_ratio cd_law_is_ratio ct_law_is_ratio), sl_law_is_ratio⟩)
    (c_law_is_ratio : PySem.W.codeIn K cd_law_is_ratio "_law_is_ratio" = true)
    (k_law_is_ratio : PySem.W.keepIn K (.ref f_law_is_ratio) = true)
    (a_law_far : PySem.W.nsIn K mainGlobals "_law_far" = some (some (.ref f_law_far)))
    (l_law_far : K.lookup f_law_far = some ⟨oc_law_far, od_law_far, .func (PySem.W.fnOf "_law_far" "_law_far" (defArgs s_law_far) (defBody s_law_far) (defScope s_law_far) .none kV_law_far dc_law_far pm_law_far an_law_far cd_law_far ct_law_far), sl_law_far⟩)
    (c_law_far : PySem.W.codeIn K cd_law_far "_law_far" = true)
    (k_law_far : PySem.W.keepIn K (.ref f_law_far) = true)
    (a_law_shown : PySem.W.nsIn K mainGlobals "_law_shown" = some (some (.ref f_law_shown)))
    (l_law_shown : K.lookup f_law_shown = some ⟨oc_law_shown, od_law_shown, .func (PySem.W.fnOf "_law_shown" "_law_shown" (defArgs s_law_shown) (defBody s_law_shown) (defScope s_law_shown) .none kV_law_shown dc_law_shown pm_law_shown an_law_shown cd_law_shown ct_law_shown), sl_law_shown⟩)
    (c_law_shown : PySem.W.codeIn K cd_law_shown "_law_shown" = true)
    (k_law_shown : PySem.W.keepIn K (.ref f_law_shown) = true)
    (a_law_right : PySem.W.nsIn K mainGlobals "_law_right" = some (some (.ref f_law_right)))
    (l_law_right : K.lookup f_law_right = some ⟨oc_law_right, od_law_right, .func (PySem.W.fnOf "_law_right" "_law_right" (defArgs s_law_right) (defBody s_law_right) (defScope s_law_right) .none kV_law_right dc_law_right pm_law_right an_law_right cd_law_right ct_law_right), sl_law_right⟩)
    (c_law_right : PySem.W.codeIn K cd_law_right "_law_right" = true)
    (k_law_right : PySem.W.keepIn K (.ref f_law_right) = true)
    (a_law : PySem.W.nsIn K mainGlobals "law" = some (some (.ref f_law)))
    (l_law : K.lookup f_law = some ⟨oc_law, od_law, .func (PySem.W.fnOf "law" "law" (defArgs s_law) (defBody s_law) (defScope s_law) .none kV_law dc_law pm_law an_law (.ref c0_law) ct_law), sl_law⟩)
    (c_law : PySem.W.codeIn K (.ref c0_law) "law" = true)
    (k_law : PySem.W.keepIn K (.ref f_law) = true)
    (t_law : h.get? P_law = some (PySem.W.tabObj #[]))
    (ch_law : PySem.W.codeHdIn K c0_law P_law = true)
    (nk_law : K.lookup P_law = none) :
    LamX.LawAtS l w K CX0 8 63 "_law_script" mg fa h := by
  have e := hfa.symm.trans (PySem.W.mg_of X G a_law)
  cases e
  have T : Txt K mg (⟨C_Wrong, C_NoWord, C_NoText, C_NoNumber, C_NoSize, C_NoLengths, C_NoQuery, C_NoCode, C_NoRow, C_NoEntries, C_NoQueryText, C_NoPages, C_Wrong, C_NoQueries, C_NoShelf, C_Wrong, C_Wrong, C_NoPlace, C_NoSlot⟩ : Zs) C_Ratio C_NoRatio C_Held C_Gone := { c_FARTHEST := ⟨_, PySem.W.mg_of X G g_FARTHEST⟩, n_isinstance := PySem.W.mg_none_of X G z_isinstance, n_bool := PySem.W.mg_none_of X G z_bool, n_int := PySem.W.mg_none_of X G z_int, n_str := PySem.W.mg_none_of X G z_str, n_list := PySem.W.mg_none_of X G z_list, n_tuple := PySem.W.mg_none_of X G z_tuple, n_len := PySem.W.mg_none_of X G z_len, n_max := PySem.W.mg_none_of X G z_max, n_min := PySem.W.mg_none_of X G z_min, n_range := PySem.W.mg_none_of X G z_range, n_abs := PySem.W.mg_none_of X G z_abs, n_ZeroDivisionError := PySem.W.mg_none_of X G z_ZeroDivisionError, n_KeyError := PySem.W.mg_none_of X G z_KeyError, n_repr := PySem.W.mg_none_of X G z_repr, n_ValueError := PySem.W.mg_none_of X G z_ValueError, n_IndexError := PySem.W.mg_none_of X G z_IndexError, m_Wrong := PySem.W.mg_of X G aC_Wrong, m_NoWord := PySem.W.mg_of X G aC_NoWord, m_NoText := PySem.W.mg_of X G aC_NoText, m_NoNumber := PySem.W.mg_of X G aC_NoNumber, m_NoSize := PySem.W.mg_of X G aC_NoSize, m_NoLengths := PySem.W.mg_of X G aC_NoLengths, m_NoQuery := PySem.W.mg_of X G aC_NoQuery, m_NoCode := PySem.W.mg_of X G aC_NoCode, m_NoRow := PySem.W.mg_of X G aC_NoRow, m_NoEntries := PySem.W.mg_of X G aC_NoEntries, m_NoQueryText := PySem.W.mg_of X G aC_NoQueryText, m_NoPages := PySem.W.mg_of X G aC_NoPages, m_NoQueries := PySem.W.mg_of X G aC_NoQueries, m_NoShelf := PySem.W.mg_of X G aC_NoShelf, m_NoPlace := PySem.W.mg_of X G aC_NoPlace, m_NoSlot := PySem.W.mg_of X G aC_NoSlot, m_NoRatio := PySem.W.mg_of X G aC_NoRatio, m_Held := PySem.W.mg_of X G aC_Held, m_Gone := PySem.W.mg_of X G aC_Gone, x_NoNumber := ⟨q_NoNumber, kp_NoNumber, e1_NoNumber, e2_NoNumber⟩, x_NoRatio := ⟨q_NoRatio, kp_NoRatio, e1_NoRatio, e2_NoRatio⟩, na_Ratio_top := na_Ratio_top, na_Ratio_bottom := na_Ratio_bottom, cl_Ratio := ⟨pg_Ratio, hd_Ratio, po_Ratio, sa_Ratio⟩, m_Ratio := PySem.W.mg_of X G aC_Ratio }
  have pn_Ratio := plainNotB_ok pn_Ratio
  have ne_Ratio : NeO K C_Ratio := ⟨neo1_Ratio, neo2_Ratio⟩
  have kl_Ratio : Kls K C_Ratio := ⟨⟨pg_Ratio, hd_Ratio, po_Ratio, sa_Ratio⟩, ka_Ratio, kn_Ratio, kt_Ratio, km_Ratio⟩
  have F_law_kind := fun_mk (st := s_law_kind) l_law_kind c_law_kind k_law_kind
  have b_law_kind := F_law_kind.binds (ps := ["_law_e"]) fun _ _ _ _ _ _ us hl => match us, hl with | [_], _ => rfl
  have F_law_how := fun_mk (st := s_law_how) l_law_how c_law_how k_law_how
  have b_law_how := F_law_how.binds (ps := ["_law_deed"]) fun _ _ _ _ _ _ us hl => match us, hl with | [_], _ => rfl
  have F_is_figured := fun_mk (st := s_is_figured) l_is_figured c_is_figured k_is_figured
  have b_is_figured := F_is_figured.binds (ps := ["thing"]) fun _ _ _ _ _ _ us hl => match us, hl with | [_], _ => rfl
  have F_common_part := fun_mk (st := s_common_part) l_common_part c_common_part k_common_part
  have b_common_part := F_common_part.binds (ps := ["one", "other"]) fun _ _ _ _ _ _ us hl => match us, hl with | [_, _], _ => rfl
  have F_Ratio_set_lowest := fun_mk (st := s_Ratio_set_lowest) l_Ratio_set_lowest c_Ratio_set_lowest k_Ratio_set_lowest
  have b_Ratio_set_lowest := F_Ratio_set_lowest.binds (ps := ["self", "top", "bottom"]) fun _ _ _ _ _ _ us hl => match us, hl with | [_, _, _], _ => rfl
  have F_Ratio___eq__ := fun_mk (st := s_Ratio___eq__) l_Ratio___eq__ c_Ratio___eq__ k_Ratio___eq__
  have b_Ratio___eq__ := F_Ratio___eq__.binds (ps := ["self", "other"]) fun _ _ _ _ _ _ us hl => match us, hl with | [_, _], _ => rfl
  have F_Ratio___str__ := fun_mk (st := s_Ratio___str__) l_Ratio___str__ c_Ratio___str__ k_Ratio___str__
  have b_Ratio___str__ := F_Ratio___str__.binds (ps := ["self"]) fun _ _ _ _ _ _ us hl => match us, hl with | [_], _ => rfl
  have F_Ratio___repr__ := fun_mk (st := s_Ratio___repr__) l_Ratio___repr__ c_Ratio___repr__ k_Ratio___repr__
  have b_Ratio___repr__ := F_Ratio___repr__.binds (ps := ["self"]) fun _ _ _ _ _ _ us hl => match us, hl with | [_], _ => rfl
  have F_law_purse := fun_mk (st := s_law_purse) l_law_purse c_law_purse k_law_purse
  have b_law_purse := F_law_purse.binds (ps := ["_law_script", "_law_at"]) fun _ _ _ _ _ _ us hl => match us, hl with | [_, _], _ => rfl
  have F_law_take := fun_mk (st := s_law_take) l_law_take c_law_take k_law_take
  have b_law_take := F_law_take.binds (ps := ["_law_purse_here", "_law_many"]) fun _ _ _ _ _ _ us hl => match us, hl with | [_, _], _ => rfl
  have F_law_low := fun_mk (st := s_law_low) l_law_low c_law_low k_law_low
  have b_law_low := F_law_low.binds (ps := ["_law_upper", "_law_lower"]) fun _ _ _ _ _ _ us hl => match us, hl with | [_, _], _ => rfl
  have F_law_is_ratio := fun_mk (st := s_law_is_ratio) l_law_is_ratio c_law_is_ratio k_law_is_ratio
  have b_law_is_ratio := F_law_is_ratio.binds (ps := ["_law_told", "_law_due"]) fun _ _ _ _ _ _ us hl => match us, hl with | [_, _], _ => rfl
  have F_law_far := fun_mk (st := s_law_far) l_law_far c_law_far k_law_far
  have b_law_far := F_law_far.binds (ps := ["_law_purse_here"]) fun _ _ _ _ _ _ us hl => match us, hl with | [_], _ => rfl
  have F_law_shown := fun_mk (st := s_law_shown) l_law_shown c_law_shown k_law_shown
  have b_law_shown := F_law_shown.binds (ps := ["_law_due"]) fun _ _ _ _ _ _ us hl => match us, hl with | [_], _ => rfl
  have F_law_right := fun_mk (st := s_law_right) l_law_right c_law_right k_law_right
  have b_law_right := F_law_right.binds (ps := ["_law_upper", "_law_lower"]) fun _ _ _ _ _ _ us hl => match us, hl with | [_, _], _ => rfl
  have FC_law := funC_mk (st := s_law) l_law c_law k_law
  have F_law := FC_law.fun_
  refine ⟨PySem.W.fnOf "law" "law" (defArgs s_law) (defBody s_law) (defScope s_law) .none kV_law dc_law pm_law an_law (.ref c0_law) ct_law, [(c0_law, P_law)], spLaw K [(P_law, lamN "law")], ?_, ?_, ?_, fun s v => .of_eq rfl, ?_, fun base _ _ hTB => ?_⟩
  · intro p hp
    simp only [List.mem_cons, List.not_mem_nil, or_false] at hp
    rcases hp with rfl
    · exact t_law
  · intro p hp
    simp only [List.mem_cons, List.not_mem_nil, or_false] at hp
    rcases hp with rfl
    · exact nk_law
  · intro p hp
    simp only [List.mem_cons, List.not_mem_nil, or_false] at hp
    rcases hp with rfl
    · exact PySem.W.codeHd_of_K X ch_law
  · intro H a ns hl _ hE hS
    refine ⟨a, ns, rfl, hS, hl, fun p hp => ?_, fun _ => rfl⟩
    simp only [List.mem_cons, List.not_mem_nil, or_false] at hp
    rcases hp with rfl
    · exact LamX.TabS.nil (hE (c0_law, P_law) (by simp))
  have tb_law := hTB (c0_law, P_law) (by simp)
  have f__law_kind : FnP l.prog w K mg base "_law_kind" _ _ _ := ⟨_, _, ok_kind3 F_law_kind T, PySem.W.mg_of X G a_law_kind, k_law_kind, b_law_kind⟩
  have f__law_how := how_asks3 (P := l.prog) (w := w) (base := base) T F_law_how (PySem.W.mg_of X G a_law_how) b_law_how f__law_kind
  have f_is_figured : Fn l.prog w K mg base "is_figured" _ _ _ := ⟨_, _, ok_fig F_is_figured T, PySem.W.mg_of X G a_is_figured, k_is_figured, b_is_figured⟩
  have f_figA : Fn l.prog w K mg base "is_figured" 1 ["thing"] spFigA := ⟨_, _, ok_figA F_is_figured T, PySem.W.mg_of X G a_is_figured, k_is_figured, b_is_figured⟩
  have f_common_part : Fn l.prog w K mg base "common_part" _ _ _ := ⟨_, _, ok_common F_common_part T, PySem.W.mg_of X G a_common_part, k_common_part, b_common_part⟩
  have me_Ratio_set_lowest : Me l.prog w K mg base C_Ratio "set_lowest" _ _ _ := ⟨_, _, ok_rset F_Ratio_set_lowest T f_common_part, ⟨a_Ratio_set_lowest, i_Ratio_set_lowest, k_Ratio_set_lowest⟩, b_Ratio_set_lowest⟩
  have F_initR : FunD K "__init__" "Ratio.__init__" (defArgs s_Ratio___init__) (defBody s_Ratio___init__) (defScope s_Ratio___init__) [.int 1] [] f_Ratio___init__ _ := ⟨⟨_, _, _, _, _, _, _, _, _, _, rfl, l_Ratio___init__, c_Ratio___init__, .inr ⟨by simp, _, _, _, _, rfl, lT_Ratio___init__, rfl, .cons ⟨_, rfl⟩ .nil⟩, .inl rfl⟩, k_Ratio___init__⟩
  obtain ⟨dR1, hdR1, hbR1⟩ := F_initR.binds1 (ps := ["self", "top", "bottom"]) 2 0 (by simp) rfl (fun T kV doc pm an cdv ct us its h1 h2 => match us, its, h1, h2 with | [_, _], [_], _, _ => ⟨_, rfl, rfl⟩)
  have G_initR := ok_rinit (P := l.prog) (w := w) (base := base) F_initR T f_is_figured me_Ratio_set_lowest
  have mk_Ratio_1 : Mkr l.prog w K mg base "Ratio" C_Ratio _ _ [.int 1] _ := ⟨_, _, _, ⟨mk_Ratio, a_Ratio___init__, i_Ratio___init__, kc_Ratio⟩, G_initR, PySem.W.mg_of X G aC_Ratio, hbR1, hdR1⟩
  obtain ⟨dR2, hdR2, hbR2⟩ := F_initR.binds1 (ps := ["self", "top", "bottom"]) 3 1 (by simp) rfl (fun T kV doc pm an cdv ct us its h1 h2 => match us, its, h1, h2 with | [_, _, _], [_], _, _ => ⟨_, rfl, rfl⟩)
  obtain ⟨dR3, hbR3⟩ := F_initR.kbindsD (ps := ["self", "top", "bottom"]) 1 ["bottom", "top"] (fun us _ ws => us ++ ws.reverse) (by simp) (fun a b c => a.append c.reverse) (fun T kV doc pm an cdv ct us its ws h1 h2 h3 => match us, its, ws, h1, h2, h3 with | [_], [_], [_, _], _, _, _ => ⟨_, rfl, rfl⟩)
  have G_initRX := ok_rinitX (P := l.prog) (w := w) (base := base) F_initR T f_figA f_common_part me_Ratio_set_lowest
  have mk_Ratio_2 : Mkr l.prog w K mg base "Ratio" C_Ratio _ _ [] _ := ⟨_, _, _, ⟨mk_Ratio, a_Ratio___init__, i_Ratio___init__, kc_Ratio⟩, G_initR, PySem.W.mg_of X G aC_Ratio, hbR2, hdR2⟩
  have mk_Ratio_bottom_top : MkrXK l.prog w K mg base "Ratio" C_Ratio _ _ ["bottom", "top"] (fun vs zs => vs ++ zs.reverse) _ := ⟨_, _, _, ⟨mk_Ratio, a_Ratio___init__, i_Ratio___init__, kc_Ratio⟩, fnok_lift G_initR, PySem.W.mg_of X G aC_Ratio, hbR3⟩
  have mx_Ratio_1 : MkrX l.prog w K mg base "Ratio" C_Ratio _ _ [.int 1] _ := ⟨_, _, _, ⟨mk_Ratio, a_Ratio___init__, i_Ratio___init__, kc_Ratio⟩, G_initRX, PySem.W.mg_of X G aC_Ratio, hbR1, hdR1⟩
  have mx_Ratio_2 : MkrX l.prog w K mg base "Ratio" C_Ratio _ _ [] _ := ⟨_, _, _, ⟨mk_Ratio, a_Ratio___init__, i_Ratio___init__, kc_Ratio⟩, G_initRX, PySem.W.mg_of X G aC_Ratio, hbR2, hdR2⟩
  have e_Ratio : EqO l.prog w K mg base C_Ratio _ _ _ := ⟨_, _, ok_req F_Ratio___eq__ T kl_Ratio, a_Ratio___eq__, i_Ratio___eq__, b_Ratio___eq__⟩
  have sp_Ratio_str : Spc l.prog w K mg base C_Ratio "__str__" _ _ _ := ⟨_, _, ok_rstr F_Ratio___str__ T, a_Ratio___str__, i_Ratio___str__, b_Ratio___str__⟩
  have sp_Ratio_repr : Spc l.prog w K mg base C_Ratio "__repr__" _ _ _ := ⟨_, _, ok_rrepr F_Ratio___repr__ T, a_Ratio___repr__, i_Ratio___repr__, b_Ratio___repr__⟩
  have f__law_purse : Fn l.prog w K mg base "_law_purse" _ _ _ := ⟨_, _, ok_purse F_law_purse T, PySem.W.mg_of X G a_law_purse, k_law_purse, b_law_purse⟩
  have f__law_take : Fn l.prog w K mg base "_law_take" _ _ _ := ⟨_, _, ok_take F_law_take , PySem.W.mg_of X G a_law_take, k_law_take, b_law_take⟩
  have f__law_low : Fn l.prog w K mg base "_law_low" _ _ _ := ⟨_, _, ok_low F_law_low T, PySem.W.mg_of X G a_law_low, k_law_low, b_law_low⟩
  have f__law_is_ratio : Fn l.prog w K mg base "_law_is_ratio" _ _ _ := ⟨_, _, ok_isra F_law_is_ratio T, PySem.W.mg_of X G a_law_is_ratio, k_law_is_ratio, b_law_is_ratio⟩
  have f__law_far : Fn l.prog w K mg base "_law_far" _ _ _ := ⟨_, _, ok_far F_law_far T f__law_take, PySem.W.mg_of X G a_law_far, k_law_far, b_law_far⟩
  have f__law_shown : Fn l.prog w K mg base "_law_shown" _ _ _ := ⟨_, _, ok_shown F_law_shown T, PySem.W.mg_of X G a_law_shown, k_law_shown, b_law_shown⟩
  have f__law_right : Fn l.prog w K mg base "_law_right" _ _ _ := ⟨_, _, ok_right F_law_right T pn_Ratio f__law_low f__law_is_ratio f__law_shown sp_Ratio_str sp_Ratio_repr e_Ratio ne_Ratio mk_Ratio_1 mk_Ratio_2 mk_Ratio_bottom_top, PySem.W.mg_of X G a_law_right, k_law_right, b_law_right⟩
  exact ok_law FC_law (TT := [(P_law, lamN "law")]) T tb_law List.mem_cons_self (fun p hp _ => by rw [List.mem_singleton.mp hp]) (how3B_ok h3_NoNumber) (how3B_ok h3_NoRatio) f__law_purse f__law_take f__law_far f__law_right mk_Ratio_1 mk_Ratio_2 mx_Ratio_1 mx_Ratio_2 pn_Ratio e_Ratio ne_Ratio f__law_how
end K31

open PySem PySem.W PySem.Calls PyProof.Rows
set_option maxRecDepth 100000 in
set_option maxHeartbeats 0 in
theorem PySem.Challenge.cw_blocksearch_k31_ratios_made_holds : PySem.Challenge.rw_blocksearch_k31_ratios_made.Holds := by
  refine topK31 ?_
  k_fill
  refine LamX.walk_ofTsE (l := PySem.Challenge.rw_blocksearch_k31_ratios_made) (n := 63) (k := 8) (x := "_law_script") (CX := fun _ => L2.CX0) rfl (by decide) rfl ⟨rfl, by decide, by decide⟩ ?F (fun _ _ _ _ _ h => h.elim)
  case F =>
    intro w mg fa h Y G hmg
    refine ⟨_, PySem.W.km_in_of Y, ?_⟩
    refine' K31.all_mk (PySem.W.km_in_of Y) G hmg ?aC_Wrong ?aC_NoWord ?aC_NoText ?aC_NoNumber ?aC_NoSize ?aC_NoLengths ?aC_NoQuery ?aC_NoCode ?aC_NoRow ?aC_NoEntries ?aC_NoQueryText ?aC_NoPages ?aC_NoQueries ?aC_NoShelf ?aC_NoPlace ?aC_NoSlot ?g_FARTHEST ?z_isinstance ?z_bool ?z_int ?z_str ?z_list ?z_tuple ?z_len ?z_max ?z_min ?z_range ?z_abs ?z_ZeroDivisionError ?z_KeyError ?z_repr ?z_ValueError ?z_IndexError ?aC_NoRatio ?aC_Held ?aC_Gone ?q_NoNumber ?kp_NoNumber ?e1_NoNumber ?e2_NoNumber ?q_NoRatio ?kp_NoRatio ?e1_NoRatio ?e2_NoRatio ?aC_Ratio ?pg_Ratio ?hd_Ratio ?po_Ratio ?sa_Ratio ?na_Ratio_top ?na_Ratio_bottom ?ka_Ratio ?kn_Ratio ?kt_Ratio ?km_Ratio ?pn_Ratio ?neo1_Ratio ?neo2_Ratio ?h3_NoNumber ?h3_NoRatio ?a_law_kind ?l_law_kind ?c_law_kind ?k_law_kind ?a_law_how ?l_law_how ?c_law_how ?k_law_how ?a_is_figured ?l_is_figured ?c_is_figured ?k_is_figured ?a_common_part ?l_common_part ?c_common_part ?k_common_part ?a_Ratio_set_lowest ?i_Ratio_set_lowest ?l_Ratio_set_lowest ?c_Ratio_set_lowest ?k_Ratio_set_lowest ?a_Ratio___init__ ?i_Ratio___init__ ?l_Ratio___init__ ?lT_Ratio___init__ ?c_Ratio___init__ ?k_Ratio___init__ ?mk_Ratio ?kc_Ratio ?a_Ratio___eq__ ?i_Ratio___eq__ ?l_Ratio___eq__ ?c_Ratio___eq__ ?k_Ratio___eq__ ?a_Ratio___str__ ?i_Ratio___str__ ?l_Ratio___str__ ?c_Ratio___str__ ?k_Ratio___str__ ?a_Ratio___repr__ ?i_Ratio___repr__ ?l_Ratio___repr__ ?c_Ratio___repr__ ?k_Ratio___repr__ ?a_law_purse ?l_law_purse ?c_law_purse ?k_law_purse ?a_law_take ?l_law_take ?c_law_take ?k_law_take ?a_law_low ?l_law_low ?c_law_low ?k_law_low ?a_law_is_ratio ?l_law_is_ratio ?c_law_is_ratio ?k_law_is_ratio ?a_law_far ?l_law_far ?c_law_far ?k_law_far ?a_law_shown ?l_law_shown ?c_law_shown ?k_law_shown ?a_law_right ?l_law_right ?c_law_right ?k_law_right ?a_law ?l_law ?c_law ?k_law ?t_law ?ch_law ?nk_law
    (case aC_Wrong => k_is); (case aC_NoWord => k_is); (case aC_NoText => k_is); (case aC_NoNumber => k_is); (case aC_NoSize => k_is); (case aC_NoLengths => k_is); (case aC_NoQuery => k_is); (case aC_NoCode => k_is); (case aC_NoRow => k_is); (case aC_NoEntries => k_is); (case aC_NoQueryText => k_is); (case aC_NoPages => k_is); (case aC_NoQueries => k_is); (case aC_NoShelf => k_is); (case aC_NoPlace => k_is); (case aC_NoSlot => k_is); (case g_FARTHEST => k_is); (case z_isinstance => k_is); (case z_bool => k_is); (case z_int => k_is); (case z_str => k_is); (case z_list => k_is); (case z_tuple => k_is); (case z_len => k_is); (case z_max => k_is); (case z_min => k_is); (case z_range => k_is); (case z_abs => k_is); (case z_ZeroDivisionError => k_is); (case z_KeyError => k_is); (case z_repr => k_is); (case z_ValueError => k_is); (case z_IndexError => k_is); (case aC_NoRatio => k_is); (case aC_Held => k_is); (case aC_Gone => k_is); (case q_NoNumber => k_exc); (case kp_NoNumber => k_is); (case e1_NoNumber => k_is); (case e2_NoNumber => k_is); (case q_NoRatio => k_exc); (case kp_NoRatio => k_is); (case e1_NoRatio => k_is); (case e2_NoRatio => k_is); (case aC_Ratio => k_is); (case pg_Ratio => k_is); (case hd_Ratio => k_is); (case po_Ratio => k_is); (case sa_Ratio => k_is); (case na_Ratio_top => k_is); (case na_Ratio_bottom => k_is); (case ka_Ratio => k_is); (case kn_Ratio => k_is); (case kt_Ratio => k_is); (case km_Ratio => k_is); (case pn_Ratio => exact Eq.refl true); (case neo1_Ratio => k_is); (case neo2_Ratio => k_is); (case h3_NoNumber => exact Eq.refl true); (case h3_NoRatio => exact Eq.refl true); (case a_law_kind => k_is); (case l_law_kind => k_is); (case c_law_kind => k_is); (case k_law_kind => k_is); (case a_law_how => k_is); (case l_law_how => k_is); (case c_law_how => k_is); (case k_law_how => k_is); (case a_is_figured => k_is); (case l_is_figured => k_is); (case c_is_figured => k_is); (case k_is_figured => k_is); (case a_common_part => k_is); (case l_common_part => k_is); (case c_common_part => k_is); (case k_common_part => k_is); (case a_Ratio_set_lowest => k_is); (case i_Ratio_set_lowest => k_is); (case l_Ratio_set_lowest => k_is); (case c_Ratio_set_lowest => k_is); (case k_Ratio_set_lowest => k_is); (case a_Ratio___init__ => k_is); (case i_Ratio___init__ => k_is); (case l_Ratio___init__ => k_is); (case lT_Ratio___init__ => k_is); (case c_Ratio___init__ => k_is); (case k_Ratio___init__ => k_is); (case mk_Ratio => k_is); (case kc_Ratio => k_is); (case a_Ratio___eq__ => k_is); (case i_Ratio___eq__ => k_is); (case l_Ratio___eq__ => k_is); (case c_Ratio___eq__ => k_is); (case k_Ratio___eq__ => k_is); (case a_Ratio___str__ => k_is); (case i_Ratio___str__ => k_is); (case l_Ratio___str__ => k_is); (case c_Ratio___str__ => k_is); (case k_Ratio___str__ => k_is); (case a_Ratio___repr__ => k_is); (case i_Ratio___repr__ => k_is); (case l_Ratio___repr__ => k_is); (case c_Ratio___repr__ => k_is); (case k_Ratio___repr__ => k_is); (case a_law_purse => k_is); (case l_law_purse => k_is); (case c_law_purse => k_is); (case k_law_purse => k_is); (case a_law_take => k_is); (case l_law_take => k_is); (case c_law_take => k_is); (case k_law_take => k_is); (case a_law_low => k_is); (case l_law_low => k_is); (case c_law_low => k_is); (case k_law_low => k_is); (case a_law_is_ratio => k_is); (case l_law_is_ratio => k_is); (case c_law_is_ratio => k_is); (case k_law_is_ratio => k_is); (case a_law_far => k_is); (case l_law_far => k_is); (case c_law_far => k_is); (case k_law_far => k_is); (case a_law_shown => k_is); (case l_law_shown => k_is); (case c_law_shown => k_is); (case k_law_shown => k_is); (case a_law_right => k_is); (case l_law_right => k_is); (case c_law_right => k_is); (case k_law_right => k_is); (case a_law => k_is); (case l_law => k_is); (case c_law => k_is); (case k_law => k_is); (case t_law => exact PySem.W.km_tabs_of Y _ List.mem_cons_self); (case ch_law => exact Eq.refl true); (case nk_law => exact Eq.refl none)

