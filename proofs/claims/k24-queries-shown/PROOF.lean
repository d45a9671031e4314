import PyProof.Rows.All
import Wide.All
import OpenK.AllK
import Wide.FinOn
import HandS.ForMost
import HandS.Evl
import HandS.Wide
import HandS.IsInst
import HandS.Exc
import HandS.Defaults
import HandS.TryMany
import HandS.ExcOwn
import HandS.ExcIs
import HandS.HotCalls
import HandS.ExcField
import HandS.Lambda
import HandS.ExcInit
import HandS.WordsExc
import HandS.Deep
import KE.KExcIs
import KE.DataFind
import HandS.Small
import HandS.RaiseMore
import HandS.Steps
import PyProof.CollectIter
import PyProof.WalksMore
import HandS.More
import HandS.WideBits
import HandS.Replace
import HandS.Style
import KE.GoesMore
import HandS.SetKeys
import HandS.MakeKwOnly
import HandS.IntHex
import HandS.StrMore
import HandS.Rindex
import PyProof.Rows.StrNews2
import PyProof.StrLawsLast
import HandS.OwnEq
import HandS.FStr
import OpenK.KOps
import KE.KCallOwn
import HandS.CallLocal
import HandS.TupAny
import HandS.NoneIn
import HandS.Zip
import HandS.Text
import HandS.MakeKw
import HandS.EndTab
import HandS.HeadWalk
import PySem.Challenge.RW_blocksearch_k24_queries_shown
set_option Elab.async false
set_option linter.all false
set_option maxRecDepth 100000
set_option maxHeartbeats 4000000
set_option autoImplicit false
/-! The layer of this work: bundles of defs, readings as steps. -/
namespace Bw
open PySem PySem.Spec L2

/-! ### a def that lets nothing out, as its callers want it -/
structure Fn (P : Program) (w : World) (K : PySem.W.Frag) (mg : Str → Option Value) (base : Heap) (x : Str) (k : Nat) (ps : List Str) (sp : Sp) : Prop where
  ex : ∃ (f : Addr) (fd : FuncData), FnOk P w K mg base CX0 k f fd ps sp ∧ mg x = some (.ref f) ∧ PySem.W.keepIn K (.ref f) = true ∧ Binds K fd ps []
section
variable {X : Cx}
theorem pe_fn {x : Str} {k : Nat} {ps : List Str} {sp : Sp} {e : Expr} {es : List Expr} {t : TA} {p pos : Pos} (F : Fn X.prog X.w X.K X.mg X.base x k ps sp) (hr : Room k X.A) (hg : Gl X x) (ha : PA X (e :: es) t)
    (hdb : (x == ("__debug__" : Str)) = false := by decide) (he : starEach (e :: es) X.env = (false, eval e X.env) :: starEach es X.env := by rfl) (hpl : (backTo pos (starEach es X.env)).any (·.1) = false := by rfl) :
    PE X (.Call (.Name x p) (e :: es) [] pos) (tCall sp [] E0 t) := by
  obtain ⟨f, fd, G, hm, hk, hb⟩ := F.ex
  exact pe_call G hr hg hm hk hb .nil pass0 ha hdb he hpl
theorem pe_fn0 {x : Str} {k : Nat} {ps : List Str} {sp : Sp} {p pos : Pos} (F : Fn X.prog X.w X.K X.mg X.base x k ps sp) (hr : Room k X.A) (hg : Gl X x)
    (hdb : (x == ("__debug__" : Str)) = false := by decide) : PE X (.Call (.Name x p) [] [] pos) (tCall sp [] E0 tNil) := by
  obtain ⟨f, fd, G, hm, hk, hb⟩ := F.ex
  exact pe_call0 G hr hg hm hk hb .nil pass0 hdb
end
/-! ### methods and makers as their callers want them -/
structure Me (P : Program) (w : World) (K : PySem.W.Frag) (mg : Str → Option Value) (base : Heap) (C : Addr) (m : Str) (k : Nat) (ps : List Str) (sp : Sp) : Prop where
  ex : ∃ (f : Addr) (fd : FuncData), FnOk P w K mg base CX0 k f fd ps sp ∧ Meth K C m f ∧ Binds K fd ps []
structure Mkr (P : Program) (w : World) (K : PySem.W.Frag) (mg : Str → Option Value) (base : Heap) (x : Str) (C : Addr) (k : Nat) (ps : List Str) (dvs : List V) (sp : Sp) : Prop where
  ex : ∃ (f : Addr) (fd : FuncData) (ds : List Value), Mk K C f ∧ FnOk P w K mg base CX0 k f fd ps sp ∧ mg x = some (.ref C) ∧ Binds K fd ps ds ∧ Vals dvs ds
section
variable {X : Cx}
theorem pe_me {pl : Sem Bool} {C : Addr} {m : Str} {k : Nat} {ps : List Str} {sp : Sp} {o e : Expr} {es : List Expr} {t : TA} {ta : TE} {apos pos : Pos} (he : PE X o ta) (c : Cls X.K C) (M : Me X.prog X.w X.K X.mg X.base C m k ps sp) (hr : Room k X.A) (ha : PA X (e :: es) t)
    (hst : starEach (e :: es) X.env = (false, eval e X.env) :: starEach es X.env := by rfl) (hpl : (backTo pos (starEach es X.env)).any (·.1) = false := by rfl)
    (ht : eval (.Call (.Attribute o m apos) (e :: es) [] pos) X.env = (do
      let ov ← eval o X.env
      standAt apos.atName
      let (f, first) ← holding [ov] (getMethod ov m pl)
      callWith pos f first (backTo pos (starEach (e :: es) X.env)) (backToKw pos (keywordEach [] X.env))) := by rfl) :
    PE X (.Call (.Attribute o m apos) (e :: es) [] pos) (tMeth C m sp [] E0 ta t) := by
  obtain ⟨f, fd, G, hm, hb⟩ := M.ex
  exact pe_meth he c hm G hr hb .nil pass0 ha hst hpl ht
theorem pe_me0 {pl : Sem Bool} {C : Addr} {m : Str} {k : Nat} {ps : List Str} {sp : Sp} {o : Expr} {ta : TE} {apos pos : Pos} (he : PE X o ta) (c : Cls X.K C) (M : Me X.prog X.w X.K X.mg X.base C m k ps sp) (hr : Room k X.A)
    (ht : eval (.Call (.Attribute o m apos) [] [] pos) X.env = (do
      let ov ← eval o X.env
      standAt apos.atName
      let (f, first) ← holding [ov] (getMethod ov m pl)
      callWith pos f first (backTo pos (starEach [] X.env)) (backToKw pos (keywordEach [] X.env))) := by rfl) :
    PE X (.Call (.Attribute o m apos) [] [] pos) (tMeth C m sp [] E0 ta tNil) := by
  obtain ⟨f, fd, G, hm, hb⟩ := M.ex
  exact pe_meth0 he c hm G hr hb .nil pass0 ht
theorem pe_mkr {x : Str} {C : Addr} {k : Nat} {ps : List Str} {dvs : List V} {sp : Sp} {e : Expr} {es : List Expr} {t : TA} {p pos : Pos} (M : Mkr X.prog X.w X.K X.mg X.base x C k ps dvs sp) (hr : Room (k + 1) X.A) (hg : Gl X x) (ha : PA X (e :: es) t)
    (hdb : (x == ("__debug__" : Str)) = false := by decide) (he : starEach (e :: es) X.env = (false, eval e X.env) :: starEach es X.env := by rfl) (hpl : (backTo pos (starEach es X.env)).any (·.1) = false := by rfl) :
    PE X (.Call (.Name x p) (e :: es) [] pos) (tMake C sp dvs E0 t) := by
  obtain ⟨f, fd, ds, M, G, hm, hb, hd⟩ := M.ex
  exact pe_make M G hr hg hm hb hd pass0 ha hdb he hpl
theorem pe_gint {x : Str} {n : Int} {p : Pos} (h : ∃ t, X.mg x = some (.int n t)) (hg : Gl X x) (hd : (x == ("__debug__" : Str)) = false := by decide) : PE X (.Name x p) (tC (.int n)) := by
  obtain ⟨t, h⟩ := h
  exact pe_glob hg h ⟨t, rfl⟩ hd
theorem pe_gstr {x : Str} {z : Str} {p : Pos} (h : ∃ t, X.mg x = some (.str z t)) (hg : Gl X x) (hd : (x == ("__debug__" : Str)) = false := by decide) : PE X (.Name x p) (tC (.str z)) := by
  obtain ⟨t, h⟩ := h
  exact pe_glob hg h ⟨t, rfl⟩ hd
end
section
variable {X : Cx}
/-! ### an attribute as a target -/
def gFld (K : PySem.W.Frag) (to : TE) (f : Str) : TG := fun v σ H Q => to σ H fun x H1 => ∃ a C dx fs, x = .ref a ∧ H1 a = some (.ins C dx fs) ∧ Cls K C ∧ NoAttr K C f ∧ fs.length < 1000 ∧ Q σ (upd H1 a (.ins C dx (putF f v fs)))
theorem pg_fld {o : Expr} {f : Str} {pos : Pos} {to : TE} (ho : PE X o to) : PG X (.Attribute o f pos) (gFld X.K to f) := by
  refine ⟨fun pins s σ H v u Q I r h => ?_⟩
  rw [assign_Attribute]
  refine wpAny_bind (wpAny_holding (thn (ho.run pins s σ H _ I h) fun ov s1 ⟨x, H1, I1, r1, a, C, dx, fs, ex, ea, c, n, l, q1⟩ => ?_))
  subst ex
  obtain rfl : ov = Value.ref a := r1
  refine wpAny_bind (wpAny_standAt (wpAny_bind (wpAny_holding (setattr_ok I1 ea c n l r fun s3 I3 => ?_))))
  exact wpAny_release ⟨σ, _, I3, q1⟩

/-! ### ints of any size -/
def CDivU (_ j : Int) : Prop := j ≠ 0 ∧ j.natAbs.log2 < 9000
theorem op_fdivU : OpR X (binaryOp .FloorDiv) (rI CDivU fun i j => .int (i.fdiv j)) := opI fun i j _ _ _ _ _ hc q =>
  PyProof.Rows.floordiv_int hc.1 q (.inl (PyProof.noPylong_of_log2 hc.2))
def CMulU (i j : Int) : Prop := IntMulOk i j
theorem op_mulU : OpR X (binaryOp .Mult) (rI CMulU fun i j => .int (i * j)) := opI fun _ _ _ _ _ _ _ hc q => PyProof.Rows.mul_int q hc
def CPowU (i j : Int) : Prop := 0 ≤ j ∧ (Builtin.Int.intBits i : Int) * j ≤ 2 ^ 27
theorem op_powU : OpR X (binaryOp .Pow) (rI CPowU fun i j => .int (i ^ j.toNat)) := opI fun _ _ _ _ _ _ _ hc q => PyProof.Rows.pow_int hc.1 hc.2 q
end
theorem bits_le {x : Int} {a : Nat} (h : x.natAbs < 2 ^ a) (h0 : 0 < a) : Builtin.Int.intBits x ≤ a := by
  unfold Builtin.Int.intBits
  split
  · omega
  · exact PySem.Flt.log2_lt_of h0 h
theorem powU {i j : Int} {a : Nat} (h : i.natAbs < 2 ^ a) (h0 : 0 < a) (hj : 0 ≤ j) (hs : (a : Int) * j ≤ 2 ^ 27) : CPowU i j := by
  refine ⟨hj, Int.le_trans (Int.mul_le_mul_of_nonneg_right (Int.ofNat_le.mpr (bits_le h h0)) hj) hs⟩
theorem divU {i j : Int} {b : Nat} (h : j ≠ 0) (hb : j.natAbs < 2 ^ b) (h0 : 0 < b) (h9 : b ≤ 9000) : CDivU i j := ⟨h, Nat.lt_of_lt_of_le (PySem.Flt.log2_lt_of h0 hb) h9⟩

/-! ### named readings of calls -/
section
variable {X : Cx}
theorem callR_imp {f : Value} {r r' : List V → Hp → VK → Prop} (h : CallR X f r) (i : ∀ xs H Q, r' xs H Q → r xs H Q) : CallR X f r' :=
  fun pins s σ H xs us Q I rv q => h pins s σ H xs us Q I rv (i _ _ _ q)
theorem opR_imp {f : Value → Value → Sem Value} {r r' : R2} (h : OpR X f r) (i : ∀ x y H Q, r' x y H Q → r x y H Q) : OpR X f r' :=
  fun pins s σ H x y v u Q I rx ry q => h pins s σ H x y v u Q I rx ry (i _ _ _ _ q)
def rAbs : List V → Hp → VK → Prop := fun xs H Q => ∃ i : Int, xs = [.int i] ∧ Q (.int i.natAbs) H
theorem cl_abs : CallR X (.builtin "abs") rAbs := callR_imp call_abs fun xs H Q ⟨i, e, q⟩ => ⟨i, e, by
  have : (if i < 0 then -i else i) = (i.natAbs : Int) := by split <;> omega
  rw [this]; exact q⟩
def rMaxI : List V → Hp → VK → Prop := fun xs H Q => ∃ i j : Int, xs = [.int i, .int j] ∧ Q (.int (max i j)) H
def rMinI : List V → Hp → VK → Prop := fun xs H Q => ∃ i j : Int, xs = [.int i, .int j] ∧ Q (.int (min i j)) H
theorem cl_max (hc : X.calm = true) : CallR X (.builtin "max") rMaxI := callR_imp (call_max2 hc) fun xs H Q ⟨i, j, e, q⟩ => ⟨i, j, e, by
  have : (if j > i then j else i) = max i j := by split <;> omega
  rw [this]; exact q⟩
theorem cl_min (hc : X.calm = true) : CallR X (.builtin "min") rMinI := callR_imp (call_min2 hc) fun xs H Q ⟨i, j, e, q⟩ => ⟨i, j, e, by
  have : (if j < i then j else i) = min i j := by split <;> omega
  rw [this]; exact q⟩
def rIntOf : List V → Hp → VK → Prop := fun xs H Q => (∃ i, xs = [.int i] ∧ Q (.int i) H) ∨ ∃ k : Bool, xs = [.bl k] ∧ Q (.int (if k then 1 else 0)) H
theorem cl_int : CallR X (.type "int") rIntOf := call_int1
def rLen (K : PySem.W.Frag) : List V → Hp → VK → Prop := fun xs H Q => ∃ x n, xs = [x] ∧ LenV K x H n ∧ Q (.int n) H
theorem cl_len : CallR X (.builtin "len") (rLen X.K) := call_len
def rStrI : List V → Hp → VK → Prop := fun xs H Q => ∃ i : Int, xs = [.int i] ∧ i.natAbs.log2 < 1920 ∧ Q (.str (toString i)) H
theorem cl_str : CallR X (.type "str") rStrI := call_str_int
def rOrd : List V → Hp → VK → Prop := fun xs H Q => ∃ x, xs = [.str x] ∧ x.length = 1 ∧ Q (.int (x.cps.getD 0 0 : Nat)) H
theorem cl_ord : CallR X (.builtin "ord") rOrd := call_ord
def rAddS : R2 := fun x y H Q => ∃ i j, x = .str i ∧ y = .str j ∧ i.length + j.length ≤ sizeLine ∧ Q (.str (i ++ j)) H
theorem op_addS : OpR X (binaryOp .Add) rAddS := op_add_str
def rIs0 : R2 := fun x y H Q => y = .non ∧ Q (.bl (decide (x = .non))) H
def rIsNot0 : R2 := fun x y H Q => y = .non ∧ Q (.bl (!decide (x = .non))) H
theorem op_is0 : OpR X (compareOp .Is) rIs0 := op_isN
theorem op_isnot0 : OpR X (compareOp .IsNot) rIsNot0 := op_notN
end

/-! ### readings, step by step -/
section
variable {σ : St} {H H' : Hp} {i : Nat} {v x y z : V} {ta tb te tv tc : TE} {b : Bool} {K : PySem.W.Frag} {Q : VK} {QB : Bool → Hp → Prop} {D : Ends} {t u : TS} {tt tu : TT} {a : Addr} {r r' : R2}
theorem w_seq (h : t { D with nx := u D } σ H) : tSeq t u D σ H := h
theorem w_next (h : D.nx σ H) : tNext D σ H := h
theorem w_set (h : te σ H fun x H1 => D.nx (σ.set i (some x)) H1) : tAsg te (gName i) D σ H := h
theorem w_asg {g : TG} (h : te σ H fun x H1 => g x σ H1 D.nx) : tAsg te g D σ H := h
theorem w_par {j : Nat} {tA : TA} (h : tA σ H fun vs H1 => ∃ v w, vs = [v, w] ∧ D.nx ((σ.set i (some v)).set j (some w)) H1) : tPar i j tA D σ H := h
theorem w_ret (h : te σ H D.rt) : tRet te D σ H := h
theorem w_retN (h : D.rt .non H) : tRetN D σ H := h
theorem w_drop (h : te σ H fun _ H1 => D.nx σ H1) : tDrop te D σ H := h
theorem w_if (h : tt σ H fun b H1 => if b = true then t D σ H1 else u D σ H1) : tIfS tt t u D σ H := h
theorem w_ifE (h : tt σ H fun b H1 => if b = true then ta σ H1 Q else tb σ H1 Q) : tIf tt ta tb σ H Q := h
theorem w_var (h : σ[i]? = some (some v)) (q : Q v H) : tVar i σ H Q := ⟨v, h, q⟩
theorem w_c (q : Q v H) : tC v σ H Q := q
theorem w_op (h : ta σ H fun x H1 => tb σ H1 fun y H2 => r x y H2 Q) : tOp r ta tb σ H Q := h
theorem w_un {r : V → Hp → VK → Prop} (h : ta σ H fun x H1 => r x H1 Q) : tUn r ta σ H Q := h
theorem w_I0 {g : Int → Int → V} {m n : Int} (q : Q (g m n) H) : rI0 g (.int m) (.int n) H Q := ⟨m, n, rfl, rfl, q⟩
theorem w_I {C : Int → Int → Prop} {g : Int → Int → V} {m n : Int} (hc : C m n) (q : Q (g m n) H) : rI C g (.int m) (.int n) H Q := ⟨m, n, rfl, rfl, hc, q⟩
theorem w_U {g : Int → V} {m : Int} (q : Q (g m) H) : rU g (.int m) H Q := ⟨m, rfl, q⟩
theorem w_eq (h : scal x y = true) (q : Q (.bl (decide (x = y))) H) : rEq x y H Q := ⟨h, q⟩
theorem w_ne (h : scal x y = true) (q : Q (.bl (!decide (x = y))) H) : rNe x y H Q := ⟨h, q⟩
theorem w_is0 (q : Q (.bl (decide (x = .non))) H) : rIs0 x .non H Q := ⟨rfl, q⟩
theorem w_isnot0 (q : Q (.bl (!decide (x = .non))) H) : rIsNot0 x .non H Q := ⟨rfl, q⟩
theorem w_test (h : te σ H fun x H' => ∃ k, x = .bl k ∧ QB k H') : tTest te σ H QB := h
theorem w_tB (h : te σ H fun x H' => ∃ k, x = .bl k ∧ QB k H') : tB te σ H QB := h
theorem w_bl {R : Bool → Prop} (q : R b) : ∃ k, V.bl b = .bl k ∧ R k := ⟨b, rfl, q⟩
theorem w_and (h : tt σ H fun c H1 => if c = true then tu σ H1 QB else QB false H1) : tAnd tt tu σ H QB := h
theorem w_or (h : tt σ H fun c H1 => if c = true then QB true H1 else tu σ H1 QB) : tOr tt tu σ H QB := h
theorem w_not (h : tt σ H fun c H1 => QB (!c) H1) : tNot tt σ H QB := h
theorem w_andV (h : ta σ H fun x H1 => ∃ c, x = .bl c ∧ if c = true then tb σ H1 Q else Q (.bl false) H1) : tAndV ta tb σ H Q := h
theorem w_orV (h : ta σ H fun x H1 => ∃ c, x = .bl c ∧ if c = true then Q (.bl true) H1 else tb σ H1 Q) : tOrV ta tb σ H Q := h
theorem w_notV (h : ta σ H fun x H1 => ∃ c, x = .bl c ∧ Q (.bl (!c)) H1) : tNotV ta σ H Q := h
theorem w_chain (h : ta σ H fun x H1 => tb σ H1 fun y H2 => r x y H2 fun z H3 => ∃ k, z = .bl k ∧ (if k = true then tc σ H3 fun w' H4 => r' y w' H4 Q else Q (.bl false) H3)) : tChain r r' ta tb tc σ H Q := h
theorem w_cons {tr : TA} {QA : List V → Hp → Prop} (h : ta σ H fun x H1 => tr σ H1 fun xs H2 => QA (x :: xs) H2) : tCons ta tr σ H QA := h
theorem w_nil {QA : List V → Hp → Prop} (q : QA [] H) : tNil σ H QA := q
theorem w_call {sp : Sp} {tA : TA} {E : XK} (h : tA σ H fun vs H1 => sp (vs ++ []) H1 Q E) : tCall sp [] E tA σ H Q := h
theorem w_cb {r : List V → Hp → VK → Prop} {tA : TA} (h : tA σ H fun vs H1 => r vs H1 Q) : tCB r tA σ H Q := h

/-! ### new objects: the heap as a letter -/
theorem same_new {p : Addr} {o : HO} (h : H p = none) : Same H (upd H p o) := fun c w e => by
  rw [upd_ne (ne_of_none e h)]
  exact e
theorem w_tup {tA : TA} (h : tA σ H fun xs H1 => xs.length ≤ sizeLine ∧ ∀ p H2, H1 p = none → Same H1 H2 → H2 p = some (.tup xs) → Q (.ref p) H2) (mono : ∀ σ H (Q Q' : List V → Hp → Prop), (∀ xs H, Q xs H → Q' xs H) → tA σ H Q → tA σ H Q') : tTup tA σ H Q :=
  mono _ _ _ _ (fun xs H1 ⟨l, k⟩ => ⟨l, fun p hp => k p _ hp (same_new hp) upd_same⟩) h
theorem w_newT {xs : List V} {H1 : Hp} (hl : xs.length ≤ sizeLine) (k : ∀ p H2, H1 p = none → Same H1 H2 → H2 p = some (.tup xs) → Q (.ref p) H2) : xs.length ≤ sizeLine ∧ ∀ p, H1 p = none → Q (.ref p) (upd H1 p (.tup xs)) :=
  ⟨hl, fun p hp => k p _ hp (same_new hp) upd_same⟩
theorem w_newL {xs : List V} {H1 : Hp} (hl : xs.length ≤ sizeLine) (k : ∀ p H2, H1 p = none → Same H1 H2 → H2 p = some (.lst xs) → Q (.ref p) H2) : xs.length ≤ sizeLine ∧ ∀ p, H1 p = none → Q (.ref p) (upd H1 p (.lst xs)) :=
  ⟨hl, fun p hp => k p _ hp (same_new hp) upd_same⟩
theorem w_tupE {tA : TA} (h : tA σ H fun xs H1 => xs.length ≤ sizeLine ∧ ∀ p, H1 p = none → Q (.ref p) (upd H1 p (.tup xs))) : tTup tA σ H Q := h
theorem w_lstE {tA : TA} (h : tA σ H fun xs H1 => xs.length ≤ sizeLine ∧ ∀ p, H1 p = none → Q (.ref p) (upd H1 p (.lst xs))) : tLst tA σ H Q := h
/-! ### calls of built-ins, subscripts -/
theorem w_abs {m : Int} (q : Q (.int m.natAbs) H) : rAbs [.int m] H Q := ⟨m, rfl, q⟩
theorem w_max {m n : Int} (q : Q (.int (max m n)) H) : rMaxI [.int m, .int n] H Q := ⟨m, n, rfl, q⟩
theorem w_min {m n : Int} (q : Q (.int (min m n)) H) : rMinI [.int m, .int n] H Q := ⟨m, n, rfl, q⟩
theorem w_intI {m : Int} (q : Q (.int m) H) : rIntOf [.int m] H Q := .inl ⟨m, rfl, q⟩
theorem w_intB {k : Bool} (q : Q (.int (if k then 1 else 0)) H) : rIntOf [.bl k] H Q := .inr ⟨k, rfl, q⟩
theorem w_lenL {p : Addr} {xs : List V} (h : SqL K H p xs) (q : Q (.int xs.length) H) : rLen K [.ref p] H Q := ⟨_, _, rfl, .inl ⟨xs, h, rfl⟩, q⟩
theorem w_lenT {p : Addr} {xs : List V} (h : SqT K H p xs) (q : Q (.int xs.length) H) : rLen K [.ref p] H Q := ⟨_, _, rfl, .inr ⟨xs, h, rfl⟩, q⟩
theorem w_lenS {w : Str} (h : w.length ≤ sizeLine) (q : Q (.int w.length) H) : rLen K [.str w] H Q := ⟨_, _, rfl, ⟨h, rfl⟩, q⟩
theorem w_ixL {p : Addr} {xs : List V} {m : Int} (h : SqL K H p xs) (ha : atI xs m = some v) (q : Q v H) : rIxL K (.ref p) (.int m) H Q := ⟨p, xs, m, v, rfl, rfl, h, ha, q⟩
theorem w_ixT {p : Addr} {xs : List V} {m : Int} (h : SqT K H p xs) (ha : atI xs m = some v) (q : Q v H) : rIxT K (.ref p) (.int m) H Q := ⟨p, xs, m, v, rfl, rfl, h, ha, q⟩
theorem w_ixS {w : Str} {m : Int} {c : Nat} (h : w.length ≤ sizeLine) (ha : atI w.cps.toList m = some c) (q : Q (.str ⟨#[c]⟩) H) : rIxS (.str w) (.int m) H Q := ⟨w, m, c, rfl, rfl, h, ha, q⟩
theorem w_isi {c : V} {tv cv : Value} {k : Bool} (hc : ClsV c cv) (ht : TyX K H x tv) (hk : PySem.W.kitOne K tv cv = some k) (q : Q (.bl k) H) : rIsi K [x, c] H Q := ⟨x, c, tv, cv, k, rfl, hc, ht, hk, q⟩
theorem w_gname {Q2 : L2.St → Hp → Prop} (q : Q2 (σ.set i (some v)) H) : gName i v σ H Q2 := q
theorem w_gsub {to ti : TE} {ts : TSet} {Q2 : L2.St → Hp → Prop} (h : to σ H fun o H1 => ti σ H1 fun i H2 => ts o i v H2 fun H3 => Q2 σ H3) : gSub to ti ts v σ H Q2 := h
theorem w_fld {C dx : Addr} {fs : List (Str × V)} {f : Str} {R : V → Prop} (ho : H a = some (.ins C dx fs)) (hc : Cls K C) (hn : NoAttr K C f) (hl : fs.lookup f = some v) (q : R v) : ∃ a' C dx fs v, V.ref a = .ref a' ∧ H a' = some (.ins C dx fs) ∧ Cls K C ∧ NoAttr K C f ∧ fs.lookup f = some v ∧ R v := ⟨a, C, dx, fs, v, rfl, ho, hc, hn, hl, q⟩
theorem w_fldE {f : Str} (h : ta σ H fun x H1 => ∃ a C dx fs v, x = .ref a ∧ H1 a = some (.ins C dx fs) ∧ Cls K C ∧ NoAttr K C f ∧ fs.lookup f = some v ∧ Q v H1) : tFld K ta f σ H Q := h
end

section
variable {σ : L2.St} {H H' : Hp} {i : Nat} {v x y z : V} {ta tb te tv tc : TE} {b : Bool} {K : PySem.W.Frag} {Q : VK} {QB : Bool → Hp → Prop} {D : Ends} {a C dx : Addr} {fs : List (Str × V)} {f m : Str}
theorem w_two {R : V → V → Prop} (q : R x y) : ∃ v w, [x, y] = [v, w] ∧ R v w := ⟨x, y, rfl, q⟩
theorem w_methE {sp : Sp} {dvs : List V} {E : XK} {t : TA} (h : ta σ H fun x H1 => ∃ a dx fs, x = .ref a ∧ H1 a = some (.ins C dx fs) ∧ fs.lookup m = none ∧ t σ H1 fun vs H2 => sp (x :: (vs ++ dvs)) H2 Q E) : tMeth C m sp dvs E ta t σ H Q := h
theorem w_meth {R : Prop} (ho : H a = some (.ins C dx fs)) (hl : fs.lookup m = none) (q : R) : ∃ a' dx fs, V.ref a = .ref a' ∧ H a' = some (.ins C dx fs) ∧ fs.lookup m = none ∧ R := ⟨a, dx, fs, rfl, ho, hl, q⟩
theorem w_makeE {sp : Sp} {dvs : List V} {E : XK} {t : TA} (h : t σ H fun vs H1 => ∀ x dx, H1 x = none → H1 dx = none → dx ≠ x →
  sp (.ref x :: (vs ++ dvs)) (upd (upd H1 dx (.own x)) x (.ins C dx [])) (fun v H2 => v = .non ∧ Q (.ref x) H2) E) : tMake C sp dvs E t σ H Q := h
theorem w_make {sp : Sp} {vs : List V} {E : XK} {H1 : Hp} (k : ∀ r dr H2, H1 r = none → H1 dr = none → Same H1 H2 → H2 r = some (.ins C dr []) → sp (.ref r :: vs) H2 (fun v H3 => v = .non ∧ Q (.ref r) H3) E) :
    ∀ x dx, H1 x = none → H1 dx = none → dx ≠ x → sp (.ref x :: vs) (upd (upd H1 dx (.own x)) x (.ins C dx [])) (fun v H2 => v = .non ∧ Q (.ref x) H2) E := by
  intro r dr nr nd ne
  refine k r dr _ nr nd (fun c o e => ?_) upd_same
  rw [upd_ne (ne_of_none e nr), upd_ne (ne_of_none e nd)]
  exact e
theorem w_isiB {tx tn : String} {k : Bool} (ht : TyX K H x (.type tx)) (hk : kitB tx tn = some k) (q : Q (.bl k) H) : rIsi K [x, .ty tn] H Q := ⟨x, .ty tn, _, _, k, rfl, .ty tn, ht, kit_ty hk, q⟩
theorem w_sfld {D : Ends} (h : tv σ H fun y H1 => ta σ H1 fun x H2 => ∃ a C dx fs, x = .ref a ∧ H2 a = some (.ins C dx fs) ∧ Cls K C ∧ NoAttr K C f ∧ fs.length < 1000 ∧ D.nx σ (upd H2 a (.ins C dx (putF f y fs)))) : sFld K ta tv f D σ H := h
theorem w_gfldE {to : TE} {Q2 : L2.St → Hp → Prop} (h : to σ H fun x H1 => ∃ a C dx fs, x = .ref a ∧ H1 a = some (.ins C dx fs) ∧ Cls K C ∧ NoAttr K C f ∧ fs.length < 1000 ∧ Q2 σ (upd H1 a (.ins C dx (putF f v fs)))) : gFld K to f v σ H Q2 := h
/-- a store to an attribute: the heap as a letter -/
def KB (p : Addr) (H H' : Hp) : Prop := ∀ c o, H c = some o → c ≠ p → H' c = some o
theorem KB.refl {p : Addr} : KB p H H := fun _ _ h _ => h
theorem KB.trans {p : Addr} {H1 H2 : Hp} (e : KB p H H1) (e' : KB p H1 H2) : KB p H H2 := fun c o h n => e' c o (e c o h n) n
theorem KB.of {p : Addr} (e : Same H H') : KB p H H' := fun c o h _ => e c o h
theorem KB.same {p : Addr} {H0 : Hp} (e : KB p H H') (e0 : Same H0 H) (n : H0 p = none) : Same H0 H' := fun c o h => e c o (e0 c o h) (ne_of_none h n)
theorem kb_upd {p : Addr} {o : HO} : KB p H (upd H p o) := fun c u h n => by rw [upd_ne n]; exact h
theorem w_st {R : Addr → Addr → Addr → List (Str × V) → Prop} (ho : H a = some (.ins C dx fs)) (hc : Cls K C) (hn : NoAttr K C f) (hl : fs.length < 1000) (q : R a C dx fs) :
    ∃ a' C dx fs, V.ref a = .ref a' ∧ H a' = some (.ins C dx fs) ∧ Cls K C ∧ NoAttr K C f ∧ fs.length < 1000 ∧ R a' C dx fs := ⟨a, C, dx, fs, rfl, ho, hc, hn, hl, q⟩
theorem w_setL {p : Addr} {xs : List V} {m : Int} {j : Nat} {QH : Hp → Prop} (h : H p = some (.lst xs)) (hj : ixN xs.length m = some j) (k : ∀ H2, KB p H H2 → H2 p = some (.lst (xs.set j v)) → QH H2) : rSetL (.ref p) (.int m) v H QH := ⟨p, xs, m, j, rfl, rfl, h, hj, k _ kb_upd upd_same⟩
theorem w_gtup {n : Nat} {t : TGs} {xs : List V} {Q2 : L2.St → Hp → Prop} (h : SqT K H a xs) (hn : xs.length = n) (q : t xs σ H Q2) : gTup K n t (.ref a) σ H Q2 := ⟨a, xs, rfl, h, hn, q⟩
theorem w_gcons {g : TG} {t : TGs} {r : List V} {Q2 : L2.St → Hp → Prop} (q : g v σ H fun σ' H' => t r σ' H' Q2) : gCons g t (v :: r) σ H Q2 := ⟨v, r, rfl, q⟩
theorem w_gnil {Q2 : L2.St → Hp → Prop} (q : Q2 σ H) : gNil [] σ H Q2 := ⟨rfl, q⟩
theorem lk_hit {r : List (Str × V)} : List.lookup f ((f, x) :: r) = some x := by simp [List.lookup]
theorem lk_miss {g : Str} {r : List (Str × V)} {o : Option V} (h : (f == g) = false) (e : List.lookup f r = o) : List.lookup f ((g, x) :: r) = o := by simp only [List.lookup, h]; exact e
theorem pf_hit {r : List (Str × V)} : putF f v ((f, x) :: r) = (f, v) :: r := by simp [putF]
theorem pf_miss {g : Str} {r : List (Str × V)} (h : (g == f) = false) : putF f v ((g, x) :: r) = (g, x) :: putF f v r := by
  have : ¬ g = f := beq_eq_false_iff_ne.mp h
  simp [putF, this]
theorem pf_nil : putF f v [] = [(f, v)] := rfl
/-- kept at another place -/
theorem kb_at {p q : Addr} {o : HO} (e : KB p H H') (h : H q = some o) (n : q ≠ p) : H' q = some o := e q o h n
end

/-- while, by a word that falls -/
theorem w_while {σ : L2.St} {H : Hp} {D : Ends} {c : TT} {tb : TS} (W : Nat → L2.St → Hp → Prop) (m0 : Nat) (h0 : W m0 σ H)
    (hs : ∀ m σ H, W m σ H → c σ H fun b H1 => if b = true then tb { D with nx := fun σ' H' => ∃ m', m' < m ∧ W m' σ' H', ct := fun σ' H' => ∃ m', m' < m ∧ W m' σ' H', bk := D.nx } σ H1 else D.nx σ H1)
    (mono : ∀ σ H (Q Q' : Bool → Hp → Prop), (∀ b H, Q b H → Q' b H) → c σ H Q → c σ H Q' ) : tWhile c tb D σ H :=
  ⟨W, ⟨m0, h0⟩, fun m σ H w => mono _ _ _ _ (fun b H1 q => by
    cases b with
    | true =>
      rw [if_pos rfl] at q ⊢
      exact ⟨_, fun _ _ h => h, q⟩
    | false =>
      rw [if_neg Bool.false_ne_true] at q ⊢
      exact q) (hs m σ H w)⟩
theorem w_loopT {D : Ends} {W : Nat → L2.St → Hp → Prop} {m : Nat} {tb : TS} {σ : L2.St} {H : Hp} (h : tb { D with nx := fun σ' H' => ∃ m', m' < m ∧ W m' σ' H', ct := fun σ' H' => ∃ m', m' < m ∧ W m' σ' H', bk := D.nx } σ H) :
    ∃ N : L2.St → Hp → Prop, (∀ σ' H', N σ' H' → ∃ m', m' < m ∧ W m' σ' H') ∧ tb { D with nx := N, ct := N, bk := D.nx } σ H := ⟨_, fun _ _ h => h, h⟩

theorem same_gen {H H2 : Hp} {p : Addr} {o : HO} (n : H p = none) (e : upd H p o = H2) : Same H H2 := e ▸ same_new n
theorem at_gen {H H2 : Hp} {p : Addr} {o : HO} (e : upd H p o = H2) : H2 p = some o := e ▸ upd_same
theorem kb_gen {H H2 : Hp} {p : Addr} {o : HO} (e : upd H p o = H2) : KB p H H2 := e ▸ kb_upd
theorem same_make {H H2 : Hp} {x dx : Addr} {o u : HO} (nx : H x = none) (nd : H dx = none) (e : upd (upd H dx u) x o = H2) : Same H H2 := fun c w h => by
  rw [← e, upd_ne (ne_of_none h nx), upd_ne (ne_of_none h nd)]
  exact h
theorem makeG {H1 : Hp} {R : Addr → Addr → Prop} (k : ∀ x dx, H1 x = none → H1 dx = none → dx ≠ x → R x dx) : ∀ x dx, H1 x = none → H1 dx = none → dx ≠ x → R x dx := k
theorem newL {n : Nat} {R : Addr → Prop} {H : Hp} (hl : n ≤ sizeLine) (k : ∀ p, H p = none → R p) : n ≤ sizeLine ∧ ∀ p, H p = none → R p := ⟨hl, k⟩
theorem kit_int_int : kitB "int" "int" = some true := by decide +kernel
theorem kit_int_bool : kitB "int" "bool" = some false := by decide +kernel
theorem kit_int_str : kitB "int" "str" = some false := by decide +kernel
theorem kit_int_list : kitB "int" "list" = some false := by decide +kernel
theorem kit_int_tuple : kitB "int" "tuple" = some false := by decide +kernel
theorem kit_int_dict : kitB "int" "dict" = some false := by decide +kernel
theorem kit_bool_int : kitB "bool" "int" = some true := by decide +kernel
theorem kit_bool_bool : kitB "bool" "bool" = some true := by decide +kernel
theorem kit_bool_str : kitB "bool" "str" = some false := by decide +kernel
theorem kit_bool_list : kitB "bool" "list" = some false := by decide +kernel
theorem kit_bool_tuple : kitB "bool" "tuple" = some false := by decide +kernel
theorem kit_bool_dict : kitB "bool" "dict" = some false := by decide +kernel
theorem kit_str_int : kitB "str" "int" = some false := by decide +kernel
theorem kit_str_bool : kitB "str" "bool" = some false := by decide +kernel
theorem kit_str_str : kitB "str" "str" = some true := by decide +kernel
theorem kit_str_list : kitB "str" "list" = some false := by decide +kernel
theorem kit_str_tuple : kitB "str" "tuple" = some false := by decide +kernel
theorem kit_str_dict : kitB "str" "dict" = some false := by decide +kernel
theorem kit_list_int : kitB "list" "int" = some false := by decide +kernel
theorem kit_list_bool : kitB "list" "bool" = some false := by decide +kernel
theorem kit_list_str : kitB "list" "str" = some false := by decide +kernel
theorem kit_list_list : kitB "list" "list" = some true := by decide +kernel
theorem kit_list_tuple : kitB "list" "tuple" = some false := by decide +kernel
theorem kit_list_dict : kitB "list" "dict" = some false := by decide +kernel
theorem kit_tuple_int : kitB "tuple" "int" = some false := by decide +kernel
theorem kit_tuple_bool : kitB "tuple" "bool" = some false := by decide +kernel
theorem kit_tuple_str : kitB "tuple" "str" = some false := by decide +kernel
theorem kit_tuple_list : kitB "tuple" "list" = some false := by decide +kernel
theorem kit_tuple_tuple : kitB "tuple" "tuple" = some true := by decide +kernel
theorem kit_tuple_dict : kitB "tuple" "dict" = some false := by decide +kernel
theorem kit_NoneType_int : kitB "NoneType" "int" = some false := by decide +kernel
theorem kit_NoneType_bool : kitB "NoneType" "bool" = some false := by decide +kernel
theorem kit_NoneType_str : kitB "NoneType" "str" = some false := by decide +kernel
theorem kit_NoneType_list : kitB "NoneType" "list" = some false := by decide +kernel
theorem kit_NoneType_tuple : kitB "NoneType" "tuple" = some false := by decide +kernel
theorem kit_NoneType_dict : kitB "NoneType" "dict" = some false := by decide +kernel
theorem kit_dict_int : kitB "dict" "int" = some false := by decide +kernel
theorem kit_dict_bool : kitB "dict" "bool" = some false := by decide +kernel
theorem kit_dict_str : kitB "dict" "str" = some false := by decide +kernel
theorem kit_dict_list : kitB "dict" "list" = some false := by decide +kernel
theorem kit_dict_tuple : kitB "dict" "tuple" = some false := by decide +kernel
theorem kit_dict_dict : kitB "dict" "dict" = some true := by decide +kernel

section
variable {σ : L2.St} {H : Hp} {K : PySem.W.Frag} {D : Ends} {a : Addr}
theorem w_forE {wi : TI} {g : TG} {tb : TS} (h : wi σ H fun J H1 => ∃ W : Nat → Nat → L2.St → Hp → Prop, (∃ m, W 0 m σ H1) ∧ ∀ i m σ H, W i m σ H →
  (J.stop i H ∧ D.nx σ H) ∨ (J.go i H ∧ ∃ N : L2.St → Hp → Prop, (∀ σ' H', N σ' H' → ∃ m', m' < m ∧ W (i + 1) m' σ' H') ∧ ∀ x H', J.yld i H x H' → g x σ H' fun σ2 H2 => tb { D with nx := N, ct := N, bk := D.nx } σ2 H2)) : tFor wi g tb D σ H := h
theorem w_iTup {tl : TE} {R : It → Hp → Prop} (h : tl σ H fun x H1 => ∃ a, x = .ref a ∧ (∃ xs, SqT K H1 a xs) ∧ R (Itt K a) H1) : iTup K tl σ H R := h
theorem w_iList {tl : TE} {R : It → Hp → Prop} (h : tl σ H fun x H1 => ∃ a, x = .ref a ∧ (∃ xs, SqL K H1 a xs) ∧ R (Itl K a) H1) : iList K tl σ H R := h
theorem w_iRng1 {ta : TA} {R : It → Hp → Prop} (h : ta σ H fun vs H1 => ∃ j : Int, vs = [.int j] ∧ -(2 ^ 62) ≤ j ∧ j < 2 ^ 62 ∧ R (Itr 0 j.toNat) H1) : iRng1 ta σ H R := h
theorem w_iRng2 {ta : TA} {R : It → Hp → Prop} (h : ta σ H fun vs H1 => ∃ i j : Int, vs = [.int i, .int j] ∧ (-(2 ^ 62) ≤ i ∧ i < 2 ^ 62 ∧ -(2 ^ 62) ≤ j ∧ j < 2 ^ 62) ∧ R (Itr i (j - i).toNat) H1) : iRng2 ta σ H R := h
theorem w_itT {R : Addr → Prop} {xs : List V} (h : SqT K H a xs) (q : R a) : ∃ a', V.ref a = .ref a' ∧ (∃ xs, SqT K H a' xs) ∧ R a' := ⟨a, rfl, ⟨xs, h⟩, q⟩
theorem w_itL {R : Addr → Prop} {xs : List V} (h : SqL K H a xs) (q : R a) : ∃ a', V.ref a = .ref a' ∧ (∃ xs, SqL K H a' xs) ∧ R a' := ⟨a, rfl, ⟨xs, h⟩, q⟩
/-- == of data -/
theorem w_eqD {x y : V} {Q : VK} {d e : PyData} {k : Bool} (hx : Dp K H x d) (hy : Dp K H y e) (sd : SeqAt.shaped d = true) (se : SeqAt.shaped e = true) (hk : PyData.eqv d e = k) (q : Q (.bl k) H) : rEqD K x y H Q := ⟨d, e, hx, hy, sd, se, hk ▸ q⟩
theorem w_neD {x y : V} {Q : VK} {d e : PyData} {k : Bool} (hx : Dp K H x d) (hy : Dp K H y e) (sd : SeqAt.shaped d = true) (se : SeqAt.shaped e = true) (hk : PyData.eqv d e = k) (q : Q (.bl (!k)) H) : rNeD K x y H Q := ⟨d, e, hx, hy, sd, se, hk ▸ q⟩
theorem dp_t2 {p : Addr} {m n : Int} (h : SqT K H p [.int m, .int n]) : Dp K H (.ref p) (.tuple [.int m, .int n]) := .tup h (.cons (.int m) (.cons (.int n) .nil))
end
theorem mulW {i j : Int} {a b : Nat} (ha : i.natAbs < 2 ^ a) (hb : j.natAbs < 2 ^ b) (h0 : 0 < a) (h1 : 0 < b) (h : a + b ≤ 1000000) : CMulU i j := (wide_mul ha hb h0 h1 h).ok
theorem mulL {i j : Int} (h : i.natAbs < 2 ^ 64) : CMulU i j := CMul.ok (.inl ⟨by omega, by omega⟩)
theorem mulR {i j : Int} (h : j.natAbs < 2 ^ 64) : CMulU i j := CMul.ok (.inr ⟨by omega, by omega⟩)
theorem w_pow10_5 {H : Hp} {Q : VK} (q : Q (.int 100000) H) : rI CPowU (fun i j => .int (i ^ j.toNat)) (.int 10) (.int 5) H Q := ⟨10, 5, rfl, rfl, powU (a := 4) (by decide) (by decide) (by decide) (by decide), q⟩
theorem w_pow10_8 {H : Hp} {Q : VK} (q : Q (.int 100000000) H) : rI CPowU (fun i j => .int (i ^ j.toNat)) (.int 10) (.int 8) H Q := ⟨10, 8, rfl, rfl, powU (a := 4) (by decide) (by decide) (by decide) (by decide), q⟩
theorem w_pow10_9 {H : Hp} {Q : VK} (q : Q (.int 1000000000) H) : rI CPowU (fun i j => .int (i ^ j.toNat)) (.int 10) (.int 9) H Q := ⟨10, 9, rfl, rfl, powU (a := 4) (by decide) (by decide) (by decide) (by decide), q⟩
theorem w_pow10_10 {H : Hp} {Q : VK} (q : Q (.int 10000000000) H) : rI CPowU (fun i j => .int (i ^ j.toNat)) (.int 10) (.int 10) H Q := ⟨10, 10, rfl, rfl, powU (a := 4) (by decide) (by decide) (by decide) (by decide), q⟩
theorem w_pow10_11 {H : Hp} {Q : VK} (q : Q (.int 100000000000) H) : rI CPowU (fun i j => .int (i ^ j.toNat)) (.int 10) (.int 11) H Q := ⟨10, 11, rfl, rfl, powU (a := 4) (by decide) (by decide) (by decide) (by decide), q⟩
theorem w_pow10_12 {H : Hp} {Q : VK} (q : Q (.int 1000000000000) H) : rI CPowU (fun i j => .int (i ^ j.toNat)) (.int 10) (.int 12) H Q := ⟨10, 12, rfl, rfl, powU (a := 4) (by decide) (by decide) (by decide) (by decide), q⟩
theorem w_pow10_18 {H : Hp} {Q : VK} (q : Q (.int 1000000000000000000) H) : rI CPowU (fun i j => .int (i ^ j.toNat)) (.int 10) (.int 18) H Q := ⟨10, 18, rfl, rfl, powU (a := 4) (by decide) (by decide) (by decide) (by decide), q⟩
/-! ### small facts -/
theorem sz {n : Nat} (h : n ≤ 100000) : n ≤ sizeLine := Nat.le_trans h (by decide)
theorem w_iteP {c : Bool} {A B : Prop} (h1 : c = true → A) (h2 : c = false → B) : if c = true then A else B := by
  cases c with
  | true => exact iteT (h1 rfl)
  | false => exact iteF (h2 rfl)
theorem w_dec {c A B : Prop} {dc : Decidable c} (h1 : c → A) (h2 : ¬ c → B) : if decide c = true then A else B := by
  by_cases h : c
  · rw [if_pos (decide_eq_true h)]
    exact h1 h
  · rw [if_neg (fun e => h (of_decide_eq_true e))]
    exact h2 h
theorem same_at {H H' : Hp} {a : Addr} {o : HO} (e : Same H H') (h : H a = some o) : H' a = some o := e a o h
theorem same_t {K : PySem.W.Frag} {H H' : Hp} {a : Addr} {xs : List V} (e : Same H H') (h : SqT K H a xs) : SqT K H' a xs := by
  rcases h with (h | ⟨o, h⟩) | h
  · exact .inl (.inl (e _ _ h))
  · exact .inl (.inr ⟨o, e _ _ h⟩)
  · exact .inr h
section
variable {K : PySem.W.Frag} {H : Hp}
theorem tyx_int {i : Int} : TyX K H (.int i) (.type "int") := .base (.int _)
theorem tyx_bl {b : Bool} : TyX K H (.bl b) (.type "bool") := .base (.bl _)
theorem tyx_str {x : Str} : TyX K H (.str x) (.type "str") := .base (.str _)
theorem tyx_non : TyX K H .non (.type "NoneType") := .base .non
theorem tyx_lst {a : Addr} {xs : List V} (h : H a = some (.lst xs)) : TyX K H (.ref a) (.type "list") := .base (.lst h)
theorem tyx_tup {a : Addr} {xs : List V} (h : H a = some (.tup xs)) : TyX K H (.ref a) (.type "tuple") := .base (.tup h)
end
end Bw

/-! Except clauses: tuples of classes of any length. -/
namespace PySem.W
open PySem PySem.Spec PySem.Calls
section
variable {M : Model} {K : Frag}
theorem forIn_stay {β : Type} {A : Around} {E : Value → Shared → Prop} {s : Shared} {b : β} {f : Value → β → Sem (ForInStep β)} {Q : β → Shared → Prop} : ∀ {cs : List Value}, (∀ c ∈ cs, ∀ (Q : ForInStep β → Shared → Prop), Q (.yield b) s → wpAny M A (f c b) Q E s) → Q b s → wpAny M A (forIn cs b f) Q E s
  | [], _, q => by
    rw [List.forIn_nil]
    exact wpAny_pure q
  | c :: r, hf, q => by
    rw [List.forIn_cons]
    refine wpAny_bind (hf c List.mem_cons_self _ ?_)
    exact forIn_stay (fun c hc => hf c (List.mem_cons_of_mem _ hc)) q
theorem exmAny_mem {cls : Value} : ∀ {cs : List Value} {b : Bool}, exmAny K cls cs = some b → ∀ c ∈ cs, ∃ b1, exmOne K cls c = some b1
  | c :: r, b, h, x, hx => by
    obtain ⟨b1, d1, h1, h2, _⟩ := exmAny_cons h
    rcases List.mem_cons.mp hx with rfl | hx
    · exact ⟨_, h1⟩
    · exact exmAny_mem h2 x hx
theorem exm_tupN {cs : List Value} {cls : Value} {tp e : Addr} {b : Bool} {h : Heap} {n : Nat} {dd : Option Addr} {sl : Array (Option Value)} (X : K.In h) (LT : Looks M h (typeOf (.ref e)) cls) (hp : h.get? tp = some { cls := .type "tuple", dict := dd, data := .seq cs.toArray n, slots := sl }) (hx : exmAny K cls cs = some b) :
    Looks M h (excMatches (.ref e) (.ref tp)) b := by
  intro A Q E s k₀ q
  obtain ⟨hh, g, d, tk, os⟩ := s
  have k : ∀ b o, h.get? b = some o → hh.get? b = some o := k₀
  have LT0 : Looks M h (isInstance (.ref tp) (.type "tuple")) true := ((Looks.ld hp).andThen .now).andThen (Looks.of_pure isSubtype_tuple_tuple)
  have LT := LT.keeps k
  have LT0 := LT0.keeps k
  have hp' := k _ _ hp
  have hk := X.keeps k
  unfold excMatches
  refine wpAny_bind (LT0.at ?_)
  dsimp only
  rw [if_pos rfl]
  first
    | refine wpAny_bind (wpAny_seqItems hp' rfl ?_)
    | refine wpAny_bind (wpAny_bind (wpAny_seqItems hp' rfl (wpAny_pure ?_)))
  dsimp only [Option.getD_some, Option.getD]
  refine wpAny_bind (wpAny_pure ?_)
  refine wpAny_bind (forIn_stay (fun c hc Q q => ?_) ?_)
  · obtain ⟨b1, h1⟩ := exmAny_mem hx c hc
    refine wpAny_bind ((exm_cls (M := M) hk h1).1.here ?_)
    exact wpAny_pure q
  · refine wpAny_bind (LT.here ?_)
    have loop : ∀ (cs : List Value) (b : Bool), exmAny K cls cs = some b → ∀ (Q : Option Bool × Unit → Shared → Prop), Q (if b then some true else none, ()) { heap := hh, gens := g, drawn := d, toks := tk, os := os } →
        wpAny M A (forIn cs ((none : Option Bool), ()) fun c __s => do
            let __do_lift ← isSubtype cls c
            if __do_lift = true then pure (ForInStep.done (some true, ())) else pure (ForInStep.yield (none, ()))) Q E { heap := hh, gens := g, drawn := d, toks := tk, os := os } := by
      intro cs
      induction cs with
      | nil =>
        intro b hb Q q
        have w2 : some false = some b := hb
        cases w2
        rw [List.forIn_nil]
        exact wpAny_pure q
      | cons c r ih =>
        intro b hb Q q
        obtain ⟨b1, d1, h1, h2, rfl⟩ := exmAny_cons hb
        rw [List.forIn_cons]
        refine wpAny_bind (wpAny_bind ((exm_cls (M := M) hk h1).2.here ?_))
        cases b1 with
        | true =>
          rw [if_pos rfl]
          exact wpAny_pure (wpAny_pure q)
        | false =>
          rw [if_neg Bool.false_ne_true]
          exact wpAny_pure (ih d1 h2 Q q)
    refine wpAny_bind (loop cs b hx _ ?_)
    cases b with
    | true => exact wpAny_pure q
    | false => exact wpAny_pure q
end
end PySem.W

namespace Bw
open PySem PySem.Spec L2
/-! ### try with several clauses, classes or tuples of classes, each with a name -/
/-- a clause's class expression, read where the exception is handled -/
def wMas (K : PySem.W.Frag) (Wout : WX) (D : Ends) : List (List Value × Nat × (Addr → Value → Option Addr → TS)) → WX
  | [] => Wout
  | (cs, i, ts) :: r => fun cls d σ H => ∃ b, PySem.W.exmAny K cls cs = some b ∧ (b = true → ∀ a, H a = none → ts a cls d { nx := fun σ' H' => D.nx (σ'.set i none) H', rt := D.rt, bk := fun σ' H' => D.bk (σ'.set i none) H', ct := fun σ' H' => D.ct (σ'.set i none) H' } (σ.set i (some (.ref a))) H) ∧
      (b = false → wMas K Wout D r cls d σ H)
/-- names of classes -/
inductive NamesL (X : Cx) : List Expr → List Value → Prop
  | nil : NamesL X [] []
  | cons {x : Str} {c : Value} {p : Pos} {es : List Expr} {cs : List Value} (h : Names X x c) (r : NamesL X es cs) : NamesL X (.Name x p :: es) (c :: cs)
inductive ClsE (X : Cx) : Expr → List Value → Prop
  | one {x : Str} {c : Value} {p : Pos} (h : Names X x c) : ClsE X (.Name x p) [c]
  | tup {es : List Expr} {cs : List Value} {k : Nat} {p : Pos} (h : NamesL X es cs) : ClsE X (.Tuple es k p) cs
inductive HdsA (X : Cx) : List ExceptHandler → List (List Value × Nat × (Addr → Value → Option Addr → TS)) → Prop
  | nil : HdsA X [] []
  | cons {te : Expr} {cs : List Value} {n : Str} {i : Nat} {ts : Addr → Value → Option Addr → TS} {b₀ : Stmt} {suite : List Stmt} {pos' : Pos} {hds : List ExceptHandler} {l : List (List Value × Nat × (Addr → Value → Option Addr → TS))} (hc : ClsE X te cs)
      (hi : X.N[i]? = some n) (hln : X.env.kindOf n = some .local)
      (hsu : ∀ (a : Addr) (oe : Obj) (cls : Value) (d : Option Addr) (pn : List (Addr × Obj)), Zc cls d oe → (∃ vs, oe.data = .fields vs) → PSs (X.suite a ((a, oe) :: pn)) (b₀ :: suite) (ts a cls d)) (r : HdsA X hds l) :
      HdsA X (.ExceptHandler (some te) (some n) (b₀ :: suite) pos' :: hds) ((cs, i, ts) :: l)
theorem flying_kept {B h h' : Heap} {l : List Env} {e : Addr} {Z : Obj → Prop} (f : HandSPX.FlyingZ B l e Z h) (k : ∀ b o, h.get? b = some o → h'.get? b = some o) : HandSPX.FlyingZ B l e Z h' := by
  obtain ⟨f1, f2, f3, oe, vs, T, oT, ts, a1, a2, a3, a4, a5, a6, a7, a8, a9⟩ := f
  exact ⟨fun b o q => k b o (f1 b o q), f2, f3.of_keeps fun b o q _ => ⟨o, k b o q, rfl⟩, oe, vs, T, oT, ts, k _ _ a1, a2, a3, a4, a5, a6, k _ _ a7, a8, a9⟩
section
variable {X : Cx} {body : List Stmt} {h₀ : ExceptHandler} {hds : List ExceptHandler} {l : List (List Value × Nat × (Addr → Value → Option Addr → TS))} {pos : Pos} {tb : WX → TS} {Wout : WX}
theorem eval_names {Y : Cx} {pins : List (Addr × Obj)} {σ : L2.St} {H : Hp} {s : Shared} {E : Value → Shared → Prop} (I : Inv Y pins σ H s) (pos : Pos) : ∀ {es : List Expr} {cs : List Value}, NamesL Y es cs → ∀ {Q : List Value → Shared → Prop}, Q cs s → wpAny (model Y.prog Y.w) Y.A (spliced (backTo pos (starEach es Y.env))) Q E s
  | _, _, .nil, Q, q => Calls.spliced_nil q
  | _, _, @NamesL.cons _ x c p es cs h r, Q, q => by
    show wpAny _ _ (spliced ((false, eval (.Name x p) Y.env) :: backTo pos (starEach es Y.env))) _ _ s
    refine Calls.spliced_cons ?_
    have go : wpAny (model Y.prog Y.w) Y.A (spliced (backTo pos (starEach es Y.env))) (fun vs s₂ => Q (c :: vs) s₂) E s := eval_names I pos r q
    obtain ⟨hg, hdbg, hm | ⟨hm, hv, hnn⟩⟩ := h
    · exact ld_glob I hg hm go hdbg
    · exact ld_blt I hg hm hv go hnn hdbg
theorem NamesL.suite {a : Addr} {pn : List (Addr × Obj)} : ∀ {es : List Expr} {cs : List Value}, NamesL X es cs → NamesL (X.suite a pn) es cs
  | _, _, .nil => .nil
  | _, _, .cons h r => .cons h (NamesL.suite r)
theorem NamesL.length : ∀ {es : List Expr} {cs : List Value}, NamesL X es cs → cs.length = es.length
  | _, _, .nil => rfl
  | _, _, .cons _ r => congrArg Nat.succ (NamesL.length r)
theorem ps_try_mas (hs : X.stack = X.env :: X.outer) (hf : X.env.frame = some X.env.locals) (hN : X.N.Nodup) (tk : Takes X Wout) (hsz : ∀ x ∈ l, x.1.length ≤ 1000)
    (hb : ∀ (W : WX) (pn : List (Addr × Obj)) (xe : Value → Shared → Prop), Takes (X.tr pn xe) W → PassesOwn (model X.prog X.w) X.A X.env xe → PSs (X.tr pn xe) body (tb W))
    (hh : HdsA X (h₀ :: hds) l) : PS X (.Try body (h₀ :: hds) [] [] pos) (fun D σ H => tb (wMas X.K Wout D l) D σ H) := by
  refine ⟨fun pins s σ H D I h => ?_⟩
  have ok := I.ok
  have hfr : X.A.frames = some (X.env :: X.outer) := by rw [ok.frames, hs]
  refine wpAny_Try_except ?_
  refine wpAny_mono ((hb (wMas X.K Wout D l) (X.pn ++ pins) (fun e s₁ => wpAny (model X.prog X.w) X.A (noteFrame e X.env) (fun _ s₂ => wpAny (model X.prog X.w) X.A (setFlight e none) (fun _ s₃ =>
    wpAny (model X.prog X.w) X.A (handleBy e X.env (h₀ :: hds)) (SP X pins D) X.xe s₃) X.xe s₂) X.xe s₁) (fun u s' xx => ?_) PassesOwn.looking).run [] s σ H D (I.toTry _) h) (fun f s1 hsp => ?_) (fun e s1 he => he)
  · -- the catch
    obtain ⟨a, B, sI, pins', σ', H', cls, d, rfl, J', nb, up, sky, na, os, ag, w⟩ := xx
    have J : Inv X pins σ' H' sI := J'.ofTry ok
    have sky' : Sky B (X.env :: X.outer) a (Zc cls d) X.env.locals s'.heap := by rw [← hs]; exact sky
    show wpAny (model X.prog X.w) X.A (noteFrame (.ref a) X.env) _ _ _
    refine Sky.land Zc.steady hfr hf sky' fun h3 fl3 up3 => ?_
    have notFr : ∀ {h : Heap} {o : Obj} {vs : Array Value}, h.FunFrames B (X.env :: X.outer) → h.get? a = some o → o.data = .fields vs → a ∉ frs (X.env :: X.outer) := fun {h o vs} ff e dd hm => by
      obtain ⟨_, o', e', hnf⟩ := ff.mem hm
      rw [e] at e'; cases e'
      exact hnf _ dd
    have nfr : a ∉ frs (X.env :: X.outer) := by
      obtain ⟨oe3, vs3, he3, hz3, hd3⟩ := fl3.there
      exact notFr fl3.2.2.1 he3 hd3
    have nL : a ≠ X.env.locals := fun z => nfr (List.mem_filterMap.mpr ⟨X.env, List.mem_cons_self, by rw [hf, z]⟩)
    have nF : a ∉ X.fs := fun hm => by
      obtain ⟨e, he, q⟩ := List.mem_filterMap.mp hm
      exact nfr (List.mem_filterMap.mpr ⟨e, List.mem_cons_of_mem _ he, q⟩)
    have go : ∀ {hds' : List ExceptHandler} {l' : List (List Value × Nat × (Addr → Value → Option Addr → TS))}, HdsA X hds' l' → (∀ x ∈ l', x.1.length ≤ 1000) → wMas X.K Wout D l' cls d σ' H' → ∀ h3, HandSPX.FlyingZ B (X.env :: X.outer) a (Zc cls d) h3 → sI.heap.UpToSlots h3 →
        wpAny (model X.prog X.w) X.A (handleBy (.ref a) X.env hds') (SP X pins D) X.xe { s' with heap := h3 } := by
      intro hds' l' hk
      induction hk with
      | nil =>
        intro _ w h3 fl3 up3
        refine wpAny_handleBy_nil ?_
        obtain ⟨k1, k2, k3, oe, vs, T, oT, ts', he, hz, hd, h1, hr⟩ := id fl3
        unfold PySem.passOn
        refine wpAny_bind (wpAny_field he hd h1 ?_)
        rw [if_neg (show ¬ ((Value.ref T == Value.none) = true) from by simp)]
        have fin : wpAny (model X.prog X.w) X.A (setFlight (.ref a) X.env.frame) (fun _ s4 => wpAny (model X.prog X.w) X.A (throw (.ref a) : Sem Flow) (SP X pins D) X.xe s4) X.xe { s' with heap := h3 } := by
          rw [hf]
          refine HandSPX.setFlight_upZ fl3 fun h4 hh4 up4 => wpAny_throw (tk _ _ ?_)
          exact ⟨a, B, sI, pins, σ', H', cls, d, rfl, J, nb, up3.trans up4, .inr (.inr (by rw [hs]; exact hh4)), na, os, ag, w⟩
        first
          | exact wpAny_bind (wpAny_pure (wpAny_bind fin))
          | exact wpAny_bind fin
      | @cons te cs n i ts b₀ suite pos' hds2 l2 hc hi hln hsu r ih =>
        intro hz0 w h3 fl3 up3
        obtain ⟨b, hb1, hyes, hno⟩ := w
        have J3 : Inv X pins σ' H' { s' with heap := h3 } := J.landed nb fl3.1 up3 os ag
        obtain ⟨oe3, vs3, he3, hz3, hd3⟩ := fl3.there
        have S3 := J3.suite he3 hd3 na nL nF
        refine wpAny_handleBy_cons (codeAny_handlers_test ?_) (by intro q; cases q)
        -- the classes, then the match, in a heap that is kept
        have test : ∀ {R : Bool → Shared → Prop} {E : Value → Shared → Prop}, (∀ h4, (∀ b o, h3.get? b = some o → h4.get? b = some o) → R b { s' with heap := h4 }) →
            wpAny (model X.prog X.w) (X.A.mark (some (.ref a))) (eval te X.env) (fun c s₁ => wpAny (model X.prog X.w) (X.A.mark (some (.ref a))) (excMatches (.ref a) c) R E s₁) E { s' with heap := h3 } := fun {R E} q => by
          cases hc with
          | one hn =>
            rename_i x c np
            have LT : PySem.W.Looks (model X.prog X.w) h3 (typeOf (.ref a)) cls := fun A Q E s k q => wpAny_typeOf_ref (k _ _ he3) (by rw [hz3.1]; exact q)
            obtain ⟨b1, d1, h1, h2, eb⟩ := PySem.W.exmAny_cons hb1
            have w2 : some false = some d1 := h2
            cases w2
            rw [Bool.or_false] at eb
            subst eb
            have LM := PySem.W.exm_one (M := model X.prog X.w) (J3.kIn) LT h1
            obtain ⟨hg, hdbg, hm | ⟨hm, hv, hnn⟩⟩ := hn
            · exact ld_glob (X := X.suite a ((a, oe3) :: (X.pn ++ pins))) S3 hg hm (LM.here (q h3 fun _ _ z => z)) hdbg
            · exact ld_blt (X := X.suite a ((a, oe3) :: (X.pn ++ pins))) S3 hg hm hv (LM.here (q h3 fun _ _ z => z)) hnn hdbg
          | tup hn =>
            rename_i es kk np
            refine wpAny_Tuple_spliced (eval_names (Y := X.suite a ((a, oe3) :: (X.pn ++ pins))) S3 _ hn.suite ⟨?_, ?_⟩)
            · exact Nat.le_trans (hz0 _ List.mem_cons_self) (by decide)
            · have kp : ∀ b o, h3.get? b = some o → (h3.push { cls := .type "tuple", data := .seq cs.toArray }).get? b = some o := fun b o e => Heap.get?_push_of_some _ e
              have LT : PySem.W.Looks (model X.prog X.w) (h3.push { cls := .type "tuple", data := .seq cs.toArray }) (typeOf (.ref a)) cls := fun A Q E s k q => wpAny_typeOf_ref (k _ _ (kp _ _ he3)) (by rw [hz3.1]; exact q)
              have LM := PySem.W.exm_tupN (M := model X.prog X.w) (J3.kIn.keeps kp) LT (Heap.get?_push_size _ rfl) hb1
              exact LM.here (q _ kp)
        refine test fun h4 kp => ?_
        have fl4 := flying_kept fl3 kp
        have up4 : sI.heap.UpToSlots h4 := up3.trans (.of_keeps kp)
        cases b with
        | true =>
          refine codeAny_handlers_suite_as ?_
          refine HandSPX.lands_againZ fl4 fun h5 fl5 up5 => ?_
          have J5 : Inv X pins σ' H' { s' with heap := h5 } := J.landed nb fl5.1 (up4.trans up5) os ag
          obtain ⟨oe5, vs5, he5, hz5, hd5⟩ := fl5.there
          have S5 := J5.suite he5 hd5 na nL nF
          refine store_ok (X := X.suite a ((a, oe5) :: (X.pn ++ pins))) (v := .ref a) S5 hN hi (.inl hln) rfl (fun s6 S6 => ?_) (.inr hln)
          refine wpAny_mono ((hsu a oe5 cls d (X.pn ++ pins) hz5 ⟨_, hd5⟩).run [] s6 _ H' _ S6 (hyes rfl a na)) (fun f s6 hsp => ?_) (fun _ _ z => False.elim z)
          have end_ : ∀ {σ6 : L2.St} {H6 : Hp} {Q : Shared → Prop}, Inv (X.suite a ((a, oe5) :: (X.pn ++ pins))) [] σ6 H6 s6 → (∀ s7, Inv X pins (σ6.set i none) H6 s7 → Q s7) →
              wpAny (model X.prog X.w) X.A (do bindName X.env n .none; unbindBehindTheSuite X.env n pos') (fun _ s7 => Q s7) X.xe s6 := fun {σ6 H6 Q} S6 hq => gone_ok (S6.unsuite ok) hN hi hln hq
          cases f with
          | next =>
            obtain ⟨σ6, H6, S6, q6⟩ := hsp
            exact end_ S6 fun s7 J7 => ⟨_, _, J7, q6⟩
          | brk =>
            obtain ⟨σ6, H6, S6, q6⟩ := hsp
            exact end_ S6 fun s7 J7 => ⟨_, _, J7, q6⟩
          | cont =>
            obtain ⟨σ6, H6, S6, q6⟩ := hsp
            exact end_ S6 fun s7 J7 => ⟨_, _, J7, q6⟩
          | ret u =>
            obtain ⟨v6, σ6, H6, S6, r6, q6⟩ := hsp
            exact end_ S6 fun s7 J7 => ⟨_, _, _, J7, r6, q6⟩
        | false =>
          show wpAny _ X.A (handleBy (.ref a) X.env hds2) _ _ _
          exact ih (fun x hx => hz0 x (List.mem_cons_of_mem _ hx)) (hno rfl) h4 fl4 up4
    exact go hh hsz w h3 fl3 (up.trans up3)
  · cases f with
    | next =>
      obtain ⟨σ', H', J', q⟩ := hsp
      exact wpAny_execs_nil ⟨σ', H', J'.ofTry ok, q⟩
    | brk =>
      obtain ⟨σ', H', J', q⟩ := hsp
      exact ⟨σ', H', J'.ofTry ok, q⟩
    | cont =>
      obtain ⟨σ', H', J', q⟩ := hsp
      exact ⟨σ', H', J'.ofTry ok, q⟩
    | ret u =>
      obtain ⟨v, σ', H', J', r, q⟩ := hsp
      exact ⟨v, σ', H', J'.ofTry ok, r, q⟩
end
end Bw

namespace Bw
open PySem PySem.Spec PyProof.Rows L2
/-! ### raise of own classes -/
section
variable {X : Cx}
/-- X(), X an own exception class without own __init__ -/
theorem pmk_own0 {C : Addr} {bmB : List Value} {B newId initId : String} {x : Str} {p pos : Pos} (F : ExcBaseFacts B newId initId bmB) (q : PySem.W.excIn X.K C bmB newId = true) (gC : X.mg x = some (.ref C))
    (kC : PySem.W.keepIn X.K (.ref C) = true) (r : Raises X (.ref C)) (hg : Gl X x) (hdb : (x == ("__debug__" : Str)) = false := by decide) : PMk X (.Call (.Name x p) [] [] pos) (fun _ H Q => Q (.ref C) none H) := by
  intro pins s σ H Q I h
  refine wpAny_Call_Name_kw (ld_glob I hg gC ?_ hdb)
  refine PySem.W.callWith_K0 I.kIn kC ?_
  show wpAny _ _ (call (.ref C) []) _ _ _
  obtain ⟨bm, N, nm, qn, bs, hdct, sn, sub, ab, col, dd, k0, k1, k2, k3, k5, mN, hC, hN, hni, T⟩ := exc_obj I.kIn q
  refine wpAny_call_exc_subT F T hC hN hni (fun h' e hm => ?_) (by show 0 ≤ sizeLine; exact Nat.zero_le _)
  exact mk_of I hm r h (I.hok.gone hm.new)
/-- D.__init__(self, ..), D an own class above which stands ValueError -/
theorem pe_wrinit {pl : Sem Bool} {D : Addr} {x : Str} {e : Expr} {es : List Expr} {ta : TA} {p1 p2 pos : Pos} (hg : Gl X x) (hm : X.mg x = some (.ref D)) (hga : PySem.W.specialIn X.K (.ref D) "__getattribute__" = some (some (.builtin "type.__getattribute__")))
    (hrd : PySem.W.readsIn X.K D (.type "type") = true) (vV : PySem.W.findCls X.K (.ref D) (.type "type") "__init__" = some (.val (.builtin "ValueError.__init__"))) (ha : PA X (e :: es) ta)
    (hdb : (x == ("__debug__" : Str)) = false := by decide)
    (hc : eval (.Call (.Attribute (.Name x p1) "__init__" p2) (e :: es) [] pos) X.env = (do
      let ov ← eval (.Name x p1) X.env
      standAt p2.atName
      let (f, first) ← holding [ov] (getMethod ov "__init__" pl)
      callWith pos f first (backTo pos (starEach (e :: es) X.env)) (backToKw pos (keywordEach [] X.env))) := by rfl)
    (he : starEach (e :: es) X.env = (false, eval e X.env) :: starEach es X.env := by rfl) (hpl : (backTo pos (starEach es X.env)).any (·.1) = false := by rfl) :
    PE X (.Call (.Attribute (.Name x p1) "__init__" p2) (e :: es) [] pos) (tVeI X.K ta) := by
  refine ⟨fun pins s σ H Q I h => ?_⟩
  refine PySem.W.methodCall_KW (ld_glob I hg hm ?_ hdb) hc
  refine PySem.W.method_cls I.kIn hga (PySem.W.cls_value I.kIn hrd vV rfl ?_)
  show wpAny _ _ (callWith pos (Value.builtin "ValueError.__init__") [] (backTo pos (starEach (e :: es) X.env)) []) _ _ _
  refine PyProof.Rows.callWith_method1 (thn (ha.run pos pins _ σ H _ (I.tok _) h) fun us s1 ⟨vs, H1, I1, r1, a, C, ws, ev, hl, T, ea, q⟩ => ?_) he hpl
  subst ev
  cases r1 with
  | @cons _ u0 _ ur ra rw' =>
    obtain rfl : u0 = Value.ref a := ra
    have hlen : ur.length ≤ sizeLine := by
      rw [← Paired.length rw', sizeLine_eq]
      omega
    exact oinit_ok T I1 ea hlen fun s' J => ⟨.non, H1, J, rfl, q⟩
/-- C(), C's own __init__ -/
theorem pmk_oex0 {CX : CXT} {x : Str} {C fI : Addr} {k : Nat} {fd : FuncData} {ps : List Str} {sp : Sp} {ds : List Value} {dvs : List V} {p pos : Pos} (T : OexC X.K C) (iC : PySem.W.findIn X.K (.ref C) "__init__" = some (some (.ref fI))) (tI : PySem.W.typeIn X.K (.ref fI) = some (.type "function"))
    (F1 : FnOk X.prog X.w X.K X.mg X.base CX k fI fd ps sp) (hr : Room (k + 1) X.A) (hb : Binds X.K fd ps ds) (hd : Vals dvs ds) (hx : Passes CX X (fun _ _ _ => False)) (hg : Gl X x) (hm : X.mg x = some (.ref C))
    (hdb : (x == ("__debug__" : Str)) = false := by decide) :
    PMk X (.Call (.Name x p) [] [] pos) (tMkO C sp dvs tNil) := by
  intro pins s σ H Q I h
  obtain ⟨nm, q, N, bs, bm, sn, sub, ab, col, dd, k0, k1, k2, k3, k5, hC, hbm⟩ := T.cls
  refine wpAny_Call_Name_kw (ld_glob I hg hm ?_ hdb)
  obtain ⟨hz, q1⟩ := h
  refine PySem.W.callWith_K0 I.kIn T.kC ?_
  show wpAny _ _ (call (.ref C) []) _ _ _
  obtain ⟨hp, g, dr, tk, os⟩ := s
  have hsz : hp.objs.size ≤ hp.objs.size + 1 := Nat.le_succ _
  have hn : H (hp.objs.size + 1) = none := I.hok.fresh hsz
  have hq := q1 (hp.objs.size + 1) hn
  have kk : ∀ b o, hp.get? b = some o → ((hp.push (PySem.W.kdv_tup [])).push (PySem.HandSPX.excO C hp.objs.size)).get? b = some o := fun b o e => Heap.get?_push_of_some _ (Heap.get?_push_of_some _ e)
  have hget : ((hp.push (PySem.W.kdv_tup [])).push (PySem.HandSPX.excO C hp.objs.size)).get? (hp.objs.size + 1) = some (PySem.HandSPX.excO C hp.objs.size) := by heap_get
  have I2 : Inv X pins σ (upd H (hp.objs.size + 1) (exo (hp.objs.size + 1) C none)) ⟨(hp.push (PySem.W.kdv_tup [])).push (PySem.HandSPX.excO C hp.objs.size), g, dr, tk, os⟩ :=
    I.laid (t' := tk) (a := hp.objs.size + 1) (o := exo (hp.objs.size + 1) C none) (h' := (hp.push (PySem.W.kdv_tup [])).push (PySem.HandSPX.excO C hp.objs.size)) kk hsz (exo_ok hget)
  have r2 : Vals (V.ref (hp.objs.size + 1) :: ([] ++ dvs)) (Value.ref (hp.objs.size + 1) :: ([] ++ ds)) := .cons rfl (Vals.append .nil hd)
  have hl : (Value.ref (hp.objs.size + 1) :: [] ++ ds).length = ps.length := by
    have e := r2.length
    rw [F1.len _ _ _ _ hq] at e
    exact e.symm
  refine wpAny_call (PySem.HandSPX.call_own F.excBase_ValueError (fun Y => PySem.HandSPX.refsVE_contains Y bm hbm) (I.kIn _ _ hC) (PySem.W.looks_findIn I.kIn iC) (fun self => PySem.W.bind_fn I.kIn self tI) (Nat.zero_le _)
    (codeAny_mono (F1.run _ X.stack _ _ ⟨Value.ref (hp.objs.size + 1) :: [], []⟩ (Value.ref (hp.objs.size + 1) :: ([] ++ ds)) _ _ (fun _ _ _ => False) (hr.make C [] []) (I2.env0.make C [] []) (show BindsTo _ _ _ (ps.zip (Value.ref (hp.objs.size + 1) :: ([] ++ ds))) from hb _ (Value.ref (hp.objs.size + 1) :: []) I2.kIn hl) r2 hq) fun r s' hq' => ?_))
  cases r with
  | error er => exact hx pins σ _ _ er s' I2 hq'
  | ok fl =>
    cases fl with
    | ret u =>
      obtain ⟨v, H2, os2, bare2, un2, hok2, rv, ev, d, fs, ea, ed, hd1, q2⟩ := hq'
      subst ev
      obtain ⟨h2, g2, d2, t2, os'⟩ := s'
      exact ⟨rv, mk_end (raises_own T.exC T.tyC) I hsz kk un2 hok2 os2 bare2 ea ed hd1 q2⟩
    | next => exact False.elim hq'
    | brk => exact False.elim hq'
    | cont => exact False.elim hq'
end
/-! ### own exceptions with one field -/
/-- what such an __init__(self, v) does -/
def spXi (K : PySem.W.Frag) (f : Str) : Sp := fun vs H Q _ => ∃ (a C : Addr) (v : V), vs = [.ref a, v] ∧ OexC K C ∧ PySem.W.findIn K (.ref C) f = some none ∧ H a = some (exo a C none) ∧ ∀ dx, H dx = none → dx ≠ a → Q .non (upd (upd H dx (exd dx [(f, v)])) a (exo a C (some dx)))
/-- an own exception class x, its __init__ puts one field f; dvs: what is told by default -/
structure Xcl (P : Program) (w : World) (K : PySem.W.Frag) (mg : Str → Option Value) (base : Heap) (x : Str) (C : Addr) (k : Nat) (f : Str) (dvs : List V) : Prop where
  T : OexC K C
  no : PySem.W.findIn K (.ref C) f = some none
  hm : mg x = some (.ref C)
  ex : ∃ (fI : Addr) (fd : FuncData) (ds : List Value) (ps : List Str), PySem.W.findIn K (.ref C) "__init__" = some (some (.ref fI)) ∧ PySem.W.typeIn K (.ref fI) = some (.type "function") ∧ FnOk P w K mg base CX0 k fI fd ps (spXi K f) ∧ Binds K fd ps ds ∧ Vals dvs ds
def tXmk (C : Addr) (f : Str) (dvs : List V) (ta : TA) : L2.St → Hp → XK → Prop := fun σ H Q => ta σ H fun vs H1 => ∃ v, vs ++ dvs = [v] ∧ ∀ d H2, H1 d = none → Same H1 H2 → H2 d = some (.xd [(f, v)]) → Q (.ref C) (some d) H2
theorem xi_end {K : PySem.W.Frag} {H1 : Hp} {C : Addr} {f : Str} {v : V} {Q : XK} (T : OexC K C) (no : PySem.W.findIn K (.ref C) f = some none) (h : ∀ d H2, H1 d = none → Same H1 H2 → H2 d = some (.xd [(f, v)]) → Q (.ref C) (some d) H2) (a : Addr) (na : H1 a = none) :
    spXi K f [.ref a, v] (upd H1 a (exo a C none)) (fun v H2 => v = .non ∧ ∃ (d : Addr) (fs : List (Str × V)), H2 a = some (exo a C (some d)) ∧ H2 d = some (exd d fs) ∧ H1 d = none ∧ Q (.ref C) (some d) (upd (del H2 a) d (.xd fs))) (fun _ _ _ => False) := by
  refine ⟨a, C, v, rfl, T, no, upd_same, fun dx n ne => ⟨rfl, dx, [(f, v)], upd_same, by rw [upd_ne ne, upd_same], by rw [upd_ne ne] at n; exact n, ?_⟩⟩
  rw [upd_ne ne] at n
  refine h dx _ n (fun c o e => ?_) upd_same
  have c1 := ne_of_none e n
  have c2 := ne_of_none e na
  rw [upd_ne c1, del_ne c2, upd_ne c2, upd_ne c1, upd_ne c2]
  exact e
section
variable {X : Cx}
theorem pmk_x {x f : Str} {C : Addr} {k : Nat} {dvs : List V} {e : Expr} {es : List Expr} {ta : TA} {p pos : Pos} (Z : Xcl X.prog X.w X.K X.mg X.base x C k f dvs) (hr : Room (k + 1) X.A) (hg : Gl X x) (ha : PA X (e :: es) ta) (mono : ∀ σ H (Q Q' : List V → Hp → Prop), (∀ vs H, Q vs H → Q' vs H) → ta σ H Q → ta σ H Q')
    (hdb : (x == ("__debug__" : Str)) = false := by decide) (he : starEach (e :: es) X.env = (false, eval e X.env) :: starEach es X.env := by rfl) (hpl : (backTo pos (starEach es X.env)).any (·.1) = false := by rfl) :
    PMk X (.Call (.Name x p) (e :: es) [] pos) (tXmk C f dvs ta) := by
  obtain ⟨fI, fd, ds, ps, iC, tI, F, hb, hd⟩ := Z.ex
  have M := pmk_oex (p := p) (pos := pos) Z.T iC tI F hr hb hd pass0 hg Z.hm ha hdb he hpl
  intro pins s σ H Q I h
  refine M pins s σ H Q I (mono _ _ _ _ (fun vs H1 ⟨v, ev, q⟩ => ⟨?_, fun a na => ?_⟩) h)
  · have := congrArg List.length ev
    simp only [List.length_append, List.length_cons, List.length_nil] at this
    omega
  · rw [ev]
    exact xi_end Z.T Z.no q a na
theorem pmk_x0 {x f : Str} {C : Addr} {k : Nat} {dvs : List V} {p pos : Pos} (Z : Xcl X.prog X.w X.K X.mg X.base x C k f dvs) (hr : Room (k + 1) X.A) (hg : Gl X x) (hdb : (x == ("__debug__" : Str)) = false := by decide) :
    PMk X (.Call (.Name x p) [] [] pos) (tXmk C f dvs tNil) := by
  obtain ⟨fI, fd, ds, ps, iC, tI, F, hb, hd⟩ := Z.ex
  have M := pmk_oex0 (p := p) (pos := pos) Z.T iC tI F hr hb hd pass0 hg Z.hm hdb
  intro pins s σ H Q I h
  obtain ⟨v, ev, q⟩ := h
  refine M pins s σ H Q I ⟨Nat.zero_le _, fun a na => ?_⟩
  rw [ev]
  exact xi_end Z.T Z.no q a na
/-- such an __init__ -/
theorem ok_xinit {P : Program} {w : World} {K : PySem.W.Frag} {mg : Str → Option Value} {base : Heap} {fI D : Addr} {fd : FuncData} {k : Nat} {qual x f par m : Str} {pa : Arguments} {sc : Scope} {dfl : List V} {kws : List (Str × V)} {j : Nat} {p1 p2 p3 p4 p5 p6 p7 p8 p9 p10 : Pos}
    (F : FunD K "__init__" qual pa [.Expr (.Call (.Attribute (.Name x p1) "__init__" p2) [.Name "self" p3, .Constant (.str m) j p4] [] p5) p6, .Assign [.Attribute (.Name "self" p7) f p8] (.Name par p9) p10] sc dfl kws fI fd) (S : FnScope ["self", par] ["self", par] sc)
    (hm : mg x = some (.ref D)) (hga : PySem.W.specialIn K (.ref D) "__getattribute__" = some (some (.builtin "type.__getattribute__"))) (hrd : PySem.W.readsIn K D (.type "type") = true) (vV : PySem.W.findCls K (.ref D) (.type "type") "__init__" = some (.val (.builtin "ValueError.__init__")))
    (hgl : sc.names.lookup x = some .globalImplicit) (v0 : Vis sc "self") (v1 : Vis sc par)
    (hc : ∀ (L g : Addr) (cd : Value), ∃ pl : Sem Bool, eval (.Call (.Attribute (.Name x p1) "__init__" p2) [.Name "self" p3, .Constant (.str m) j p4] [] p5) (envOfC qual sc L g cd) = (do
      let ov ← eval (.Name x p1) (envOfC qual sc L g cd)
      standAt p2.atName
      let (f, first) ← holding [ov] (getMethod ov "__init__" pl)
      callWith p5 f first (backTo p5 (starEach [.Name "self" p3, .Constant (.str m) j p4] (envOfC qual sc L g cd))) (backToKw p5 (keywordEach [] (envOfC qual sc L g cd)))))
    (hs : ∀ (L g : Addr) (cd : Value), swapsWith (.Name par p9) (some (.Attribute (.Name "self" p7) f p8)) p10.line (envOfC qual sc L g cd) = pure false)
    (hdb : (x == ("__debug__" : Str)) = false) (hd1 : (par == ("__debug__" : Str)) = false) (hcd1 : (par == ("__classdict__" : Str)) = false) : FnOk P w K mg base CX0 (k + 1) fI fd ["self", par] (spXi K f) := by
  refine F.ok S (fun vs H Q E ⟨a, C, v, e, _⟩ => by rw [e]; rfl) (fun cdv A outer s H vs Q E hr h => ?_)
  obtain ⟨pl, hc⟩ := hc s.heap.objs.size fI cdv
  refine ⟨_, pss_cons (ps_expr (pe_wrinit (D := D) (pl := pl) hgl hm hga hrd vV (pa_cons (pe_var (i := 0) rfl v0 (by decide) (by decide)) (pa_cons pe_str pa_nil)) hdb hc)) (pss_one (ps_ost (pe_var (i := 0) rfl v0 (by decide) (by decide)) (pe_var (i := 1) rfl v1 hd1 hcd1) (hs _ _ _))), ?_⟩
  obtain ⟨a, C, v, rfl, T, no, ha, q⟩ := h
  exact ⟨.ref a, rfl, a, C, [.str m], rfl, (by simp), T, ha, v, rfl, .ref a, rfl, a, C, rfl, T, no, .inl ⟨ha, q⟩⟩
end
end Bw

namespace Bw
open PySem PySem.Spec PyProof.Rows L2
/-! ### defs that may raise, as their callers want them -/
structure FnX (P : Program) (w : World) (K : PySem.W.Frag) (mg : Str → Option Value) (base : Heap) (x : Str) (k : Nat) (ps : List Str) (sp : Sp) : Prop where
  ex : ∃ (f : Addr) (fd : FuncData), FnOk P w K mg base (L2.CX P w) k f fd ps sp ∧ mg x = some (.ref f) ∧ PySem.W.keepIn K (.ref f) = true ∧ Binds K fd ps []
structure MeX (P : Program) (w : World) (K : PySem.W.Frag) (mg : Str → Option Value) (base : Heap) (C : Addr) (m : Str) (k : Nat) (ps : List Str) (sp : Sp) : Prop where
  ex : ∃ (f : Addr) (fd : FuncData), FnOk P w K mg base (L2.CX P w) k f fd ps sp ∧ Meth K C m f ∧ Binds K fd ps []
structure MkrX (P : Program) (w : World) (K : PySem.W.Frag) (mg : Str → Option Value) (base : Heap) (x : Str) (C : Addr) (k : Nat) (ps : List Str) (dvs : List V) (sp : Sp) : Prop where
  ex : ∃ (f : Addr) (fd : FuncData) (ds : List Value), Mk K C f ∧ FnOk P w K mg base (L2.CX P w) k f fd ps sp ∧ mg x = some (.ref C) ∧ Binds K fd ps ds ∧ Vals dvs ds
section
variable {X : Cx}
/-- what a callee lets out is let out -/
abbrev Lets (X : Cx) (E : XK) : Prop := Passes (L2.CX X.prog X.w) X E
theorem pe_fx {E : XK} {x : Str} {k : Nat} {ps : List Str} {sp : Sp} {e : Expr} {es : List Expr} {t : TA} {p pos : Pos} (F : FnX X.prog X.w X.K X.mg X.base x k ps sp) (hx : Lets X E) (hr : Room k X.A) (hg : Gl X x) (ha : PA X (e :: es) t)
    (hdb : (x == ("__debug__" : Str)) = false := by decide) (he : starEach (e :: es) X.env = (false, eval e X.env) :: starEach es X.env := by rfl) (hpl : (backTo pos (starEach es X.env)).any (·.1) = false := by rfl) :
    PE X (.Call (.Name x p) (e :: es) [] pos) (tCall sp [] E t) := by
  obtain ⟨f, fd, G, hm, hk, hb⟩ := F.ex
  exact pe_call G hr hg hm hk hb .nil hx ha hdb he hpl
theorem pe_mex {E : XK} {pl : Sem Bool} {C : Addr} {m : Str} {k : Nat} {ps : List Str} {sp : Sp} {o e : Expr} {es : List Expr} {t : TA} {ta : TE} {apos pos : Pos} (he : PE X o ta) (c : Cls X.K C) (M : MeX X.prog X.w X.K X.mg X.base C m k ps sp) (hx : Lets X E) (hr : Room k X.A) (ha : PA X (e :: es) t)
    (hst : starEach (e :: es) X.env = (false, eval e X.env) :: starEach es X.env := by rfl) (hpl : (backTo pos (starEach es X.env)).any (·.1) = false := by rfl)
    (ht : eval (.Call (.Attribute o m apos) (e :: es) [] pos) X.env = (do
      let ov ← eval o X.env
      standAt apos.atName
      let (f, first) ← holding [ov] (getMethod ov m pl)
      callWith pos f first (backTo pos (starEach (e :: es) X.env)) (backToKw pos (keywordEach [] X.env))) := by rfl) :
    PE X (.Call (.Attribute o m apos) (e :: es) [] pos) (tMeth C m sp [] E ta t) := by
  obtain ⟨f, fd, G, hm, hb⟩ := M.ex
  exact pe_meth he c hm G hr hb .nil hx ha hst hpl ht
theorem pe_mex0 {E : XK} {pl : Sem Bool} {C : Addr} {m : Str} {k : Nat} {ps : List Str} {sp : Sp} {o : Expr} {ta : TE} {apos pos : Pos} (he : PE X o ta) (c : Cls X.K C) (M : MeX X.prog X.w X.K X.mg X.base C m k ps sp) (hx : Lets X E) (hr : Room k X.A)
    (ht : eval (.Call (.Attribute o m apos) [] [] pos) X.env = (do
      let ov ← eval o X.env
      standAt apos.atName
      let (f, first) ← holding [ov] (getMethod ov m pl)
      callWith pos f first (backTo pos (starEach [] X.env)) (backToKw pos (keywordEach [] X.env))) := by rfl) :
    PE X (.Call (.Attribute o m apos) [] [] pos) (tMeth C m sp [] E ta tNil) := by
  obtain ⟨f, fd, G, hm, hb⟩ := M.ex
  exact pe_meth0 he c hm G hr hb .nil hx ht
theorem pe_mkx {E : XK} {x : Str} {C : Addr} {k : Nat} {ps : List Str} {dvs : List V} {sp : Sp} {e : Expr} {es : List Expr} {t : TA} {p pos : Pos} (M : MkrX X.prog X.w X.K X.mg X.base x C k ps dvs sp) (hx : Lets X E) (hr : Room (k + 1) X.A) (hg : Gl X x) (ha : PA X (e :: es) t)
    (hdb : (x == ("__debug__" : Str)) = false := by decide) (he : starEach (e :: es) X.env = (false, eval e X.env) :: starEach es X.env := by rfl) (hpl : (backTo pos (starEach es X.env)).any (·.1) = false := by rfl) :
    PE X (.Call (.Name x p) (e :: es) [] pos) (tMake C sp dvs E t) := by
  obtain ⟨f, fd, ds, M, G, hm, hb, hd⟩ := M.ex
  exact pe_make M G hr hg hm hb hd hx ha hdb he hpl
theorem pe_gcls {x : Str} {C : Addr} {p : Pos} (h : X.mg x = some (.ref C)) (hg : Gl X x) (hd : (x == ("__debug__" : Str)) = false := by decide) : PE X (.Name x p) (tC (.ref C)) := pe_glob (v := .ref C) hg h rfl hd
/-- X(), X an own exception class without own __init__ that stands above ValueError -/
structure XpV (K : PySem.W.Frag) (C : Addr) : Prop where
  q : PySem.W.excIn K C PySem.HandSPX.veTail "ValueError.__new__" = true
  kp : PySem.W.keepIn K (.ref C) = true
  h1 : PySem.W.subIn K (.ref C) (.type "BaseException") = some true
  h2 : PySem.W.typeIn K (.ref C) = some (.type "type")
theorem pmk_ownV {C : Addr} {x : Str} {p pos : Pos} (h : XpV X.K C) (gC : X.mg x = some (.ref C)) (hg : Gl X x) (hdb : (x == ("__debug__" : Str)) = false := by decide) : PMk X (.Call (.Name x p) [] [] pos) (fun _ H Q => Q (.ref C) none H) :=
  pmk_own0 F.excBase_ValueError h.q gC h.kp (raises_own h.h1 h.h2) hg hdb
theorem huH {k : Nat} {A : Around} (r : L2H.RoomH k A) : A.units + 65 < cLine := by have := r.un; omega
theorem lets0 : Lets X E0 := passL
theorem lets_of {E : XK} (tk : Takes X (fun cls d _ H => E cls d H)) : Lets X E := passes_call tk fun _ _ _ _ h => h
end
/-- a def's own wish -/
theorem takesX {P : Program} {w : World} {K : PySem.W.Frag} {mg : Str → Option Value} {base : Heap} {N : List Str} {qual : Str} {scope : Scope} {f : Addr} {cdv : Value} {A : Around} {outer : List Env} {s : Shared} {H : Hp} {E : XK} :
    Takes (cxOf (L2.CX P w) P w K mg base N qual scope f cdv A outer s H E) (fun cls d _ H => E cls d H) := takes_of rfl rfl rfl rfl
theorem takesLam {X : Cx} {A : Around} {outer : List Env} {s : Shared} {H : Hp} {E : XK} {scope : Scope} {f c' : Addr} : Takes (LamX.lamCx X A outer s H E scope f c') (fun cls d _ H => E cls d H) := takes_of rfl rfl rfl rfl
/-- what is never reached -/
theorem pss_no {X : Cx} {b : List Stmt} : PSs X b (fun _ _ _ => False) := ⟨fun _ _ _ _ _ _ h => h.elim⟩
/-! ### l.count(x) -/
section
variable {X : Cx}
def rCountD (K : PySem.W.Frag) : V → List V → Hp → VK → Prop := fun x xs H Q => ∃ (a : Addr) (y : V) (d : PyData) (ds : List PyData), x = V.ref a ∧ xs = [y] ∧ Dp K H (V.ref a) (.list ds) ∧ Dp K H y d ∧
  SeqAt.shaped (.list ds) = true ∧ SeqAt.shaped d = true ∧ Q (.int ((ds.countP fun z => PyData.eqv z d : Nat) : Int)) H
theorem mt_countD (hu : X.A.units + 65 < cLine) : MtR X "list.count" (rCountD X.K) := by
  intro pins s σ H x xs v us Q I rx rxs h
  obtain ⟨a, y, d, ds, rfl, rfl, hl, hy, sl, sd, q⟩ := h
  cases rx
  cases rxs with
  | cons ry rt =>
    rename_i uy ut
    cases rt
    obtain ⟨bs, r1⟩ := Dp.reads I d y uy hy ry
    have hroom : X.A.units + 1 + min (PyData.depthAll ds) d.depth < cLine := room_in_shaped sd hu
    have cl : PyData.canLayAll0 ds = true := SeqAt.canLay_of_shaped sl
    cases hl with
    | lst hs ha =>
      obtain ⟨its, rv, ⟨⟨cls, dd, data, sls⟩, n, ho, hc, hdn, hdt⟩, hlen⟩ := I.list hs
      simp only at hc hdt
      subst hc hdt
      obtain ⟨as, h4⟩ := Dp.readsAll I ds _ its ha rv
      have hmap : its.map (SeqAt.readOf s.heap) = ds := SeqAt.readsAll_map ds its as cl h4
      have ec : (ds.countP fun z => PyData.eqv z d) = its.toArray.toList.countP (fun u => PyData.eqv (SeqAt.readOf s.heap u) d) := by
        rw [← hmap, List.countP_map]
        rfl
      rw [ec] at q
      exact call_meets PySem.F.slot_list_count ⟨_, ho, rfl⟩ PySem.F.entry_list_count (PySem.F.args_list_count_2 _ _) (SeqAt.list_countAt a its.toArray n dd sls uy (fun u => PyData.eqv (SeqAt.readOf s.heap u) d))
        ⟨ho, SeqAt.items_eqAt (vs := its.toArray) (show ReadsAll s.heap its.toArray.toList ds as from h4) r1 cl (SeqAt.canLay_of_shaped sd) hroom, ⟨.int _, H, I.tok _, ⟨_, rfl⟩, q⟩⟩
end
/-! ### the caught exception within an except suite and the defs that are called there -/
/-- its dict, where it has one, is known -/
def XdOk (d : Option Addr) (H : Hp) : Prop := ∀ dd, d = some dd → ∃ fs, H dd = some (.xd fs)
section
variable {X : Cx}
theorem inst_pin {pins : List (Addr × Obj)} {σ : L2.St} {H : Hp} {s : Shared} {a D : Addr} {d : Option Addr} {oe : Obj} (I : Inv X pins σ H s) (hp : (a, oe) ∈ X.pn) (hz : Zc (.ref D) d oe) (hf : ∃ vs, oe.data = .fields vs) (hd : XdOk d H) : ∃ od, PySem.W.InstAt s.heap a oe D od := by
  obtain ⟨hget, _⟩ := I.pin (a, oe) (List.mem_append.mpr (.inl hp))
  obtain ⟨vs, hv⟩ := hf
  obtain ⟨z1, z2⟩ := hz
  have nc : PySem.W.notCls oe = true := by unfold PySem.W.notCls; rw [hv] <;> rfl
  cases d with
  | none => exact ⟨none, hget, z1, nc, by rw [z2]; trivial⟩
  | some dd =>
    obtain ⟨fs, e⟩ := hd dd rfl
    have hx : ObjOk X.prog X.w H s.heap dd (.xd fs) := I.hok dd _ e
    obtain ⟨mA, hns, hr⟩ := hx
    obtain ⟨od, ho, hl⟩ := lookIn_ns hns
    exact ⟨some od, hget, z1, nc, by rw [z2]; exact ho⟩
/-- isinstance(e, C) -/
def rIsP (K : PySem.W.Frag) (a : Addr) (cls : Value) (d : Option Addr) : List V → Hp → VK → Prop := fun xs H Q => ∃ (D : Addr) (c : V) (cv : Value) (b : Bool), cls = .ref D ∧ ExcC K D ∧ xs = [.ref a, c] ∧ ClsV c cv ∧ PySem.W.kitOne K (.ref D) cv = some b ∧ XdOk d H ∧ Q (.bl b) H
theorem kit_pin {a D : Addr} {oe : Obj} {od : Option Obj} (C : ExcC X.K D) : PySem.W.KitX X.K (.ref a) (.ref D) (fun h => PySem.W.InstAt h a oe D od) :=
  PySem.W.kitx_exc (by obtain ⟨cd, hc, _⟩ := PySem.W.any_some C.hd; rw [hc]; rfl) C.hg C.hk C.hs C.ha C.hn C.ht C.hm
theorem call_isP {a : Addr} {cls : Value} {d : Option Addr} {oe : Obj} (hp : (a, oe) ∈ X.pn) (hz : Zc cls d oe) (hf : ∃ vs, oe.data = .fields vs) : CallR X (.builtin "isinstance") (rIsP X.K a cls d) := by
  intro pins s σ H xs us Q I r h
  obtain ⟨D, c, cv, b, rfl, C, rfl, hcv, e, hx, q⟩ := h
  obtain ⟨od, J⟩ := inst_pin I hp hz hf hx
  obtain ⟨u1, u2, rfl, r1, r2⟩ := vals2 r
  cases (show u1 = Value.ref a from r1)
  have ec := hcv.eq r2
  subst ec
  exact PySem.W.kia_one (kit_pin C) I.kIn J e (fun z => nomatch z) fun tk => ⟨.bl b, H, I.tok tk, rfl, q⟩
/-- isinstance(e, (C1, C2, ..)) -/
def rIsPT (K : PySem.W.Frag) (a : Addr) (cls : Value) (d : Option Addr) : List V → Hp → VK → Prop := fun xs H Q => ∃ (D tp : Addr) (cs : List V) (us : List Value) (b : Bool), cls = .ref D ∧ ExcC K D ∧ xs = [.ref a, .ref tp] ∧ H tp = some (.tup cs) ∧ Paired ClsV cs us ∧ PySem.W.kitAny K (.ref D) us = some b ∧ XdOk d H ∧ Q (.bl b) H
theorem call_isPT {a : Addr} {cls : Value} {d : Option Addr} {oe : Obj} (hp : (a, oe) ∈ X.pn) (hz : Zc cls d oe) (hf : ∃ vs, oe.data = .fields vs) : CallR X (.builtin "isinstance") (rIsPT X.K a cls d) := by
  intro pins s σ H xs us Q I r h
  obtain ⟨D, tp, cs, ws, b, rfl, C, rfl, hT, k, e, hx, q⟩ := h
  obtain ⟨od, J⟩ := inst_pin I hp hz hf hx
  obtain ⟨u1, u2, rfl, r1, r2⟩ := vals2 r
  cases (show u1 = Value.ref a from r1)
  cases (show u2 = Value.ref tp from r2)
  obtain ⟨_, its, rv, o, h1, h2, n, h3⟩ := (show ObjOk X.prog X.w H s.heap tp (.tup cs) from I.hok tp _ hT)
  have e3 := ClsV.all k rv
  subst e3
  obtain ⟨oc, od', dt, sl⟩ := o
  simp only at h2 h3
  subst h2 h3
  exact PySem.W.kia_tup (kit_pin C) I.kIn J h1 e (fun z => nomatch z) fun tk => ⟨.bl b, H, I.tok tk, rfl, q⟩
/-- e.f -/
def tXfc (K : PySem.W.Frag) (a : Addr) (cls : Value) (d : Option Addr) (f : Str) (te : TE) : TE := fun σ H Q => te σ H fun x H1 => ∃ (D dd : Addr) (fs : List (Str × V)) (v : V), x = .ref a ∧ cls = .ref D ∧ ExcC K D ∧ PySem.W.findIn K (.ref D) f = some none ∧ d = some dd ∧ H1 dd = some (.xd fs) ∧ fs.lookup f = some v ∧ Q v H1
theorem pe_xfc {a : Addr} {oe : Obj} {cls : Value} {d : Option Addr} {e : Expr} {te : TE} {pos : Pos} {n : Str} (hp : (a, oe) ∈ X.pn) (hz : Zc cls d oe) (hf : ∃ vs, oe.data = .fields vs) (he : PE X e te) (hb : attributeBase e n X.env (eval e X.env) = eval e X.env := by rfl) :
    PE X (.Attribute e n pos) (tXfc X.K a cls d n te) := by
  refine ⟨fun pins s σ H Q I h => ?_⟩
  refine attr_of hb (thn (he.run pins s σ H _ I h) fun u s1 hh => ?_)
  obtain ⟨x, H1, I1, rx, D, dd, fs, v, ex, ec, C, no, ed, ea, l, q⟩ := hh
  subst ex ec ed
  cases (show u = Value.ref a from rx)
  obtain ⟨ha, _⟩ := I1.pin (a, oe) (List.mem_append_left _ hp)
  obtain ⟨vs, hd⟩ := hf
  obtain ⟨mA, hns, hr⟩ := (show ObjOk X.prog X.w H1 s1.heap dd (.xd fs) from I1.hok dd _ ea)
  obtain ⟨od, ho, hl⟩ := lookIn_ns hns
  obtain ⟨u, hu, ru⟩ := RelO.some_of (v := v) (o := mA n) (by rw [← l]; exact hr n)
  have J : PySem.W.InstAt s1.heap a oe D (some od) := ⟨ha, hz.1, by unfold PySem.W.notCls; rw [hd] <;> rfl, by rw [hz.2]; exact ho⟩
  exact HandSPX.exc_get I1.kIn J C.hg C.hk C.hs (PySem.W.findObj_own C.hd no rfl (by rw [hl, hu])) (handed_of ru) ⟨v, H1, I1.tok _, ru, q⟩
end
/-! ### a def that is called with the caught exception -/
abbrev SpP := Addr × Obj → List V → Hp → VK → Prop
structure FnP0 (P : Program) (w : World) (K : PySem.W.Frag) (mg : Str → Option Value) (base : Heap) (k : Nat) (f : Addr) (fd : FuncData) (ps : List Str) (sp : SpP) : Prop where
  len : ∀ p vs H Q, sp p vs H Q → vs.length = ps.length
  run : ∀ (A : Around) (outer : List Env) (s : Shared) (H : Hp) (args : Args) (us : List Value) (vs : List V) (Q : VK) (p : Addr × Obj), L2H.RoomH k A → L2H.PinOk outer H s p → Env0 P w K mg base A outer s H → BindsTo s fd args (ps.zip us) → Vals vs us → sp p vs H Q →
    codeAny (model P w) A (.call (.ref f) args) (CR CX0 outer P w H s Q E0) s
theorem Fun.okP {P : Program} {w : World} {K : PySem.W.Frag} {mg : Str → Option Value} {base : Heap} {x qual : Str} {st : Stmt} {f : Addr} {fd : FuncData} {N ps : List Str} {k : Nat} {sp : SpP} (F : Fun K x qual st f fd) (S : FnScope N ps (defScope st)) (len : ∀ p vs H Q, sp p vs H Q → vs.length = ps.length)
    (hbody : ∀ (cdv : Value) (A : Around) (outer : List Env) (s : Shared) (H : Hp) (vs : List V) (Q : VK) (p : Addr × Obj), L2H.RoomH k (A.deeper (envOfC qual (defScope st) s.heap.objs.size f cdv)) → sp p vs H Q →
      ∃ t, PSs (L2H.cxH CX0 P w K mg base N qual (defScope st) f cdv A outer s H E0 p).nox (defBody st) t ∧ t { nx := fun _ H' => Q .non H', rt := Q } (L2.start N vs) H) : FnP0 P w K mg base (k + 1) f fd ps sp := by
  obtain ⟨oc, od, kV, doc, pm, an, cdv, ct, osl, rfl, lk, hcd⟩ := F.ex
  refine ⟨len, fun A outer s H args us vs Q p hr hpin e0 hb r hsp => ?_⟩
  have hl := len _ _ _ _ hsp
  have KX : K.In s.heap := e0.mod.kin.keeps fun b o e => (e0.bs b o e).1
  refine codeAny_call_function hr.depth (KX _ _ lk) rfl S.co S.gen rfl (PySem.W.codeRec_of KX hcd) (hb _ _ _ _ ?_)
  have hkind : ∀ y ∈ ps.zip us, (defScope st).names.lookup y.1 = some .local ∨ ((defScope st).names.lookup y.1 = some .cell ∧ ((cellsFrom (s.heap.objs.size + 1) (defScope st).names []).lookup y.1).isSome = true) := by
    intro y hy
    obtain ⟨n, v⟩ := y
    exact (S.par n (List.of_mem_zip hy).1).imp id fun q => ⟨q, PySem.W.cellsFrom_some _ _ _ (.inl q)⟩
  refine wpAny_newFunctionEnv_cells S.kind hkind fun env he s1 x => ?_
  subst he
  refine ⟨(e0.mod.nolimit.keeps fun b o e => (e0.bs b o e).1).keeps x.toInCall.keep, codeAny_func ?_⟩
  obtain ⟨t, ht, hq⟩ := hbody cdv A outer s H vs Q p (hr.deeper _) hsp
  refine wpAny_mono (ht.nox.run [] s1 (L2.start N vs) H _ (L2H.inv_startH S hpin e0 hl r x) hq) (fun fl s' hs => ?_) fun e s' hs => hs
  have fin : ∀ {σ' : L2.St} {H' : Hp} {v : V} {u : Value}, Inv (L2H.cxH CX0 P w K mg base N qual (defScope st) f cdv A outer s H E0 p) [] σ' H' s' → RelV v u → Q v H' → CE outer P w H s Q u s' :=
    fun {σ' H' v u} J rv q => ⟨v, H', J.os, J.bare, J.base, J.hok, rv, q⟩
  match fl, hs with
  | .ret u, ⟨v, σ', H', J, rv, q⟩ => exact fin J rv q
  | .next, ⟨σ', H', J, q⟩ => exact fin (v := V.non) (u := Value.none) J rfl q
  | .brk, ⟨_, _, _, q⟩ => exact q.elim
  | .cont, ⟨_, _, _, q⟩ => exact q.elim
structure FnP (P : Program) (w : World) (K : PySem.W.Frag) (mg : Str → Option Value) (base : Heap) (x : Str) (k : Nat) (ps : List Str) (sp : SpP) : Prop where
  ex : ∃ (f : Addr) (fd : FuncData), FnP0 P w K mg base k f fd ps sp ∧ mg x = some (.ref f) ∧ PySem.W.keepIn K (.ref f) = true ∧ Binds K fd ps []
def tCallP (sp : SpP) (a : Addr) (cls : Value) (d : Option Addr) (t : TA) : TE := fun σ H Q => t σ H fun vs H1 => ∀ oe : Obj, Zc cls d oe → (∃ vs, oe.data = .fields vs) → sp (a, oe) vs H1 Q
theorem pe_fp {X : Cx} {x : Str} {k : Nat} {ps : List Str} {sp : SpP} {e : Expr} {es : List Expr} {t : TA} {q pos : Pos} {a : Addr} {oe : Obj} {cls : Value} {d : Option Addr} (F : FnP X.prog X.w X.K X.mg X.base x k ps sp) (hp : (a, oe) ∈ X.pn) (hz : Zc cls d oe) (hf : ∃ vs, oe.data = .fields vs) (hr : L2H.RoomH k X.A) (hg : Gl X x) (ha : PA X (e :: es) t)
    (hdb : (x == ("__debug__" : Str)) = false := by decide) (he : starEach (e :: es) X.env = (false, eval e X.env) :: starEach es X.env := by rfl) (hpl : (backTo pos (starEach es X.env)).any (·.1) = false := by rfl) :
    PE X (.Call (.Name x q) (e :: es) [] pos) (tCallP sp a cls d t) := by
  obtain ⟨f, fd, G, hm, hk, hb⟩ := F.ex
  refine ⟨fun pins s σ H Q I h => ?_⟩
  refine wpAny_Call_Name_kw (ld_glob I hg hm ?_ hdb)
  refine PySem.W.callWith_K (h₀ := X.base) I.ok.mod.kin hk (thn (ha.run pos pins s σ H _ I h) fun us s1 ⟨vs, H1, I1, r, q⟩ => ⟨I1.kIn, ?_⟩) he hpl
  have q := q oe hz hf
  have hl : us.length = ps.length := by rw [← r.length]; exact G.len _ _ _ _ q
  have b := hb s1 us I1.kIn (by rw [List.append_nil]; exact hl)
  rw [List.append_nil] at b
  have P1 := I1.pin (a, oe) (List.mem_append_left _ hp)
  have hpin : L2H.PinOk X.stack H1 s1 (a, oe) := ⟨P1.1, P1.2.1, fun hm => (List.mem_cons.mp (I1.stkSub a hm)).elim P1.2.2.1 P1.2.2.2.1, P1.2.2.2.2⟩
  show wpAny _ _ (call (.ref f) us) _ _ _
  refine wpAny_call (codeAny_mono (G.run X.A X.stack s1 H1 ⟨us, []⟩ us vs Q (a, oe) hr hpin I1.env0 b r q) fun r s' hq => ?_)
  match r, hq with
  | .error e, hq => exact False.elim hq
  | .ok (.ret u), hq => exact I1.after hq
  | .ok .next, hq => exact False.elim hq
  | .ok .brk, hq => exact False.elim hq
  | .ok .cont, hq => exact False.elim hq
theorem roomH_mark {k : Nat} {A : Around} {v : Option Value} (r : L2.Room k A) : L2H.RoomH k (A.mark v) := ⟨r.dp, r.un⟩
end Bw

namespace Bw
open PySem PySem.Spec PyProof.Rows L2
/-! ### the classes of the errors; what is told of one -/
structure Zs where
  (Wrong NoWord NoText NoNumber NoSize NoLengths NoQuery NoCode NoRow NoEntries NoQueryText NoPages NoName NoQueries NoShelf NoDeed Taken NoPlace NoSlot : Addr)
def Zs.sixteen (Z : Zs) : List Addr := [Z.NoCode, Z.NoDeed, Z.NoEntries, Z.NoLengths, Z.NoName, Z.NoNumber, Z.NoPages, Z.NoQueries, Z.NoQuery, Z.NoQueryText, Z.NoRow, Z.NoShelf, Z.NoSize, Z.NoText, Z.NoWord, Z.Taken]
def kindNames : List Str := ["code", "deed", "entries", "lengths", "name", "number", "pages", "queries", "query", "text of query", "row", "shelf", "size", "text", "word", "taken"]
def Zs.five (Z : Zs) : List Value := [.ref Z.NoCode, .ref Z.NoEntries, .ref Z.NoPages, .ref Z.NoQueryText, .ref Z.NoRow]
def excB (K : PySem.W.Frag) (D : Addr) : Bool :=
  decide (PySem.W.findIn K (.ref D) "__getattribute__" = some (some (.builtin "BaseException.__getattribute__"))) && (decide (PySem.W.findIn K (.ref D) "__getattr__" = some none) && (decide (PySem.W.subIn K (.ref D) (.type "BaseException") = some true) && (PySem.W.hasDictIn K D && (
  decide (PySem.W.findIn K (.ref D) "__class__" = some (some (.builtin "object.__class__"))) && (decide (PySem.W.specialIn K (.builtin "object.__class__") "__get__" = some (some (.builtin "getset_descriptor.__get__"))) && (decide (PySem.W.takesIn K (.builtin "object.__class__") = some true) && decide (PySem.W.mroIn K D (.type "object") = some true)))))))
theorem excB_ok {K : PySem.W.Frag} {D : Addr} (h : excB K D = true) : ExcC K D := by
  unfold excB at h
  simp only [Bool.and_eq_true, decide_eq_true_eq] at h
  obtain ⟨h1, h2, h3, h4, h5, h6, h7, h8⟩ := h
  exact ⟨h1, h2, h3, h4, h5, h6, h7, h8⟩
/-- one of the sixteen, and which -/
def kindB (K : PySem.W.Frag) (Z : Zs) (D : Addr) (i : Nat) : Bool :=
  excB K D && ((Z.sixteen.zipIdx.all fun x => decide (PySem.W.kitOne K (.ref D) (.ref x.1) = some (decide (x.2 = i)))) && (decide (PySem.W.kitOne K (.ref D) (.type "ValueError") = some true) && decide (PySem.W.kitAny K (.ref D) [.ref Z.NoPlace, .ref Z.NoSlot] = some false)))
structure KindOk (K : PySem.W.Frag) (Z : Zs) (D : Addr) (i : Nat) : Prop where
  ex : ExcC K D
  is : ∀ (j : Nat) (C : Addr), Z.sixteen[j]? = some C → PySem.W.kitOne K (.ref D) (.ref C) = some (decide (j = i))
  ve : PySem.W.kitOne K (.ref D) (.type "ValueError") = some true
  ix : PySem.W.kitAny K (.ref D) [.ref Z.NoPlace, .ref Z.NoSlot] = some false
theorem kindB_ok {K : PySem.W.Frag} {Z : Zs} {D : Addr} {i : Nat} (h : kindB K Z D i = true) : KindOk K Z D i := by
  unfold kindB at h
  simp only [Bool.and_eq_true, decide_eq_true_eq, List.all_eq_true] at h
  obtain ⟨h1, h2, h3, h4⟩ := h
  refine ⟨excB_ok h1, fun j C e => ?_, h3, h4⟩
  exact h2 (C, j) (by
    rw [List.mem_iff_getElem?]
    exact ⟨j, by simp [List.getElem?_zipIdx, e]⟩)
/-- by the first clause: with its place -/
def howAtB (K : PySem.W.Frag) (Z : Zs) (D : Addr) (i : Nat) : Bool := kindB K Z D i && (decide (PySem.W.findIn K (.ref D) "at" = some none) && decide (PySem.W.exmAny K (.ref D) Z.five = some true))
structure HowAt (K : PySem.W.Frag) (Z : Zs) (D : Addr) (i : Nat) : Prop where
  k : KindOk K Z D i
  no : PySem.W.findIn K (.ref D) "at" = some none
  c1 : PySem.W.exmAny K (.ref D) Z.five = some true
theorem howAtB_ok {K : PySem.W.Frag} {Z : Zs} {D : Addr} {i : Nat} (h : howAtB K Z D i = true) : HowAt K Z D i := by
  unfold howAtB at h
  simp only [Bool.and_eq_true, decide_eq_true_eq] at h
  exact ⟨kindB_ok h.1, h.2.1, h.2.2⟩
/-- by the second clause -/
def howPlB (K : PySem.W.Frag) (Z : Zs) (D : Addr) (i : Nat) : Bool := kindB K Z D i && (decide (PySem.W.exmAny K (.ref D) Z.five = some false) && decide (PySem.W.exmAny K (.ref D) [.ref Z.Wrong] = some true))
structure HowPl (K : PySem.W.Frag) (Z : Zs) (D : Addr) (i : Nat) : Prop where
  k : KindOk K Z D i
  c1 : PySem.W.exmAny K (.ref D) Z.five = some false
  c2 : PySem.W.exmAny K (.ref D) [.ref Z.Wrong] = some true
theorem howPlB_ok {K : PySem.W.Frag} {Z : Zs} {D : Addr} {i : Nat} (h : howPlB K Z D i = true) : HowPl K Z D i := by
  unfold howPlB at h
  simp only [Bool.and_eq_true, decide_eq_true_eq] at h
  exact ⟨kindB_ok h.1, h.2.1, h.2.2⟩
/-- by the third clause: no place (b), no slot (not b) -/
def howIxB (K : PySem.W.Frag) (Z : Zs) (D : Addr) (b : Bool) : Bool := excB K D && (decide (PySem.W.exmAny K (.ref D) Z.five = some false) && (decide (PySem.W.exmAny K (.ref D) [.ref Z.Wrong] = some false) && (decide (PySem.W.exmAny K (.ref D) [.ref Z.NoPlace, .ref Z.NoSlot] = some true) &&
  (decide (PySem.W.kitOne K (.ref D) (.type "IndexError") = some true) && (decide (PySem.W.kitOne K (.ref D) (.ref Z.NoPlace) = some b) && decide (PySem.W.kitOne K (.ref D) (.ref Z.NoSlot) = some (!b)))))))
structure HowIx (K : PySem.W.Frag) (Z : Zs) (D : Addr) (b : Bool) : Prop where
  ex : ExcC K D
  c1 : PySem.W.exmAny K (.ref D) Z.five = some false
  c2 : PySem.W.exmAny K (.ref D) [.ref Z.Wrong] = some false
  c3 : PySem.W.exmAny K (.ref D) [.ref Z.NoPlace, .ref Z.NoSlot] = some true
  ie : PySem.W.kitOne K (.ref D) (.type "IndexError") = some true
  np : PySem.W.kitOne K (.ref D) (.ref Z.NoPlace) = some b
  ns : PySem.W.kitOne K (.ref D) (.ref Z.NoSlot) = some (!b)
theorem howIxB_ok {K : PySem.W.Frag} {Z : Zs} {D : Addr} {b : Bool} (h : howIxB K Z D b = true) : HowIx K Z D b := by
  unfold howIxB at h
  simp only [Bool.and_eq_true, decide_eq_true_eq] at h
  obtain ⟨h1, h2, h3, h4, h5, h6, h7⟩ := h
  exact ⟨excB_ok h1, h2, h3, h4, h5, h6, h7⟩
/-! ### what the teller of the kind promises -/
def spKind (K : PySem.W.Frag) (Z : Zs) : SpP := fun p vs H Q => ∃ (D : Addr) (d : Option Addr) (i : Nat) (nm : Str), vs = [.ref p.1] ∧ Zc (.ref D) d p.2 ∧ (∃ vs, p.2.data = .fields vs) ∧ KindOk K Z D i ∧ XdOk d H ∧ kindNames[i]? = some nm ∧ ∀ H', Same H H' → Q (.str nm) H'
/-- what the asker makes of a raised one -/
def howE (K : PySem.W.Frag) (Z : Zs) (Q : VK) : XK := fun cls d H => ∃ D : Addr, cls = .ref D ∧
  ((∃ (i : Nat) (nm : Str), HowPl K Z D i ∧ kindNames[i]? = some nm ∧ XdOk d H ∧ ∀ H', Same H H' → Q (.str nm) H') ∨
   (∃ (i : Nat) (nm : Str) (dd : Addr) (v : V) (tv : String), HowAt K Z D i ∧ kindNames[i]? = some nm ∧ d = some dd ∧ H dd = some (.xd [("at", v)]) ∧ TyX K H v (.type tv) ∧ kitB tv "bool" = some false ∧ ∀ p H', H p = none → Same H H' → H' p = some (.tup [.str nm, v]) → Q (.ref p) H') ∨
   (∃ b : Bool, HowIx K Z D b ∧ XdOk d H ∧ ∀ H', Same H H' → Q (.str (if b then "no place" else "no slot")) H'))
def TTHow (K : PySem.W.Frag) (Z : Zs) : (XK → Hp → VK → Prop) → Hp → VK → Prop := fun tl H Q => tl (howE K Z Q) H (fun _ H' => Q (.str "told") H')
theorem cnt16 {i : Nat} (h : i < 16) : ((([decide (0 = i), decide (1 = i), decide (2 = i), decide (3 = i), decide (4 = i), decide (5 = i), decide (6 = i), decide (7 = i), decide (8 = i), decide (9 = i), decide (10 = i), decide (11 = i), decide (12 = i), decide (13 = i), decide (14 = i), decide (15 = i)] : List Bool).count true : Nat) : Int) = 1 := by
  have : ∀ i, i < 16 → ((([decide (0 = i), decide (1 = i), decide (2 = i), decide (3 = i), decide (4 = i), decide (5 = i), decide (6 = i), decide (7 = i), decide (8 = i), decide (9 = i), decide (10 = i), decide (11 = i), decide (12 = i), decide (13 = i), decide (14 = i), decide (15 = i)] : List Bool).count true : Nat) : Int) = 1 := by decide
  exact this i h
theorem idx16 {i : Nat} (h : i < 16) : ([decide (0 = i), decide (1 = i), decide (2 = i), decide (3 = i), decide (4 = i), decide (5 = i), decide (6 = i), decide (7 = i), decide (8 = i), decide (9 = i), decide (10 = i), decide (11 = i), decide (12 = i), decide (13 = i), decide (14 = i), decide (15 = i)] : List Bool)[i]? = some true := by
  have : ∀ i, i < 16 → ([decide (0 = i), decide (1 = i), decide (2 = i), decide (3 = i), decide (4 = i), decide (5 = i), decide (6 = i), decide (7 = i), decide (8 = i), decide (9 = i), decide (10 = i), decide (11 = i), decide (12 = i), decide (13 = i), decide (14 = i), decide (15 = i)] : List Bool)[i]? = some true := by decide
  exact this i h
theorem bef16 {i : Nat} (h : i < 16) (m : Nat) (hm : m < i) : ([decide (0 = i), decide (1 = i), decide (2 = i), decide (3 = i), decide (4 = i), decide (5 = i), decide (6 = i), decide (7 = i), decide (8 = i), decide (9 = i), decide (10 = i), decide (11 = i), decide (12 = i), decide (13 = i), decide (14 = i), decide (15 = i)] : List Bool)[m]? ≠ some true := by
  have : ∀ i, i < 16 → ∀ m, m < i → ([decide (0 = i), decide (1 = i), decide (2 = i), decide (3 = i), decide (4 = i), decide (5 = i), decide (6 = i), decide (7 = i), decide (8 = i), decide (9 = i), decide (10 = i), decide (11 = i), decide (12 = i), decide (13 = i), decide (14 = i), decide (15 = i)] : List Bool)[m]? ≠ some true := by decide
  exact this i h m hm
theorem nam16 {i : Nat} {nm : Str} (h : kindNames[i]? = some nm) : atI (kindNames.map V.str) (i : Int) = some (.str nm) := atI_nat (by rw [List.getElem?_map, h]; rfl)
theorem takes_len {X : Cx} {W : WX} (tk : Takes X W) : Takes X (fun cls d σ H => σ.length = X.N.length → W cls d σ H) := fun u s' x => by
  obtain ⟨a, B, sI, pins, σ, H, cls, d, e, I, nb, up, sky, na, os, ag, w⟩ := x
  exact tk u s' ⟨a, B, sI, pins, σ, H, cls, d, e, I, nb, up, sky, na, os, ag, w I.len⟩
theorem two_of {σ : L2.St} (h : σ.length = 2) : ∃ x y, σ = [x, y] := by
  match σ, h with
  | [x, y], _ => exact ⟨x, y, rfl⟩
/-- a suite, by any reading of it -/
def tAny (X : Cx) (b : List Stmt) (a : Addr) (cls : Value) (d : Option Addr) : TS := fun D σ H => ∀ (oe : Obj) (pn : List (Addr × Obj)), Zc cls d oe → (∃ vs, oe.data = .fields vs) → ∃ t : TS, PSs (X.suite a ((a, oe) :: pn)) b t ∧ t D σ H
theorem pss_any {X : Cx} {b : List Stmt} (a : Addr) (oe : Obj) (cls : Value) (d : Option Addr) (pn : List (Addr × Obj)) (hz : Zc cls d oe) (hf : ∃ vs, oe.data = .fields vs) : PSs (X.suite a ((a, oe) :: pn)) b (tAny X b a cls d) :=
  ⟨fun pins s σ H D I h => by
    obtain ⟨t, ht, hq⟩ := h oe pn hz hf
    exact ht.run pins s σ H D I hq⟩
theorem same_free {H H' : Hp} {p : Addr} (e : Same H H') (n : H' p = none) : H p = none := by
  cases h : H p with
  | none => rfl
  | some o => rw [e p o h] at n; cases n
theorem iteT' {A B : Prop} {b : Bool} (hb : b = true) (h : A) : if b = true then A else B := by rw [if_pos hb]; exact h
theorem iteF' {A B : Prop} {b : Bool} (hb : b = false) (h : B) : if b = true then A else B := by rw [if_neg (by rw [hb]; exact Bool.false_ne_true)]; exact h
/-! ### steps -/
section
variable {K : PySem.W.Frag} {H H' : Hp} {Q : VK} {σ : L2.St} {a : Addr} {cls : Value} {d : Option Addr}
theorem XdOk.same (h : XdOk d H) (e : Same H H') : XdOk d H' := fun dd q => by
  obtain ⟨fs, w⟩ := h dd q
  exact ⟨fs, e dd _ w⟩
theorem xdOk_at {dd : Addr} {fs : List (Str × V)} (h : H dd = some (.xd fs)) : XdOk (some dd) H := fun d' q => by
  cases q
  exact ⟨fs, h⟩
theorem xdOk_none : XdOk none H := fun d' q => by cases q
theorem w_isP {D C : Addr} {b : Bool} (hE : ExcC K D) (hk : PySem.W.kitOne K (.ref D) (.ref C) = some b) (hx : XdOk d H) (q : Q (.bl b) H) : rIsP K a (.ref D) d [.ref a, .ref C] H Q := ⟨D, .ref C, .ref C, b, rfl, hE, rfl, .own C, hk, hx, q⟩
theorem w_isPt {D : Addr} {n : String} {b : Bool} (hE : ExcC K D) (hk : PySem.W.kitOne K (.ref D) (.type n) = some b) (hx : XdOk d H) (q : Q (.bl b) H) : rIsP K a (.ref D) d [.ref a, .ty n] H Q := ⟨D, .ty n, .type n, b, rfl, hE, rfl, .ty n, hk, hx, q⟩
theorem w_isPT {D tp C1 C2 : Addr} {b : Bool} (hE : ExcC K D) (hT : H tp = some (.tup [.ref C1, .ref C2])) (hk : PySem.W.kitAny K (.ref D) [.ref C1, .ref C2] = some b) (hx : XdOk d H) (q : Q (.bl b) H) : rIsPT K a (.ref D) d [.ref a, .ref tp] H Q :=
  ⟨D, tp, _, _, b, rfl, hE, rfl, hT, .cons (.own C1) (.cons (.own C2) .nil), hk, hx, q⟩
theorem w_bmL {T : String} {r : V → List V → Hp → VK → Prop} {to : TE} {t : TA} (h : to σ H fun x H1 => tyV K T x H1 ∧ t σ H1 fun xs H2 => r x xs H2 Q) : tBM K T r to t σ H Q := h
theorem w_bm0 {T : String} {r : V → List V → Hp → VK → Prop} {to : TE} (h : to σ H fun x H1 => tyV K T x H1 ∧ r x [] H1 Q) : tBM0 K T r to σ H Q := h
theorem w_tyL {R : Prop} {xs : List V} (h : SqL K H a xs) (q : R) : tyV K "list" (.ref a) H ∧ R := ⟨.inl ⟨rfl, xs, h⟩, q⟩
theorem dpAll_bl : ∀ bs : List Bool, DpAll K H (bs.map V.bl) (bs.map PyData.bool)
  | [] => .nil
  | b :: r => .cons (.bl b) (dpAll_bl r)
theorem depth_bl : ∀ bs : List Bool, PyData.depthAll (bs.map PyData.bool) = 0
  | [] => rfl
  | b :: r => by simp [PyData.depthAll, PyData.depth, depth_bl r]
theorem lay_bl : ∀ bs : List Bool, PyData.canLayAll0 (bs.map PyData.bool) = true
  | [] => by simp [PyData.canLayAll0]
  | b :: r => by simp [PyData.canLayAll0, PyData.canLay0, lay_bl r]
theorem shaped_bl (bs : List Bool) : SeqAt.shaped (.list (bs.map PyData.bool)) = true := by
  simp [SeqAt.shaped, PyData.canLay0, lay_bl, PyData.depth, depth_bl]
theorem count_bl : ∀ bs : List Bool, (bs.map PyData.bool).countP (fun z => PyData.eqv z (.bool true)) = bs.count true
  | [] => rfl
  | b :: r => by
    rw [List.map_cons, List.countP_cons, List.count_cons, count_bl r]
    cases b <;> simp [PyData.eqv]
theorem w_countT {xs : List V} {n : Int} (bs : List Bool) (e : xs = bs.map V.bl) (h : SqL K H a xs) (hn : ((bs.count true : Nat) : Int) = n) (q : Q (.int n) H) : rCountD K (.ref a) [.bl true] H Q := by
  subst e
  refine ⟨a, .bl true, .bool true, bs.map PyData.bool, rfl, rfl, .lst h (dpAll_bl bs), .bl true, shaped_bl bs, by simp [SeqAt.shaped, PyData.canLay0, PyData.depth], ?_⟩
  rw [count_bl, hn]
  exact q
theorem w_indexT {xs : List V} {j : Nat} (bs : List Bool) (e : xs = bs.map V.bl) (h : SqL K H a xs) (hj : bs[j]? = some true) (hm : ∀ m, m < j → bs[m]? ≠ some true) (q : Q (.int j) H) : rIndexD K (.ref a) [.bl true] H Q := by
  subst e
  refine ⟨a, .bl true, .bool true, bs.map PyData.bool, j, .bool true, rfl, rfl, .lst h (dpAll_bl bs), .bl true, shaped_bl bs, by simp [SeqAt.shaped, PyData.canLay0, PyData.depth], by simp [hj], by simp [PyData.eqv], fun m z hlt hz => ?_, q⟩
  rw [List.getElem?_map] at hz
  cases eb : bs[m]? with
  | none => rw [eb] at hz; cases hz
  | some b =>
    rw [eb] at hz
    cases hz
    have := hm m hlt
    rw [eb] at this
    cases b <;> simp_all [PyData.eqv]
theorem w_cat {p1 p2 : Addr} {xs zs : List V} (h1 : H p1 = some (.lst xs)) (h2 : H p2 = some (.lst zs)) (hl : xs.length + zs.length ≤ sizeLine) (k : ∀ p H2, H p = none → Same H H2 → H2 p = some (.lst (xs ++ zs)) → Q (.ref p) H2) : rCat (.ref p1) (.ref p2) H Q :=
  ⟨p1, p2, xs, zs, rfl, rfl, h1, h2, hl, fun p n => k p _ n (same_new n) upd_same⟩
theorem w_callP {sp : SpP} {t : TA} (h : t σ H fun vs H1 => ∀ oe : Obj, Zc cls d oe → (∃ vs, oe.data = .fields vs) → sp (a, oe) vs H1 Q) : tCallP sp a cls d t σ H Q := h
theorem w_xfE {f : Str} {te : TE} (h : te σ H fun x H1 => ∃ (D dd : Addr) (fs : List (Str × V)) (v : V), x = .ref a ∧ cls = .ref D ∧ ExcC K D ∧ PySem.W.findIn K (.ref D) f = some none ∧ d = some dd ∧ H1 dd = some (.xd fs) ∧ fs.lookup f = some v ∧ Q v H1) : tXfc K a cls d f te σ H Q := h
theorem w_xf {D dd : Addr} {f : Str} {fs : List (Str × V)} {v : V} {R : V → Prop} (hE : ExcC K D) (no : PySem.W.findIn K (.ref D) f = some none) (hd : H dd = some (.xd fs)) (hl : fs.lookup f = some v) (q : R v) :
    ∃ (D' dd' : Addr) (fs : List (Str × V)) (v : V), V.ref a = .ref a ∧ Value.ref D = .ref D' ∧ ExcC K D' ∧ PySem.W.findIn K (.ref D') f = some none ∧ some dd = some dd' ∧ H dd' = some (.xd fs) ∧ fs.lookup f = some v ∧ R v := ⟨D, dd, fs, v, rfl, rfl, hE, no, rfl, hd, hl, q⟩
end
end Bw

namespace Bw
open PySem PySem.Spec PyProof.Rows L2
/-! ### loops and comprehensions over a known number of things -/
structure Fini (J : It) (n : Nat) (ok : Hp → Prop) (it : Nat → V → Hp → Hp → Prop) : Prop where
  go : ∀ i H, i < n → ok H → J.go i H
  yl : ∀ i H x H', i < n → ok H → J.yld i H x H' → it i x H H'
  st : ∀ H, ok H → J.stop n H
section
variable {K : PySem.W.Frag}
theorem fin_rng {lo : Int} {n : Nat} : Fini (Itr lo n) n (fun _ => True) (fun i x H H' => H' = H ∧ x = .int (lo + i)) := ⟨fun _ _ h _ => h, fun _ _ _ _ _ _ h => h, fun _ _ => Nat.le_refl _⟩
theorem fin_list {a : Addr} {xs : List V} : Fini (Itl K a) xs.length (fun H => SqL K H a xs) (fun i x H H' => H' = H ∧ xs[i]? = some x) :=
  ⟨fun i H h o => ⟨xs, xs[i], o, by simp [h]⟩, fun i H x H' h o y => ⟨y.1, y.2 xs o⟩, fun H o => ⟨xs, o, Nat.le_refl _⟩⟩
theorem fin_tup {a : Addr} {xs : List V} : Fini (Itt K a) xs.length (fun H => SqT K H a xs) (fun i x H H' => H' = H ∧ xs[i]? = some x) :=
  ⟨fun i H h o => ⟨xs, xs[i], o, by simp [h]⟩, fun i H x H' h o y => ⟨y.1, y.2 xs o⟩, fun H o => ⟨xs, o, Nat.le_refl _⟩⟩
theorem fin_str {x : Str} : Fini (Its x) x.cps.size (fun _ => True) (fun i v H H' => H' = H ∧ ∃ c, x.cps[i]? = some c ∧ v = .str ⟨#[c]⟩) := ⟨fun _ _ h _ => h, fun _ _ _ _ _ _ h => h, fun _ _ => Nat.le_refl _⟩
theorem fin_enum {a : Addr} {xs : List V} : Fini (Ite K a) xs.length (fun H => SqL K H a xs) (fun i v H H' => ∃ T x, v = .ref T ∧ H T = none ∧ Same H H' ∧ H' T = some (.tup [.int (i : Nat), x]) ∧ xs[i]? = some x) :=
  ⟨fun i H h o => ⟨xs, xs[i], o, by simp [h]⟩, fun i H v H' h o y => by
    obtain ⟨T, x, e, n, e', q⟩ := y
    subst e'
    exact ⟨T, x, e, n, same_new n, upd_same, q xs o⟩, fun H o => ⟨xs, o, Nat.le_refl _⟩⟩
/-- a for loop -/
theorem for_fin {J : It} {n : Nat} {ok : Hp → Prop} {it : Nat → V → Hp → Hp → Prop} {g : TG} {tb : TS} {D : Ends} {σ : L2.St} {H : Hp} (F : Fini J n ok it) (Pv : Nat → L2.St → Hp → Prop) (h0 : Pv 0 σ H) (hl : ∀ i σ H, i ≤ n → Pv i σ H → ok H)
    (hs : ∀ i x σ H H1, i < n → Pv i σ H → it i x H H1 → g x σ H1 fun σ2 H2 => tb { D with nx := Pv (i + 1), ct := Pv (i + 1), bk := D.nx } σ2 H2) (hd : ∀ σ H, Pv n σ H → D.nx σ H) :
    ∃ W : Nat → Nat → L2.St → Hp → Prop, (∃ m, W 0 m σ H) ∧ ∀ i m σ H, W i m σ H →
      (J.stop i H ∧ D.nx σ H) ∨ (J.go i H ∧ ∃ N : L2.St → Hp → Prop, (∀ σ' H', N σ' H' → ∃ m', m' < m ∧ W (i + 1) m' σ' H') ∧ ∀ x H', J.yld i H x H' → g x σ H' fun σ2 H2 => tb { D with nx := N, ct := N, bk := D.nx } σ2 H2) := by
  refine ⟨fun i m σ H => m = n - i ∧ i ≤ n ∧ Pv i σ H, ⟨n, by simp, Nat.zero_le _, h0⟩, ?_⟩
  rintro i m σ H ⟨rfl, hi, p⟩
  have o := hl i σ H hi p
  rcases Nat.lt_or_ge i n with hlt | hge
  · exact .inr ⟨F.go i H hlt o, Pv (i + 1), fun σ' H' p' => ⟨n - (i + 1), by omega, rfl, hlt, p'⟩, fun x H' y => hs i x σ H H' hlt p (F.yl i H x H' hlt o y)⟩
  · obtain rfl : i = n := Nat.le_antisymm hi hge
    exact .inl ⟨F.st H o, hd σ H p⟩
/-- the next turn of a comprehension -/
def NxI (D : Addr) (i : Nat) (Iv : Nat → List V → Hp → Prop) : Hp → Prop := fun H' => ∃ acc', acc'.length ≤ i + 1 ∧ H' D = some (.lst acc') ∧ Iv (i + 1) acc' H'
theorem take_succ {α : Type} {xs : Array α} {i : Nat} {c : α} (h : xs[i]? = some c) : xs.toList.take (i + 1) = xs.toList.take i ++ [c] := by
  rw [List.take_add_one]
  congr 1
  rw [Array.getElem?_toList, h]
  rfl
theorem take_succL {α : Type} {xs : List α} {i : Nat} {c : α} (h : xs[i]? = some c) : xs.take (i + 1) = xs.take i ++ [c] := by
  rw [List.take_add_one, h]
  rfl
theorem take_size {α : Type} {xs : Array α} : xs.toList.take xs.size = xs.toList := by
  rw [← Array.length_toList, List.take_length]
theorem w_acc {D : Addr} {i n : Nat} {Iv : Nat → List V → Hp → Prop} {acc : List V} {y : V} {H4 : Hp} (hD : H4 D = some (.lst acc)) (ha : acc.length ≤ i) (hi : i < n) (hn : n ≤ sizeLine) (k : ∀ H5, KB D H4 H5 → H5 D = some (.lst (acc ++ [y])) → Iv (i + 1) (acc ++ [y]) H5) :
    ∃ acc, H4 D = some (.lst acc) ∧ acc.length < sizeLine ∧ NxI D i Iv (upd H4 D (.lst (acc ++ [y]))) :=
  ⟨acc, hD, by omega, acc ++ [y], by rw [List.length_append]; simp; omega, upd_same, k _ kb_upd upd_same⟩
theorem w_skip {D : Addr} {i : Nat} {Iv : Nat → List V → Hp → Prop} {acc : List V} {H3 : Hp} (hD : H3 D = some (.lst acc)) (ha : acc.length ≤ i) (k : Iv (i + 1) acc H3) : NxI D i Iv H3 := ⟨acc, by omega, hD, k⟩
/-- a comprehension: Iv by the turn, what is gathered and the heap -/
theorem lc_fin {J : It} {n : Nat} {ok : Hp → Prop} {it : Nat → V → Hp → Hp → Prop} {g : TG} {tt : TT} {te : TE} {vs : List Nat} {σ : L2.St} {H1 : Hp} {Qd : Addr → Hp → Prop} (F : Fini J n ok it) (Iv : Nat → List V → Hp → Prop)
    (h0 : ∀ D H2, H1 D = none → Same H1 H2 → H2 D = some (.lst []) → Iv 0 [] H2) (hl : ∀ i acc H, i ≤ n → Iv i acc H → ok H)
    (hs : ∀ D i x acc H H', H1 D = none → i < n → acc.length ≤ i → Iv i acc H → H D = some (.lst acc) → it i x H H' → g x (wipe σ vs) H' fun σ2 H2 => wipe σ2 vs = wipe σ vs ∧ tt σ2 H2 fun b H3 =>
      if b = true then te σ2 H3 fun y H4 => ∃ acc, H4 D = some (.lst acc) ∧ acc.length < sizeLine ∧ NxI D i Iv (upd H4 D (.lst (acc ++ [y]))) else NxI D i Iv H3)
    (hd : ∀ D acc H, H1 D = none → Iv n acc H → acc.length ≤ n → H D = some (.lst acc) → Qd D H) :
    ∀ D, H1 D = none → ∃ W : Nat → Nat → Hp → Prop, (∃ m, W 0 m (upd H1 D (.lst []))) ∧ ∀ i m H, W i m H →
      (J.stop i H ∧ Qd D H) ∨ (J.go i H ∧ ∃ Nx : Hp → Prop, (∀ H', Nx H' → ∃ m', m' < m ∧ W (i + 1) m' H') ∧ ∀ x H', J.yld i H x H' → g x (wipe σ vs) H' fun σ2 H2 => wipe σ2 vs = wipe σ vs ∧ tt σ2 H2 fun b H3 =>
        if b = true then te σ2 H3 fun y H4 => ∃ acc, H4 D = some (.lst acc) ∧ acc.length < sizeLine ∧ Nx (upd H4 D (.lst (acc ++ [y]))) else Nx H3) := by
  intro D nD
  refine ⟨fun i m H => m = n - i ∧ i ≤ n ∧ ∃ acc, acc.length ≤ i ∧ H D = some (.lst acc) ∧ Iv i acc H, ⟨n, by simp, Nat.zero_le _, [], Nat.le_refl _, upd_same, h0 D _ nD (same_new nD) upd_same⟩, ?_⟩
  rintro i m H ⟨rfl, hi, acc, hacc, hD, p⟩
  have o := hl i acc H hi p
  rcases Nat.lt_or_ge i n with hlt | hge
  · exact .inr ⟨F.go i H hlt o, NxI D i Iv, fun H' p' => ⟨n - (i + 1), by omega, rfl, hlt, p'⟩, fun x H' y => hs D i x acc H H' nD hlt hacc p hD (F.yl i H x H' hlt o y)⟩
  · obtain rfl : i = n := Nat.le_antisymm hi hge
    exact .inl ⟨F.st H o, hd D acc H nD p hacc hD⟩
theorem w_lcE {wi : TI} {g : TG} {tt : TT} {te : TE} {vs : List Nat} {σ : L2.St} {H : Hp} {Q : VK} (h : wi σ H fun J H1 => ∀ D, H1 D = none → ∃ W : Nat → Nat → Hp → Prop, (∃ m, W 0 m (upd H1 D (.lst []))) ∧ ∀ i m H, W i m H →
  (J.stop i H ∧ Q (.ref D) H) ∨ (J.go i H ∧ ∃ Nx : Hp → Prop, (∀ H', Nx H' → ∃ m', m' < m ∧ W (i + 1) m' H') ∧ ∀ x H', J.yld i H x H' → g x (wipe σ vs) H' fun σ2 H2 => wipe σ2 vs = wipe σ vs ∧ tt σ2 H2 fun b H3 =>
    if b = true then te σ2 H3 fun y H4 => ∃ acc, H4 D = some (.lst acc) ∧ acc.length < sizeLine ∧ Nx (upd H4 D (.lst (acc ++ [y]))) else Nx H3)) : tLc wi g tt te vs σ H Q := h
theorem w_iStr {te : TE} {σ : L2.St} {H : Hp} {R : It → Hp → Prop} (h : te σ H fun v H1 => ∃ x, v = .str x ∧ R (Its x) H1) : iStr te σ H R := h
theorem w_strE {x : Str} {R : Str → Prop} (q : R x) : ∃ y, V.str x = .str y ∧ R y := ⟨x, rfl, q⟩
theorem w_iEnum {ta : TA} {σ : L2.St} {H : Hp} {R : It → Hp → Prop} (h : ta σ H fun vs H1 => ∃ a xs, vs = [.ref a] ∧ SqL K H1 a xs ∧ R (Ite K a) H1) : iEnum K ta σ H R := h
theorem w_enum {a : Addr} {xs : List V} {H : Hp} {R : Addr → Prop} (h : SqL K H a xs) (q : R a) : ∃ (a' : Addr) (xs : List V), [V.ref a] = [.ref a'] ∧ SqL K H a' xs ∧ R a' := ⟨a, xs, rfl, h, q⟩
theorem w_yes {σ : L2.St} {H : Hp} {QB : Bool → Hp → Prop} (q : QB true H) : tYes σ H QB := q
theorem w_inS {c : Nat} {z : Str} {H : Hp} {Q : VK} (q : Q (.bl (decide (c ∈ z.cps.toList))) H) : rInS (.str ⟨#[c]⟩) (.str z) H Q := ⟨c, z, rfl, rfl, q⟩
theorem w_all {bs : List Bool} {a : Addr} {xs : List V} {H : Hp} {Q : VK} (e : xs = bs.map V.bl) (h : SqL K H a xs) (q : Q (.bl (bs.all id)) H) : rAll K [.ref a] H Q := ⟨a, bs, rfl, e ▸ h, q⟩
theorem w_m1 {r : V → List V → Hp → VK → Prop} {to te : TE} {σ : L2.St} {H : Hp} {Q : VK} (h : to σ H fun x H1 => (∃ a, x = .str a) ∧ te σ H1 fun y H2 => r x [y] H2 Q) : tM1 r to te σ H Q := h
theorem w_m0 {r : V → List V → Hp → VK → Prop} {to : TE} {σ : L2.St} {H : Hp} {Q : VK} (h : to σ H fun x H1 => (∃ a, x = .str a) ∧ r x [] H1 Q) : tM0 r to σ H Q := h
theorem w_append {l : Addr} {xs : List V} {y : V} {H : Hp} {Q : VK} (h : H l = some (.lst xs)) (hl : xs.length < sizeLine) (k : ∀ H2, KB l H H2 → H2 l = some (.lst (xs ++ [y])) → Q .non H2) : rAppend (.ref l) [y] H Q := ⟨l, xs, y, rfl, rfl, h, hl, k _ kb_upd upd_same⟩
theorem txt_join (y : Str) (ps : List Str) : Txt.join y ps = Str.join y ps := beq_iff_eq.mp (PyProof.Rows.join_plain_closes y ps)
theorem w_sl {r : V → Option Int → Option Int → Hp → VK → Prop} {te : TE} {tl th : TO} {σ : L2.St} {H : Hp} {Q : VK} (h : te σ H fun x H1 => tl σ H1 fun l H2 => th σ H2 fun u H3 => r x l u H3 Q) : L2.tSl r te tl th σ H Q := h
theorem w_noPart {σ : L2.St} {H : Hp} {Q : Option Int → Hp → Prop} (q : Q none H) : tNoPart σ H Q := q
theorem w_part {te : TE} {σ : L2.St} {H : Hp} {Q : Option Int → Hp → Prop} (h : te σ H fun v H1 => ∃ i, v = .int i ∧ Q (some i) H1) : tPart te σ H Q := h
theorem w_intE {i : Int} {R : Int → Prop} (q : R i) : ∃ j, V.int i = .int j ∧ R j := ⟨i, rfl, q⟩
theorem w_slS {z : Str} {lo hi : Option Int} {H : Hp} {Q : VK} (hl : z.length ≤ sizeLine) (q : Q (.str (cutS z lo hi)) H) : rSlS (.str z) lo hi H Q := ⟨z, rfl, hl, q⟩
theorem w_slL {a : Addr} {xs : List V} {lo hi : Option Int} {H : Hp} {Q : VK} (h : SqL K H a xs) (k : ∀ p H2, H p = none → Same H H2 → H2 p = some (.lst (cutV xs lo hi)) → Q (.ref p) H2) : rSlL K (.ref a) lo hi H Q := ⟨a, xs, rfl, h, fun p n => k p _ n (same_new n) upd_same⟩
theorem w_addS {x y : Str} {H : Hp} {Q : VK} (hl : x.length + y.length ≤ sizeLine) (q : Q (.str (x ++ y)) H) : rAddS (.str x) (.str y) H Q := ⟨x, y, rfl, rfl, hl, q⟩
theorem w_isS {x : Str} {R : Prop} (q : R) : (∃ a, V.str x = .str a) ∧ R := ⟨⟨x, rfl⟩, q⟩
theorem w_split {x y : Str} {H : Hp} {Q : VK} (hy : (y.length == 0) = false) (hl : x.length + 2 ≤ sizeLine) (k : ∀ p H2, H p = none → Same H H2 → H2 p = some (.lst ((Txt.split x y).map V.str)) → Q (.ref p) H2) :
    ∃ a b, V.str x = .str a ∧ [V.str y] = [.str b] ∧ (b.length == 0) = false ∧ a.length + 2 ≤ sizeLine ∧ rNewStrs (Txt.split a b) H Q := ⟨x, y, rfl, rfl, hy, hl, fun p n => k p _ n (same_new n) upd_same⟩
theorem w_join {x : Str} {p : Addr} {ys : List Str} {zs : List V} {H : Hp} {Q : VK} (e : zs = ys.map V.str) (h : SqL K H p zs) (hl : (ys.map (·.length)).sum + ys.length * x.length ≤ 16777216) (q : Q (.str (Txt.join x ys)) H) :
    ∃ a p', ∃ ys : List Str, V.str x = .str a ∧ [V.ref p] = [.ref p'] ∧ (SqL K H p' (ys.map V.str) ∨ SqT K H p' (ys.map V.str)) ∧ (ys.map (·.length)).sum + ys.length * a.length ≤ 16777216 ∧ Q (.str (Txt.join a ys)) H := ⟨x, p, ys, rfl, rfl, .inl (e ▸ h), hl, q⟩
/-! ### pieces of a text -/
theorem le_sum {x : Nat} : ∀ {l : List Nat}, x ∈ l → x ≤ l.sum
  | y :: r, h => by
    rcases List.mem_cons.mp h with rfl | h
    · simp
    · have := le_sum h
      simp
      omega
end
end Bw

namespace Bw
open PySem PySem.Spec PyProof.Rows L2 LamX
/-- a def whose code object is known -/
structure FunC (K : PySem.W.Frag) (x qual : Str) (st : Stmt) (f : Addr) (fd : FuncData) (c : Addr) : Prop where
  ex : ∃ (oc : Value) (od : Option Addr) (kV doc pm : Value) (an : Option Addr) (ct : Value) (osl : Array (Option Value)),
    fd = PySem.W.fnOf x qual (defArgs st) (defBody st) (defScope st) .none kV doc pm an (.ref c) ct ∧ K.lookup f = some ⟨oc, od, .func fd, osl⟩ ∧ PySem.W.codeIn K (.ref c) qual = true
  kp : PySem.W.keepIn K (.ref f) = true
section
variable {P : Program} {w : World} {K : PySem.W.Frag} {mg : Str → Option Value} {base : Heap}
theorem FunC.ok {x qual : Str} {st : Stmt} {f c : Addr} {fd : FuncData} {N ps : List Str} {k : Nat} {sp : Sp} (F : FunC K x qual st f fd c) (S : FnScope N ps (defScope st)) (len : ∀ vs H Q E, sp vs H Q E → vs.length = ps.length)
    (hbody : ∀ (A : Around) (outer : List Env) (s : Shared) (H : Hp) (vs : List V) (Q : VK) (E : XK), Room k (A.deeper (envOfC qual (defScope st) s.heap.objs.size f (.ref c))) → sp vs H Q E →
      ∃ t, PSs (cxOf CX0 P w K mg base N qual (defScope st) f (.ref c) A outer s H E).nox (defBody st) t ∧ t { nx := fun _ H' => Q .non H', rt := Q } (L2.start N vs) H) : FnOk P w K mg base CX0 (k + 1) f fd ps sp := by
  obtain ⟨oc, od, kV, doc, pm, an, ct, osl, rfl, lk, hcd⟩ := F.ex
  refine fn_of lk hcd S len fun A outer s H vs Q E hr hsp => ?_
  obtain ⟨t, h, q⟩ := hbody A outer s H vs Q E hr hsp
  exact ⟨t, h.nox, q⟩
theorem FunC.fun_ {x qual : Str} {st : Stmt} {f c : Addr} {fd : FuncData} (F : FunC K x qual st f fd c) : Fun K x qual st f fd := by
  obtain ⟨oc, od, kV, doc, pm, an, ct, osl, e, lk, hcd⟩ := F.ex
  exact ⟨⟨oc, od, kV, doc, pm, an, .ref c, ct, osl, e, lk, hcd⟩, F.kp⟩
theorem funC_mk {x qual : Str} {st : Stmt} {f c : Addr} {oc : Value} {od an : Option Addr} {osl : Array (Option Value)} {kV doc pm ct : Value} (l : K.lookup f = some ⟨oc, od, .func (PySem.W.fnOf x qual (defArgs st) (defBody st) (defScope st) .none kV doc pm an (.ref c) ct), osl⟩)
    (hc : PySem.W.codeIn K (.ref c) qual = true) (k : PySem.W.keepIn K (.ref f) = true) : FunC K x qual st f (PySem.W.fnOf x qual (defArgs st) (defBody st) (defScope st) .none kV doc pm an (.ref c) ct) c := ⟨⟨oc, od, kV, doc, pm, an, ct, osl, rfl, l, hc⟩, k⟩
/-- the def x is handed a lambda without parameters, and calls it -/
structure Asks (P : Program) (w : World) (K : PySem.W.Frag) (mg : Str → Option Value) (base : Heap) (x a : Str) (N : List Str) (st : Stmt) (k : Nat) (TT : (XK → Hp → VK → Prop) → Hp → VK → Prop) : Prop where
  ex : ∃ (g : Addr) (fd : FuncData), Fun K x x st g fd ∧ mg x = some (.ref g) ∧ Binds K fd [a] []
  sc : FnScope N [a] (defScope st)
  n0 : N[0]? = some a
  va : Vis (defScope st) a
  gives : ∀ X : Cx, X.prog = P → X.w = w → X.K = K → X.mg = mg → X.base = base → Room k X.A → ∀ (g : Addr) (cdg : Value) (q : Str), GivesTo X N x (defScope st) g cdg (defBody st) a q TT
end
abbrev lamN (x : Str) : Str := (x ++ ".<locals>.") ++ "<lambda>"
theorem pe_asks {X : Cx} {x a : Str} {N : List Str} {st : Stmt} {k j : Nat} {TT : (XK → Hp → VK → Prop) → Hp → VK → Prop} {T : List (Addr × Str)} {c P : Addr} {params : Arguments} {body : Expr} {scope : Scope} {t : XK → TE} {p lpos pos : Pos}
    (A : Asks X.prog X.w X.K X.mg X.base x a N st k TT) (hg : Gl X x) (TB : TabB X.base X.mg c P) (hcode : X.env.code = .ref c) {ql : Str} (hql : X.env.qual = ql) (hmT : (P, ql ++ "<lambda>") ∈ T) (hu : ∀ p ∈ T, p.1 = P → p.2 = ql ++ "<lambda>") (hr1 : Room k X.A) (hr : Room (j + 2) X.A) (L : lamSB X.env.scope scope = true) (hdef : defaultsOf params X.env = ([], []))
    (hbind : ∀ (q : Str) (cl : List (Str × Addr)) (pm cv ctv : Value), bindArgs (PySem.W.kla_fn "<lambda>" q params body scope cl pm cv ctv) ⟨[], []⟩ = pure [])
    (hbody : ∀ (A : Around) (outer : List Env) (s : Shared) (H : Hp) (E : XK) (f c' : Addr), Room j (A.deeper (lamEnv X scope s.heap.objs.size f c')) → PE (lamCx X A outer s H E scope f c') body (t E))
    (hdb : (x == ("__debug__" : Str)) = false := by decide) (hd : (a == ("__debug__" : Str)) = false := by decide) (hcd : (a == ("__classdict__" : Str)) = false := by decide) :
    PE X (.Call (.Name x p) [.Lambda params body scope lpos] [] pos) (tLam T TT t) := by
  subst hql
  obtain ⟨g, fd, F, hm, hb⟩ := A.ex
  have kp := F.kp
  obtain ⟨oc, od, kV, doc, pm, an, cdv, ct, osl, rfl, lk, hcd'⟩ := F.ex
  exact pe_lamcall hg hm kp lk hcd' hb A.sc A.n0 A.va (A.gives X rfl rfl rfl rfl rfl hr1 g cdv _) TB hcode hmT hu hr (lamS_by L) hdef hbind hbody hdb hd hcd
/-! ### steps -/
section
variable {H H' H1 : Hp} {σ : L2.St} {Q : VK} {K : PySem.W.Frag}
theorem w_lam {T : List (Addr × Str)} {TT : (XK → Hp → VK → Prop) → Hp → VK → Prop} {t : XK → TE} (hT : Tabs T H) (h : ∀ H1, ExtN H H1 → Tabs T H1 → TT (fun E H' Q' => t E σ H' Q') H1 Q) : tLam T TT t σ H Q := ⟨hT, h⟩
theorem w_how {Z : Zs} {tl : XK → Hp → VK → Prop} (h : tl (howE K Z Q) H (fun _ H' => Q (.str "told") H')) : TTHow K Z tl H Q := h
theorem extn_at {a : Addr} {o : HO} (e : ExtN H H') (h : H a = some o) (n : ∀ ps, o ≠ .tbl ps) : H' a = some o := e a o h n
theorem extn_same (e : Same H H') : ExtN H H' := fun b o h _ => e b o h
theorem extn_seq {a : Addr} {xs : List V} (e : ExtN H H') (h : SqL K H a xs) : SqL K H' a xs := by
  rcases h with (h | ⟨o, h⟩) | h
  · exact .inl (.inl (e _ _ h (fun _ z => by cases z)))
  · exact .inl (.inr ⟨o, e _ _ h (fun _ z => by cases z)⟩)
  · exact .inr h
theorem extn_tup {a : Addr} {xs : List V} (e : ExtN H H') (h : SqT K H a xs) : SqT K H' a xs := by
  rcases h with (h | ⟨o, h⟩) | h
  · exact .inl (.inl (e _ _ h (fun _ z => by cases z)))
  · exact .inl (.inr ⟨o, e _ _ h (fun _ z => by cases z)⟩)
  · exact .inr h
mutual
theorem Dp.extn (e : ExtN H H') : ∀ {v : V} {d : PyData}, Dp K H v d → Dp K H' v d
  | _, _, .non => .non
  | _, _, .bl b => .bl b
  | _, _, .int i => .int i
  | _, _, .str x => .str x
  | _, _, .lst h r => .lst (extn_seq e h) (DpAll.extn e r)
  | _, _, .tup h r => .tup (extn_tup e h) (DpAll.extn e r)
theorem DpAll.extn (e : ExtN H H') : ∀ {vs : List V} {ds : List PyData}, DpAll K H vs ds → DpAll K H' vs ds
  | _, _, .nil => .nil
  | _, _, .cons h r => .cons (Dp.extn e h) (DpAll.extn e r)
end
/-- two heaps, the tables may have grown -/
structure Grown (T : List (Addr × Str)) (H H' : Hp) : Prop where
  e : ExtN H H'
  t : Tabs T H'
theorem Grown.trans {T : List (Addr × Str)} (a : Grown T H H1) (b : Grown T H1 H') : Grown T H H' := ⟨a.e.trans b.e, b.t⟩
theorem Grown.same {T : List (Addr × Str)} (a : Grown T H H1) (b : Same H1 H') : Grown T H H' := ⟨a.e.trans (extn_same b), a.t.ext b⟩
theorem Grown.of {T : List (Addr × Str)} (t : Tabs T H) (b : Same H H') : Grown T H H' := ⟨extn_same b, t.ext b⟩
theorem tabs_kb {T : List (Addr × Str)} {p : Addr} {xs : List V} (t : Tabs T H) (hp : H p = some (.lst xs)) (e : KB p H H') : Tabs T H' := by
  intro x hx
  obtain ⟨ps, h1, h2, h3⟩ := t x hx
  have ne : ∀ {b o}, H b = some o → (o ≠ .lst xs) → b ≠ p := fun {b o} hb no z => no (Option.some.inj (hb.symm.trans (z ▸ hp)))
  refine ⟨ps, e _ _ h1 (ne h1 (fun z => by cases z)), h2, fun pos cv hc => ?_⟩
  obtain ⟨c, e1, e2⟩ := h3 pos cv hc
  exact ⟨c, e1, e _ _ e2 (ne e2 (fun z => by unfold CodeO at z; cases z))⟩
end
/-! ### things that are no texts -/
inductive Odd (H : Hp) : V → Prop
  | non : Odd H .non
  | int (i : Int) : Odd H (.int i)
  | bl (b : Bool) : Odd H (.bl b)
  | lst {a : Addr} {xs : List V} : H a = some (.lst xs) → Odd H (.ref a)
  | tup {a : Addr} {xs : List V} : H a = some (.tup xs) → Odd H (.ref a)
theorem kit_non_str : kitB "NoneType" "str" = some false := by decide +kernel
theorem kit_lst_str : kitB "list" "str" = some false := by decide +kernel
theorem kit_tup_str : kitB "tuple" "str" = some false := by decide +kernel
theorem Odd.ty {K : PySem.W.Frag} {H : Hp} {v : V} (h : Odd H v) : (∀ x, v ≠ .str x) ∧ ∃ tv, TyX K H v (.type tv) ∧ kitB tv "str" = some false := by
  cases h with
  | non => exact ⟨fun x z => (by cases z), _, tyx_non, kit_non_str⟩
  | int i => exact ⟨fun x z => (by cases z), _, tyx_int, kit_int_str⟩
  | bl b => exact ⟨fun x z => (by cases z), _, tyx_bl, kit_bool_str⟩
  | lst e => exact ⟨fun x z => (by cases z), _, tyx_lst e, kit_lst_str⟩
  | tup e => exact ⟨fun x z => (by cases z), _, tyx_tup e, kit_tup_str⟩
theorem Odd.ext {H H' : Hp} {v : V} (h : Odd H v) (e : ExtN H H') : Odd H' v := by
  cases h with
  | non => exact .non
  | int i => exact .int i
  | bl b => exact .bl b
  | lst q => exact .lst (e _ _ q (fun _ z => by cases z))
  | tup q => exact .tup (e _ _ q (fun _ z => by cases z))
/-- a text, or no text -/
def TxtV (H : Hp) (v : V) : Prop := (∃ x : Str, v = .str x ∧ x.length ≤ 100000) ∨ Odd H v
theorem TxtV.ext {H H' : Hp} {v : V} (h : TxtV H v) (e : ExtN H H') : TxtV H' v := h.imp id fun q => q.ext e
theorem TxtV.same {H H' : Hp} {v : V} (h : TxtV H v) (e : Same H H') : TxtV H' v := h.ext (extn_same e)
/-! ### lists of texts -/
section
variable {K : PySem.W.Frag} {H : Hp}
theorem dpAll_str : ∀ bs : List Str, DpAll K H (bs.map V.str) (bs.map PyData.str)
  | [] => .nil
  | b :: r => .cons (.str b) (dpAll_str r)
theorem depth_str : ∀ bs : List Str, PyData.depthAll (bs.map PyData.str) = 0
  | [] => rfl
  | b :: r => by simp [PyData.depthAll, PyData.depth, depth_str r]
theorem lay_str : ∀ {bs : List Str}, (∀ b ∈ bs, PyData.strOk b = true) → PyData.canLayAll0 (bs.map PyData.str) = true
  | [], _ => by simp [PyData.canLayAll0]
  | b :: r, h => by simp [PyData.canLayAll0, PyData.canLay0, h b List.mem_cons_self, lay_str (fun x hx => h x (List.mem_cons_of_mem _ hx))]
theorem shaped_str {bs : List Str} (h : ∀ b ∈ bs, PyData.strOk b = true) : SeqAt.shaped (.list (bs.map PyData.str)) = true := by
  simp [SeqAt.shaped, PyData.canLay0, lay_str h, PyData.depth, depth_str]
theorem eqvAll_str : ∀ bs cs : List Str, PyData.eqvAll (bs.map PyData.str) (cs.map PyData.str) = decide (bs = cs)
  | [], [] => by simp [PyData.eqvAll]
  | [], c :: s => by simp [PyData.eqvAll]
  | b :: r, [] => by simp [PyData.eqvAll]
  | b :: r, c :: s => by
    simp only [List.map_cons, PyData.eqvAll, PyData.eqv, eqvAll_str r s, List.cons.injEq]
    by_cases h1 : b = c <;> by_cases h2 : r = s <;> simp [h1, h2]
theorem eqv_strs (bs cs : List Str) : PyData.eqv (.list (bs.map PyData.str)) (.list (cs.map PyData.str)) = decide (bs = cs) := by
  simp only [PyData.eqv, eqvAll_str]
end
end Bw

/-! Starred targets: a, *b = e for a tuple or a list e. -/
namespace Bw
open PySem PySem.Spec L2
section
variable {prog : Program} {w : World} {A : Around} {E : Value → Shared → Prop} {I : Addr} {fp wr : List Addr} {G : Array GenState → Array GenState → Prop} {n : Nat} {P : Nat → Value → Prop} {St : Nat → Shared → Prop}
theorem moved_refl (hg : ∀ a, G a a) (s : Shared) : Moved wr G s s := Moved.refl hg
theorem moved_trans (ht : ∀ a b c, G a b → G b c → G a c) {s s' s'' : Shared} (x : Moved wr G s s') (y : Moved wr G s' s'') : Moved wr G s s'' :=
  ⟨fun b o hb e => y.heap b o hb (x.heap b o hb e), ht _ _ _ x.gens y.gens, y.drawn.trans x.drawn, y.os.trans x.os, Nat.le_trans x.toks y.toks⟩
theorem draw_S (W : WalksS prog w A I fp wr G n P St) : ∀ (m i : Nat) (s : Shared) (Q : List Value → Shared → Prop), St i s → i + m ≤ n →
    (∀ s' vs, Moved wr G s s' → St (i + m) s' → vs.length = m → (∀ j v, vs[j]? = some v → P (i + j) v) → Q vs s') → wpAny (model prog w) A (draw (.ref I) m) Q E s
  | 0, i, s, Q, st, _, hQ => by
    show wpAny _ _ (pure []) Q E s
    exact wpAny_pure (hQ s [] (moved_refl W.grefl s) st rfl fun j v h => by simp at h)
  | m + 1, i, s, Q, st, hle, hQ => by
    show wpAny _ _ (pyNext (.ref I) >>= _) Q E s
    refine wpAny_bind (W.item i s _ _ (by omega) st fun v s1 hP st1 mv => ?_)
    refine wpAny_bind (wpAny_holding (draw_S W m (i + 1) s1 _ st1 (by omega) fun s2 vs mv2 st2 hl hv => wpAny_pure ?_))
    refine hQ s2 (v :: vs) (moved_trans W.gtrans mv mv2) (by rw [show i + (m + 1) = i + 1 + m by omega]; exact st2) (by simp [hl]) fun j u h => ?_
    cases j with
    | zero =>
      simp at h
      subst h
      exact hP
    | succ j =>
      have := hv j u (by simpa using h)
      rw [show i + (j + 1) = i + 1 + j by omega]
      exact this
theorem shift_S (W : WalksS prog w A I fp wr G n P St) (k : Nat) (hk : k ≤ n) : WalksS prog w A I fp wr G (n - k) (fun i => P (k + i)) (fun i s => St (k + i) s) where
  sub := W.sub
  grefl := W.grefl
  gtrans := W.gtrans
  frame := fun i s h' tk st ht hb => W.frame (k + i) s h' tk st ht hb
  item := fun i s Q E hi st hQ => W.item (k + i) s Q E (by omega) st fun v s' hP st' mv => hQ v s' hP st' mv
  done := fun s Q E st hQ => W.done s Q E (by rw [show k + (n - k) = n by omega] at st; exact st) hQ
  self := fun i s Q E st hQ => W.self (k + i) s Q E st hQ
/-- the items, the starred ones as a new list at the heap's end -/
theorem star_S {v : Value} {s s0 : Shared} {T : String} {k after : Nat} {Q : List Value → Shared → Prop} (hTm : T = "list_iterator" ∨ T = "tuple_iterator")
    (W : WalksS prog w A.in1 I fp wr G n P St) (hT : ∀ i s, St i s → s.TypeIs (.ref I) T) (hn : n ≤ sizeLine) (hk : k + after ≤ n) (hI : I ∈ fp) (hfp : ∀ i s, St i s → ∀ b ∈ fp, b < s.heap.objs.size) (st0 : St 0 s0)
    (hit : ∀ (Q : Bool → Shared → Prop), Q false s → wpAny (model prog w) A (notIterableAtAll v) Q E s)
    (hiter : ∀ (Q : Value → Shared → Prop), Q (.ref I) s0 → wpAny (model prog w) A (pyIter v) Q E s)
    (hQ : ∀ (s' : Shared) (first rest : List Value), Moved wr G s0 s' → first.length = k → (∀ j u, first[j]? = some u → P j u) → rest.length = n - k → (∀ j u, rest[j]? = some u → P (k + j) u) →
      wpAny (model prog w) A (newList (rest.take (rest.length - after))) (fun l s'' => Q (first ++ [l] ++ rest.drop (rest.length - after)) s'') E s') :
    wpAny (model prog w) A (unpackItems v (k + 1 + after) (some k)) Q E s := by
  have W' : WalksS prog w A I fp wr G n P St := WalksS.of_in1 W
  unfold unpackItems
  refine wpAny_bind (hit _ ?_)
  simp only [Bool.false_eq_true, if_false]
  refine wpAny_bind (wpAny_holding (hiter _ ?_))
  refine wpAny_bind (wpAny_holding (draw_S W' k 0 s0 _ st0 (by omega) fun s1 first mv1 st1 hl1 hv1 => ?_))
  rw [if_neg (by omega)]
  rw [Nat.zero_add] at st1
  refine wpAny_bind (wpAny_holding (wpAny_collect_iter (T := T) (by rcases hTm with h | h <;> simp [h]) (shift_S W k (by omega)) (fun i s st => hT (k + i) s st) (by simpa using st1) (hfp k s1 st1) hI (fun s2 acc mv2 hacc => ?_) (by omega)))
  have hal : acc.toList.length = n - k := by rw [Array.length_toList]; exact hacc.1
  rw [show k + 1 + after - 1 - k = after by omega]
  rw [if_neg (by omega)]
  refine wpAny_bind ?_
  refine wpAny_mono (hQ s2 first acc.toList (moved_trans W.gtrans mv1 mv2) hl1 (fun j u h => by simpa using hv1 j u h) hal fun j u h => ?_) (fun l s3 q => wpAny_pure q) fun _ _ h => h
  exact hacc.2 j u (by simpa using h)
end
/-! ### over the layer -/
/-- a, .., *b, .., c = e: k ahead, after behind the star -/
def gStar (K : PySem.W.Frag) (k after : Nat) (t : TGs) : TG := fun v σ H Q => ∃ a xs, v = .ref a ∧ (SqT K H a xs ∨ SqL K H a xs) ∧ k + after ≤ xs.length ∧
  ∀ p, H p = none → t (xs.take k ++ [.ref p] ++ (xs.drop k).drop (xs.length - k - after)) σ (upd H p (.lst ((xs.drop k).take (xs.length - k - after)))) Q
section
variable {X : Cx} {pos : Pos}
theorem pgs_star {e : Expr} {es : List Expr} {t : TG} {u : TGs} {p : Pos} (h1 : PG X e t) (h2 : PGs X es u)
    (hs : (assignEach (.Starred e p :: es) X.env).map (·.2) = assign e X.env :: (assignEach es X.env).map (·.2) := by rfl) : PGs X (.Starred e p :: es) (gCons t u) := by
  refine ⟨fun pins s σ H vs us Q I r h => ?_⟩
  obtain ⟨v, vr, e1, h⟩ := h
  subst e1
  cases r with
  | cons r rr =>
    rw [hs]
    refine PyProof.Rows.assignInOrder_cons (thn (h1.run pins s σ H _ _ _ I r h) fun _ s1 ⟨σ1, H1, I1, q1⟩ => ?_)
    exact h2.run pins s1 σ1 H1 _ _ Q I1 rr q1
theorem pg_star {es : List Expr} {ky : Nat} {t : TGs} {k after : Nat} (hc : X.calm = true) (h : PGs X es t)
    (hn : (assignEach es X.env).length = k + 1 + after := by rfl) (hst : (assignEach es X.env).findIdx? (·.1) = some k := by rfl) : PG X (.Tuple es ky pos) (gStar X.K k after t) := by
  refine ⟨fun pins s σ H v u Q I r hw => ?_⟩
  obtain ⟨a, xs, e1, hq, hl, hw⟩ := hw
  subst e1
  obtain rfl : u = Value.ref a := r
  rw [PyProof.Rows.assign_Tuple]
  refine wpAny_bind (wpAny_standAt ?_)
  unfold unpack
  rw [hn, hst]
  have hh : X.A.handled = none := I.ok.hd hc
  have fin : ∀ (its : List Value) (s' : Shared) (first rest : List Value), Vals xs its → xs.length ≤ sizeLine → (∀ b o, s.heap.get? b = some o → s'.heap.get? b = some o) → s'.gens = s.gens → s'.drawn = s.drawn → s'.os = s.os → first.length = k → (∀ (j : Nat) u, first[j]? = some u → its[j]? = some u) → rest.length = its.length - k → (∀ (j : Nat) u, rest[j]? = some u → its[k + j]? = some u) →
      wpAny (model X.prog X.w) X.A (newList (rest.take (rest.length - after))) (fun l s'' => wpAny (model X.prog X.w) X.A (assignInOrder ((assignEach es X.env).map (·.2)) (first ++ [l] ++ rest.drop (rest.length - after))) (fun _ s' => ∃ σ' H', Inv X pins σ' H' s' ∧ Q σ' H') X.xe s'') X.xe s' := by
    intro its s' first rest rv z kp e1 e2 e3 l1 g1 l2 g2
    have lx := rv.length
    have hr : rest = its.drop k := by
      apply List.ext_getElem?
      intro j
      rw [List.getElem?_drop]
      cases e : rest[j]? with
      | some u => exact (g2 j u e).symm
      | none =>
        have := List.getElem?_eq_none_iff.mp e
        exact (List.getElem?_eq_none_iff.mpr (by omega)).symm
    have hf : first = its.take k := by
      apply List.ext_getElem?
      intro j
      cases e : first[j]? with
      | some u =>
        have hj := (List.getElem?_eq_some_iff.mp e).1
        rw [List.getElem?_take, if_pos (by omega)]
        exact (g1 j u e).symm
      | none =>
        have := List.getElem?_eq_none_iff.mp e
        exact (List.getElem?_eq_none_iff.mpr (by rw [List.length_take]; omega)).symm
    subst hr hf
    have I1 : Inv X pins σ H { s with heap := s'.heap, toks := s'.toks } := I.kept (t' := s'.toks) kp
    have es' : { s with heap := s'.heap, toks := s'.toks } = s' := by
      cases s'
      simp_all
    rw [es'] at I1
    have hfr : H s'.heap.objs.size = none := I1.hok.fresh (Nat.le_refl _)
    have r1 : Vals ((xs.drop k).take (xs.length - k - after)) ((its.drop k).take ((its.drop k).length - after)) := by
      rw [List.length_drop, ← lx]
      exact (rv.drop k).take _
    have z1 : ((xs.drop k).take (xs.length - k - after)).length ≤ sizeLine := by
      rw [List.length_take, List.length_drop]
      omega
    refine wpAny_newObj_type ?_ (by
      show (_ : Nat) ≤ _
      rw [List.size_toArray, ← r1.length]
      exact z1)
    have I2 : Inv X pins σ (upd H s'.heap.objs.size (.lst ((xs.drop k).take (xs.length - k - after)))) { s' with heap := s'.heap.push { cls := .type "list", dict := none, data := .seq ((its.drop k).take ((its.drop k).length - after)).toArray } } :=
      I1.laid (t' := s'.toks) (fun b u e => Heap.get?_push_of_some _ e) (Nat.le_refl _) ⟨z1, _, 0, r1, Heap.get?_push_size _ rfl⟩
    refine h.run pins _ σ _ _ _ Q I2 ?_ (hw _ hfr)
    have r2 : Vals ((xs.drop k).drop (xs.length - k - after)) ((its.drop k).drop ((its.drop k).length - after)) := by
      rw [List.length_drop, ← lx]
      exact (rv.drop k).drop _
    exact Vals.append (Vals.append (rv.take k) (.cons rfl .nil)) r2
  rcases hq with hq | hq
  · obtain ⟨its, rv, ht, hz⟩ := I.tuple hq
    have lx := rv.length
    have hlt : a ≠ s.heap.objs.size := by obtain ⟨o, ho, _⟩ := ht; exact Nat.ne_of_lt (Heap.lt_size ho)
    refine wpAny_bind (wpAny_holding (star_S (T := "tuple_iterator") (n := its.toArray.size) (P := fun i v => its.toArray[i]? = some v) (s0 := { s with heap := s.heap.push { cls := .type "tuple_iterator", data := .fields #[.ref a, .int 0 0] } })
      (.inr rfl) (Walks.toS (Walks.tuple (A := X.A.in1) hh s.heap.objs.size a hlt its.toArray)) (fun i s st => ?_) (by simp; omega) (by simp; omega) (by simp) (fun i s st b hb => ?_) ?_ (fun Q q => ?_) (fun Q q => ?_) (fun s' first rest mv l1 g1 l2 g2 => ?_)))
    · obtain ⟨o, ho, hcl, _⟩ := st.1
      exact ⟨o, ho, hcl⟩
    · simp at hb
      rcases hb with rfl | rfl
      · obtain ⟨o, ho, _⟩ := st.1
        exact Heap.lt_size ho
      · obtain ⟨o, ho, _⟩ := st.2
        exact Heap.lt_size ho
    · exact ⟨⟨_, Heap.get?_push_size _ rfl, rfl, rfl⟩, ht.push _⟩
    · unfold notIterableAtAll
      exact wpAny_bind (wpAny_specialOf ht.typeIs PyProof.Rows.slot_tuple_iter.lookup (wpAny_pure q))
    · exact wpAny_pyIter_tuple ht q
    · refine fin its s' first rest rv hz (fun b o e => mv.heap b o ?_ (Heap.get?_push_of_some _ e)) mv.gens mv.drawn mv.os l1 (fun j u e => by simpa using g1 j u e) (by simpa using l2) (fun j u e => by simpa using g2 j u e)
      simp
      exact Nat.ne_of_lt (Heap.lt_size e)
  · obtain ⟨its, rv, ht, hz⟩ := I.list hq
    have ht : s.heap.IsList a its.toArray := by
      obtain ⟨o, n, h1, h2, h3, h4⟩ := ht
      exact ⟨o, h1, h2, n, h4⟩
    have lx := rv.length
    have hlt : a ≠ s.heap.objs.size := by obtain ⟨o, ho, _⟩ := ht; exact Nat.ne_of_lt (Heap.lt_size ho)
    refine wpAny_bind (wpAny_holding (star_S (T := "list_iterator") (n := its.toArray.size) (P := fun i v => its.toArray[i]? = some v) (s0 := { s with heap := s.heap.push { cls := .type "list_iterator", data := .fields #[.ref a, .int 0 0] } })
      (.inl rfl) (Walks.toS (Walks.list (A := X.A.in1) hh s.heap.objs.size a hlt its.toArray)) (fun i s st => ?_) (by simp; omega) (by simp; omega) (by simp) (fun i s st b hb => ?_) ?_ (fun Q q => ?_) (fun Q q => ?_) (fun s' first rest mv l1 g1 l2 g2 => ?_)))
    · obtain ⟨o, ho, hcl, _⟩ := st.1
      exact ⟨o, ho, hcl⟩
    · simp at hb
      rcases hb with rfl | rfl
      · obtain ⟨o, ho, _⟩ := st.1
        exact Heap.lt_size ho
      · obtain ⟨o, ho, _⟩ := st.2
        exact Heap.lt_size ho
    · exact ⟨⟨_, Heap.get?_push_size _ rfl, rfl, rfl⟩, ht.push _⟩
    · unfold notIterableAtAll
      exact wpAny_bind (wpAny_specialOf ht.typeIs slot_list_iter.lookup (wpAny_pure q))
    · exact wpAny_pyIter_list ht q
    · refine fin its s' first rest rv hz (fun b o e => mv.heap b o ?_ (Heap.get?_push_of_some _ e)) mv.gens mv.drawn mv.os l1 (fun j u e => by simpa using g1 j u e) (by simpa using l2) (fun j u e => by simpa using g2 j u e)
      simp
      exact Nat.ne_of_lt (Heap.lt_size e)
end
end Bw

namespace Bw
open PySem PySem.Spec PyProof.Rows L2 LamX
/-! list(x), tuple(x), xs.insert -/
section
variable {X : Cx}
def rListOf (K : PySem.W.Frag) : List V → Hp → VK → Prop := fun xs H Q => ∃ p ys, xs = [.ref p] ∧ (SqL K H p ys ∨ SqT K H p ys) ∧ ∀ l, H l = none → Q (.ref l) (upd H l (.lst ys))
theorem cl_list : CallR X (.type "list") (rListOf X.K) := call_list_of
def rTupOf (K : PySem.W.Frag) : List V → Hp → VK → Prop := fun xs H Q => ∃ p ys, xs = [.ref p] ∧ ((SqL K H p ys ∧ ∀ l, H l = none → Q (.ref l) (upd H l (.tup ys))) ∨ (SqT K H p ys ∧ Q (.ref p) H))
theorem cl_tuple : CallR X (.type "tuple") (rTupOf X.K) := call_tuple_of
def rInsert : V → List V → Hp → VK → Prop := fun x vs H Q => ∃ (l : Addr) (xs : List V) (i : Int) (y : V), x = .ref l ∧ vs = [.int i, y] ∧ H l = some (.lst xs) ∧ xs.length < sizeLine ∧ 0 ≤ i ∧ i < 2 ^ 63 ∧ Q .non (upd H l (.lst (xs.take i.toNat ++ [y] ++ xs.drop i.toNat)))
theorem mt_insertN : MtR X "list.insert" rInsert := mt_insert
end
section
variable {K : PySem.W.Frag} {H : Hp} {Q : VK}
theorem w_listOf {p : Addr} {ys : List V} (h : SqL K H p ys) (k : ∀ l H2, H l = none → Same H H2 → H2 l = some (.lst ys) → Q (.ref l) H2) : rListOf K [.ref p] H Q := ⟨p, ys, rfl, .inl h, fun l n => k l _ n (same_new n) upd_same⟩
theorem w_tupOf {p : Addr} {ys : List V} (h : SqL K H p ys) (k : ∀ l H2, H l = none → Same H H2 → H2 l = some (.tup ys) → Q (.ref l) H2) : rTupOf K [.ref p] H Q := ⟨p, ys, rfl, .inl ⟨h, fun l n => k l _ n (same_new n) upd_same⟩⟩
theorem w_tupT {p : Addr} {ys : List V} (h : SqT K H p ys) (q : Q (.ref p) H) : rTupOf K [.ref p] H Q := ⟨p, ys, rfl, .inr ⟨h, q⟩⟩
theorem w_insert {l : Addr} {xs : List V} {i : Int} {y : V} (h : H l = some (.lst xs)) (hl : xs.length ≤ 60000) (h0 : 0 ≤ i) (hi : i ≤ 60000) (k : ∀ H2, KB l H H2 → H2 l = some (.lst (xs.take i.toNat ++ [y] ++ xs.drop i.toNat)) → Q .non H2) : rInsert (.ref l) [.int i, y] H Q :=
  ⟨l, xs, i, y, rfl, rfl, h, Nat.lt_of_le_of_lt hl (by decide), h0, by omega, k _ kb_upd upd_same⟩
end
/-- an if without else, what is behind it once -/
theorem w_decR {c A : Prop} {dc : Decidable c} {D : Ends} {σ : L2.St} {H : Hp} (Inv : L2.St → Hp → Prop) (h2 : ¬ c → Inv σ H) (h1 : (∀ σ H, Inv σ H → D.nx σ H) → c → A) (hi : ∀ σ H, Inv σ H → D.nx σ H) : if decide c = true then A else tNext D σ H := by
  by_cases h : c
  · rw [if_pos (decide_eq_true h)]
    exact h1 hi h
  · rw [if_neg (fun e => h (of_decide_eq_true e))]
    exact hi _ _ (h2 h)
/-! what is a list stays one -/
def Kinds (H H' : Hp) : Prop := (∀ a xs, H a = some (.lst xs) → ∃ ys, H' a = some (.lst ys)) ∧ ∀ a xs, H a = some (.tup xs) → H' a = some (.tup xs)
theorem Kinds.of {H H' : Hp} (e : Same H H') : Kinds H H' := ⟨fun a xs h => ⟨xs, e _ _ h⟩, fun a xs h => e _ _ h⟩
theorem Kinds.kb {p : Addr} {H H' : Hp} {xs ys : List V} (e : KB p H H') (h0 : H p = some (.lst xs)) (h : H' p = some (.lst ys)) : Kinds H H' := by
  refine ⟨fun a zs ha => ?_, fun a zs ha => ?_⟩
  · by_cases ea : a = p
    · exact ⟨ys, ea ▸ h⟩
    · exact ⟨zs, e _ _ ha ea⟩
  · by_cases ea : a = p
    · rw [ea, h0] at ha
      cases ha
    · exact e _ _ ha ea
theorem Kinds.trans {H H1 H' : Hp} (a : Kinds H H1) (b : Kinds H1 H') : Kinds H H' := ⟨fun p xs h => by
  obtain ⟨ys, h1⟩ := a.1 p xs h
  exact b.1 p ys h1, fun p xs h => b.2 p xs (a.2 p xs h)⟩
theorem TxtV.kinds {H H' : Hp} {v : V} (h : TxtV H v) (e : Kinds H H') : TxtV H' v := h.imp id fun q => by
  cases q with
  | non => exact .non
  | int i => exact .int i
  | bl b => exact .bl b
  | lst q => obtain ⟨ys, h1⟩ := e.1 _ _ q; exact .lst h1
  | tup q => exact .tup (e.2 _ _ q)
end Bw

namespace Bw
open PySem PySem.Spec PyProof.Rows L2 LamX
/-! ### own exceptions: the handed value -/
abbrev MonoA (ta : TA) : Prop := ∀ σ H (Q Q' : List V → Hp → Prop), (∀ vs H, Q vs H → Q' vs H) → ta σ H Q → ta σ H Q'
theorem monoV {i : Nat} : MonoA (tCons (tVar i) tNil) := fun σ H Q Q' hq h => by
  obtain ⟨v, e, q⟩ := h
  exact ⟨v, e, hq _ _ q⟩
theorem monoF {K : PySem.W.Frag} {i : Nat} {f : Str} : MonoA (tCons (tFld K (tVar i) f) tNil) := fun σ H Q Q' hq h => by
  obtain ⟨v, e, a, C, dx, fs, u, h1, h2, h3, h4, h5, q⟩ := h
  exact ⟨v, e, a, C, dx, fs, u, h1, h2, h3, h4, h5, hq _ _ q⟩
section
variable {K : PySem.W.Frag} {H : Hp} {Q : VK} {σ : L2.St} {D : Ends}
theorem w_xmk {C : Addr} {f : Str} {dvs : List V} {ta : TA} {QX : XK} (h : ta σ H fun vs H1 => ∃ v, vs ++ dvs = [v] ∧ ∀ d H2, H1 d = none → Same H1 H2 → H2 d = some (.xd [(f, v)]) → QX (.ref C) (some d) H2) : tXmk C f dvs ta σ H QX := h
theorem w_xv {v : V} {R : V → Prop} (h : R v) : ∃ v', [v] ++ [] = [v'] ∧ R v' := ⟨v, rfl, h⟩
theorem w_xv0 {v : V} {R : V → Prop} (h : R v) : ∃ v', [] ++ [v] = [v'] ∧ R v' := ⟨v, rfl, h⟩
/-! ### augmented stores -/
theorem w_aug {i : Nat} {te : TE} {ti : TIp} {x : V} (hx : σ[i]? = some (some x)) (h : te σ H fun y H1 => ti x y H1 fun z H2 => D.nx (σ.set i (some z)) H2) : tAug i te ti D σ H := ⟨x, hx, h⟩
theorem w_ipI {f : Int → Int → Int} {i j : Int} (q : Q (.int (f i j)) H) : ipI f (.int i) (.int j) H Q := ⟨i, j, rfl, rfl, q⟩
theorem w_rAdd {i j : Int} (q : Q (.int (i + j)) H) : L2.rAdd (.int i) (.int j) H Q := ⟨i, j, rfl, rfl, q⟩
theorem w_faug {ta tv : TE} {rd : V → V → Hp → VK → Prop} {f : Str} (h : ta σ H fun x H1 => ∃ a C dx fs v, x = .ref a ∧ H1 a = some (.ins C dx fs) ∧ Cls K C ∧ NoAttr K C f ∧ fs.lookup f = some v ∧
  tv σ H1 fun y H2 => rd v y H2 fun z H3 => ∃ dx' fs', H3 a = some (.ins C dx' fs') ∧ fs'.length < 1000 ∧ D.nx σ (upd H3 a (.ins C dx' (putF f z fs')))) : sFldAug K ta tv rd f D σ H := h
theorem w_faug1 {a C dx : Addr} {fs : List (Str × V)} {f : Str} {v : V} {R : Addr → Addr → V → Prop} (ho : H a = some (.ins C dx fs)) (hc : Cls K C) (hn : NoAttr K C f) (hl : fs.lookup f = some v) (q : R a C v) :
    ∃ a' C dx fs v, V.ref a = .ref a' ∧ H a' = some (.ins C dx fs) ∧ Cls K C ∧ NoAttr K C f ∧ fs.lookup f = some v ∧ R a' C v := ⟨a, C, dx, fs, v, rfl, ho, hc, hn, hl, q⟩
theorem w_faug2 {a C dx : Addr} {fs : List (Str × V)} {R : Addr → List (Str × V) → Prop} (ho : H a = some (.ins C dx fs)) (hl : fs.length < 1000) (q : R dx fs) :
    ∃ dx' fs', H a = some (.ins C dx' fs') ∧ fs'.length < 1000 ∧ R dx' fs' := ⟨dx, fs, ho, hl, q⟩
theorem w_notInS {c : Nat} {z : Str} (q : Q (.bl (!decide (c ∈ z.cps.toList))) H) : rNotInS (.str ⟨#[c]⟩) (.str z) H Q := ⟨c, z, rfl, rfl, q⟩
end
section
variable {X : Cx}
theorem ip_addS : PIp X .Add Bw.rAddS := fun pins s σ H x y v u Q I rx ry h => iop_add_str pins s σ H x y v u Q I rx ry h
theorem iop_mulU : OpR X (inplaceOp .Mult) (rI CMulU fun i j => .int (i * j)) := opI fun _ _ _ _ _ _ _ hc q => imul_int q hc
theorem ip_mulU : PIp X .Mult (rI CMulU fun i j => .int (i * j)) := fun pins s σ H x y v u Q I rx ry h => iop_mulU pins s σ H x y v u Q I rx ry h
theorem ip_modU : PIp X .Mod (rI (fun _ j => 0 < j) fun i j => .int (i % j)) := fun pins s σ H x y v u Q I rx ry h => iop_mod pins s σ H x y v u Q I rx ry h
/-! ### divmod, str.index -/
def rDivmod : List V → Hp → VK → Prop := fun xs H Q => ∃ i j, xs = [.int i, .int j] ∧ CDivP i j ∧ ∀ p, H p = none → Q (.ref p) (upd H p (.tup [.int (i / j), .int (i % j)]))
theorem cl_divmod : CallR X (.builtin "divmod") rDivmod := call_divmodW
def rSIdx : V → List V → Hp → VK → Prop := fun x xs H Q => ∃ a b i rest, x = .str a ∧ xs = [.str b] ∧ Builtin.Str.occurrences a b 0 a.length 1 = i :: rest ∧ Q (.int (i : Nat)) H
theorem mt_sidx : MtR X "str.index" rSIdx := mt_sindex
end
section
variable {H : Hp} {Q : VK}
theorem w_divmod {i j : Int} (h0 : 0 < j) (hb : j.natAbs < 2 ^ 64) (k : ∀ p H2, H p = none → Same H H2 → H2 p = some (.tup [.int (i / j), .int (i % j)]) → Q (.ref p) H2) : rDivmod [.int i, .int j] H Q :=
  ⟨i, j, rfl, ⟨h0, PyProof.noPylong_of_log2 (Nat.lt_of_lt_of_le (PySem.Flt.log2_lt_of (by decide) hb) (by decide : 64 ≤ 9000))⟩, fun p n => k p _ n (same_new n) upd_same⟩
theorem w_sidx {a b : Str} {i : Nat} {rest : List Nat} (e : Builtin.Str.occurrences a b 0 a.length 1 = i :: rest) (q : Q (.int (i : Nat)) H) : rSIdx (.str a) [.str b] H Q := ⟨a, b, i, rest, rfl, rfl, e, q⟩
end
/-! ### any thing of the plain kinds -/
inductive Thg (H : Hp) : V → Prop
  | non : Thg H .non
  | int (i : Int) : Thg H (.int i)
  | bl (b : Bool) : Thg H (.bl b)
  | str (x : Str) : Thg H (.str x)
  | lst {a : Addr} {xs : List V} : H a = some (.lst xs) → Thg H (.ref a)
  | tup {a : Addr} {xs : List V} : H a = some (.tup xs) → Thg H (.ref a)
theorem Thg.ext {H H' : Hp} {v : V} (h : Thg H v) (e : ExtN H H') : Thg H' v := by
  cases h with
  | non => exact .non
  | int i => exact .int i
  | bl b => exact .bl b
  | str x => exact .str x
  | lst q => exact .lst (e _ _ q (fun _ z => by cases z))
  | tup q => exact .tup (e _ _ q (fun _ z => by cases z))
theorem Thg.same {H H' : Hp} {v : V} (h : Thg H v) (e : Same H H') : Thg H' v := h.ext (extn_same e)
theorem Thg.kinds {H H' : Hp} {v : V} (h : Thg H v) (e : Kinds H H') : Thg H' v := by
  cases h with
  | non => exact .non
  | int i => exact .int i
  | bl b => exact .bl b
  | str x => exact .str x
  | lst q => obtain ⟨ys, h1⟩ := e.1 _ _ q; exact .lst h1
  | tup q => exact .tup (e.2 _ _ q)
/-- no list -/
inductive NoL (H : Hp) : V → Prop
  | non : NoL H .non
  | int (i : Int) : NoL H (.int i)
  | bl (b : Bool) : NoL H (.bl b)
  | str (x : Str) : NoL H (.str x)
  | tup {a : Addr} {xs : List V} : H a = some (.tup xs) → NoL H (.ref a)
theorem NoL.ty {K : PySem.W.Frag} {H : Hp} {v : V} (h : NoL H v) : ∃ tv, TyX K H v (.type tv) ∧ kitB tv "list" = some false := by
  cases h with
  | non => exact ⟨_, tyx_non, kit_NoneType_list⟩
  | int i => exact ⟨_, tyx_int, kit_int_list⟩
  | bl b => exact ⟨_, tyx_bl, kit_bool_list⟩
  | str x => exact ⟨_, tyx_str, kit_str_list⟩
  | tup e => exact ⟨_, tyx_tup e, kit_tuple_list⟩
theorem NoL.ext {H H' : Hp} {v : V} (h : NoL H v) (e : ExtN H H') : NoL H' v := by
  cases h with
  | non => exact .non
  | int i => exact .int i
  | bl b => exact .bl b
  | str x => exact .str x
  | tup q => exact .tup (e _ _ q (fun _ z => by cases z))
theorem NoL.thg {H : Hp} {v : V} (h : NoL H v) : Thg H v := by
  cases h with
  | non => exact .non
  | int i => exact .int i
  | bl b => exact .bl b
  | str x => exact .str x
  | tup q => exact .tup q
/-- refused with C, the field is v -/
def Raz (E : XK) (H : Hp) (C : Addr) (v : V) : Prop := ∀ d H', H d = none → Same H H' → H' d = some (.xd [("at", v)]) → E (.ref C) (some d) H'
theorem Raz.same {E : XK} {H H1 : Hp} {C : Addr} {v : V} (h : Raz E H C v) (s : Same H H1) : Raz E H1 C v := fun d H' n s' e => h d H' (same_free s n) (s.trans s') e
theorem kb_newD {p q : Addr} {H H' : Hp} {o : HO} (k : KB p H H') (hp : H' p = some o) (n : H' q = none) : H q = none := by
  cases e : H q with
  | none => rfl
  | some u =>
    have ne : q ≠ p := fun z => by rw [z, hp] at n; cases n
    rw [k q u e ne] at n
    cases n
theorem kb2 {p D : Addr} {H H4 H5 : Hp} (a : KB p H H4) (b : KB D H4 H5) (n : H D = none) : KB p H H5 := fun c o h nc => b c o (a c o h nc) (ne_of_none h n)
/-! ### texts by their signs -/
theorem str_ext {x y : Str} (h : x.cps.toList = y.cps.toList) : x = y := by
  obtain ⟨⟨a⟩⟩ := x
  obtain ⟨⟨b⟩⟩ := y
  congr 2
theorem cps_append (x y : Str) : (x ++ y).cps.toList = x.cps.toList ++ y.cps.toList := TL.tl_append x y
def S (l : List Nat) : Str := ⟨l.toArray⟩
theorem cps_S (l : List Nat) : (S l).cps.toList = l := rfl
theorem len_S (l : List Nat) : (S l).length = l.length := by
  show l.toArray.size = l.length
  simp
theorem len_cps (x : Str) : x.cps.toList.length = x.length := Array.length_toList
/-! ### lists of ints -/
section
variable {K : PySem.W.Frag} {H : Hp}
theorem dpAll_int : ∀ bs : List Int, DpAll K H (bs.map V.int) (bs.map PyData.int)
  | [] => .nil
  | b :: r => .cons (.int b) (dpAll_int r)
theorem depth_int : ∀ bs : List Int, PyData.depthAll (bs.map PyData.int) = 0
  | [] => rfl
  | b :: r => by simp [PyData.depthAll, PyData.depth, depth_int r]
theorem lay_int : ∀ {bs : List Int}, PyData.canLayAll0 (bs.map PyData.int) = true
  | [] => by simp [PyData.canLayAll0]
  | b :: r => by simp [PyData.canLayAll0, PyData.canLay0, lay_int (bs := r)]
theorem shaped_int {bs : List Int} : SeqAt.shaped (.list (bs.map PyData.int)) = true := by
  simp [SeqAt.shaped, PyData.canLay0, lay_int, PyData.depth, depth_int]
theorem eqvAll_int : ∀ bs cs : List Int, PyData.eqvAll (bs.map PyData.int) (cs.map PyData.int) = decide (bs = cs)
  | [], [] => by simp [PyData.eqvAll]
  | [], c :: s => by simp [PyData.eqvAll]
  | b :: r, [] => by simp [PyData.eqvAll]
  | b :: r, c :: s => by
    simp only [List.map_cons, PyData.eqvAll, PyData.eqv, eqvAll_int r s, List.cons.injEq]
    by_cases h1 : b = c <;> by_cases h2 : r = s <;> simp [h1, h2]
theorem eqv_ints (bs cs : List Int) : PyData.eqv (.list (bs.map PyData.int)) (.list (cs.map PyData.int)) = decide (bs = cs) := by
  simp only [PyData.eqv, eqvAll_int]
end
end Bw

namespace Bw
open PySem PySem.Spec PyProof.Rows L2 LamX
abbrev selfAt : List Str := ["self", "at"]
/-- an own exception with the field at, from what K holds -/
theorem xcl_of {P : Program} {w : World} {K : PySem.W.Frag} {mg : Str → Option Value} {base : Heap} {x qual : Str} {C fI T : Addr} {st : Stmt} {oc ocT kV doc pm cd ct : Value} {od odT an : Option Addr} {sl slT : Array (Option Value)} {nT : Nat}
    (T0 : OexC K C) (no : PySem.W.findIn K (.ref C) "at" = some none) (hm : mg x = some (.ref C)) (iC : PySem.W.findIn K (.ref C) "__init__" = some (some (.ref fI))) (tI : PySem.W.typeIn K (.ref fI) = some (.type "function"))
    (l : K.lookup fI = some ⟨oc, od, .func (PySem.W.fnOf "__init__" qual (defArgs st) (defBody st) (defScope st) (.ref T) kV doc pm an cd ct), sl⟩) (hc : PySem.W.codeIn K cd qual = true) (kp : PySem.W.keepIn K (.ref fI) = true)
    (lT : K.lookup T = some ⟨ocT, odT, .seq (List.toArray [.none]) nT, slT⟩)
    (F0 : ∀ fd, FunD K "__init__" qual (defArgs st) (defBody st) (defScope st) [.non] [] fI fd → FnOk P w K mg base CX0 1 fI fd selfAt (spXi K "at"))
    (b0 : ∀ (T : Addr) (kV doc pm : Value) (an : Option Addr) (cdv ct : Value) (us its : List Value), us.length = 1 → its.length = 1 →
      ∃ k, bindArgs (PySem.W.fnOf "__init__" qual (defArgs st) (defBody st) (defScope st) (.ref T) kV doc pm an cdv ct) ⟨us, []⟩ = seqItems? (.ref T) >>= k ∧ k (some its.toArray) = pure (selfAt.zip (us ++ its.drop 0)))
    (b1 : ∀ (T : Addr) (kV doc pm : Value) (an : Option Addr) (cdv ct : Value) (us its : List Value), us.length = 2 → its.length = 1 →
      ∃ k, bindArgs (PySem.W.fnOf "__init__" qual (defArgs st) (defBody st) (defScope st) (.ref T) kV doc pm an cdv ct) ⟨us, []⟩ = seqItems? (.ref T) >>= k ∧ k (some its.toArray) = pure (selfAt.zip (us ++ its.drop 1))) :
    Xcl P w K mg base x C 1 "at" [.non] ∧ Xcl P w K mg base x C 1 "at" [] := by
  have F : FunD K "__init__" qual (defArgs st) (defBody st) (defScope st) [.non] [] fI _ := ⟨⟨_, _, _, _, _, _, _, _, _, _, rfl, l, hc, .inr ⟨by simp, _, _, _, _, rfl, lT, rfl, .cons rfl .nil⟩, .inl rfl⟩, kp⟩
  obtain ⟨d0, h0, e0⟩ := F.binds1 (ps := selfAt) 1 0 (by simp) rfl b0
  obtain ⟨d1, h1, e1⟩ := F.binds1 (ps := selfAt) 2 1 (by simp) rfl b1
  exact ⟨⟨T0, no, hm, fI, _, d0, _, iC, tI, F0 _ F, e0, h0⟩, ⟨T0, no, hm, fI, _, d1, _, iC, tI, F0 _ F, e1, h1⟩⟩
theorem oex_mk {K : PySem.W.Frag} {C : Addr} {nm q : Str} {N : Addr} {bs bm : List Value} {sn : List Str} {sub : List Value} {ab : Bool} {col : Option Bool} {dd : Option Addr} {k0 k1 k2 k3 k5 : Option Value}
    (l : K.lookup C = some (excClassObj nm q C N bs bm true sn sub ab col dd k0 k1 k2 k3 k5 "ValueError.__new__")) (r : PySem.HandSPX.refsVE bm = true) (sa : PySem.W.findIn K (.ref C) "__setattr__" = some (some (.builtin "object.__setattr__")))
    (exC : PySem.W.subIn K (.ref C) (.type "BaseException") = some true) (tyC : PySem.W.typeIn K (.ref C) = some (.type "type")) (kC : PySem.W.keepIn K (.ref C) = true) : OexC K C := ⟨⟨nm, q, N, bs, bm, sn, sub, ab, col, dd, k0, k1, k2, k3, k5, l, r⟩, sa, exC, tyC, kC⟩
/-! ### data that can be compared -/
structure GoodD (d : PyData) (n : Nat) : Prop where
  lay : PyData.canLay0 d = true
  dep : PyData.depth d ≤ n
  refl : PyData.eqv d d = true
theorem GoodD.shaped {d : PyData} {n : Nat} (h : GoodD d n) (hn : n ≤ 64) : SeqAt.shaped d = true := by
  unfold SeqAt.shaped
  rw [h.lay, decide_eq_true (Nat.le_trans h.dep hn)]
  rfl
theorem GoodD.mono {d : PyData} {n m : Nat} (h : GoodD d n) (l : n ≤ m) : GoodD d m := ⟨h.lay, Nat.le_trans h.dep l, h.refl⟩
theorem good_int {i : Int} {n : Nat} : GoodD (.int i) n := ⟨by simp [PyData.canLay0], by simp [PyData.depth], by simp [PyData.eqv]⟩
theorem good_bool {b : Bool} {n : Nat} : GoodD (.bool b) n := ⟨by simp [PyData.canLay0], by simp [PyData.depth], by simp [PyData.eqv]⟩
theorem good_none {n : Nat} : GoodD .none n := ⟨by simp [PyData.canLay0], by simp [PyData.depth], by simp [PyData.eqv]⟩
theorem good_str {x : Str} {n : Nat} (h : PyData.strOk x = true) : GoodD (.str x) n := ⟨by simp [PyData.canLay0, h], by simp [PyData.depth], by simp [PyData.eqv]⟩
theorem good_all {n : Nat} : ∀ {ds : List PyData}, (∀ d ∈ ds, GoodD d n) → PyData.canLayAll0 ds = true ∧ PyData.depthAll ds ≤ n ∧ PyData.eqvAll ds ds = true
  | [], _ => by simp [PyData.canLayAll0, PyData.depthAll, PyData.eqvAll]
  | d :: r, h => by
    obtain ⟨h1, h2, h3⟩ := good_all (ds := r) (fun x hx => h x (List.mem_cons_of_mem _ hx))
    have h0 := h d List.mem_cons_self
    refine ⟨by simp [PyData.canLayAll0, h0.lay, h1], ?_, by simp [PyData.eqvAll, h0.refl, h3]⟩
    have := h0.dep
    simp only [PyData.depthAll]
    omega
theorem good_list {n : Nat} {ds : List PyData} (h : ∀ d ∈ ds, GoodD d n) : GoodD (.list ds) (n + 1) := by
  obtain ⟨h1, h2, h3⟩ := good_all h
  exact ⟨by simp [PyData.canLay0, h1], by simp only [PyData.depth]; omega, by simp [PyData.eqv, h3]⟩
theorem good_tuple {n : Nat} {ds : List PyData} (h : ∀ d ∈ ds, GoodD d n) : GoodD (.tuple ds) (n + 1) := by
  obtain ⟨h1, h2, h3⟩ := good_all h
  exact ⟨by simp [PyData.canLay0, h1], by simp only [PyData.depth]; omega, by simp [PyData.eqv, h3]⟩
section
variable {K : PySem.W.Frag} {H : Hp} {Q : VK}
/-- one thing equals the like -/
theorem w_eqG {x y : V} {d : PyData} {n : Nat} (hx : Dp K H x d) (hy : Dp K H y d) (g : GoodD d n) (hn : n ≤ 64) (q : Q (.bl true) H) : rEqD K x y H Q := w_eqD hx hy (g.shaped hn) (g.shaped hn) g.refl q
theorem w_neG {x y : V} {d : PyData} {n : Nat} (hx : Dp K H x d) (hy : Dp K H y d) (g : GoodD d n) (hn : n ≤ 64) (q : Q (.bl false) H) : rNeD K x y H Q := w_neD hx hy (g.shaped hn) (g.shaped hn) g.refl q
theorem DpAll.append : ∀ {xs ys : List V} {ds es : List PyData}, DpAll K H xs ds → DpAll K H ys es → DpAll K H (xs ++ ys) (ds ++ es)
  | _, _, _, _, .nil, h => h
  | _, _, _, _, .cons h r, h2 => .cons h (DpAll.append r h2)
def nD (n : Nat) : PyData := .int n
theorem dpAll_nat {f : Nat → V} (hf : ∀ n, f n = .int n) : ∀ ns : List Nat, DpAll K H (ns.map f) (ns.map nD)
  | [] => .nil
  | n :: r => .cons (by rw [hf n]; exact .int _) (dpAll_nat hf r)
theorem good_nats (ns : List Nat) : ∀ d ∈ ns.map nD, GoodD d 0 := fun d hd => by
  obtain ⟨n, _, rfl⟩ := List.mem_map.mp hd
  exact good_int
theorem same_dp {H' : Hp} {v : V} {d : PyData} (s : Same H H') (h : Dp K H v d) : Dp K H' v d := Dp.extn (extn_same s) h
theorem same_dpAll {H' : Hp} {vs : List V} {ds : List PyData} (s : Same H H') (h : DpAll K H vs ds) : DpAll K H' vs ds := DpAll.extn (extn_same s) h
end
end Bw

namespace Bw
open PySem PySem.Spec PyProof.Rows L2 LamX
section
variable {K : PySem.W.Frag} {H : Hp} {Q : VK} {σ : L2.St}
theorem w_revE {te : TE} (h : te σ H fun x H1 => ∃ a xs, x = .ref a ∧ SqL K H1 a xs ∧ ∀ p, H1 p = none → Q (.ref p) (upd H1 p (.lst xs.reverse))) : tRevL K te σ H Q := h
theorem w_rev {a : Addr} {xs : List V} (h : SqL K H a xs) (k : ∀ p H2, H p = none → Same H H2 → H2 p = some (.lst xs.reverse) → Q (.ref p) H2) : ∃ a' xs, V.ref a = .ref a' ∧ SqL K H a' xs ∧ ∀ p, H p = none → Q (.ref p) (upd H p (.lst xs.reverse)) := ⟨a, xs, rfl, h, fun p n => k p _ n (same_new n) upd_same⟩
end
end Bw

namespace Bw
open PySem PySem.Spec PyProof.Rows L2 LamX
/-! ### enumerate(text) -/
def IteS (x : Str) : It :=
  ⟨fun i _ => i < x.cps.size, fun i H v H' => ∃ T c, v = .ref T ∧ H T = none ∧ H' = upd H T (.tup [.int (i : Nat), .str ⟨#[c]⟩]) ∧ x.cps[i]? = some c, fun i _ => i = x.cps.size⟩
theorem turn_enumS {P : Program} {w : World} {K : PySem.W.Frag} {elts : List Expr} {kk : Nat} {tpos : Pos} (x : Str) (t : Tok) (e it : Addr) :
    Turn P w K (.Tuple elts kk tpos) (IteS x) [e, it] e (fun i h => (∃ old, IsEnum h e it ((i : Nat) : Int) old) ∧ h.IsStrIter it (strIterType x) x t i ∧ e ≠ it) where
  mem := by simp
  obj := fun i h st b hb => by
    obtain ⟨⟨old, he⟩, ⟨o, ho, hc, hd⟩, _⟩ := st
    have e' : b = e ∨ b = it := by simpa using hb
    rcases e' with z | z
    · rw [z]; exact ⟨_, he, fun v q => nomatch q⟩
    · rw [z]; exact ⟨o, ho, fun v q => by rw [hd] at q; cases q⟩
  keep := fun i h h' st k => let ⟨⟨old, he⟩, ⟨o, ho, hc, hd⟩, hne⟩ := st; ⟨⟨old, k e (by simp) _ he⟩, ⟨o, k it (by simp) o ho, hc, hd⟩, hne⟩
  item := by
    intro X hP hw hK hc i pins s σ H E I hf st hg
    subst hP hw hK
    obtain ⟨⟨old, he⟩, hit, hne⟩ := st
    have hel : e < s.heap.objs.size := Heap.lt_size he
    have hil : it < s.heap.objs.size := by obtain ⟨_, q, _⟩ := hit; exact Heap.lt_size q
    refine wpAny_pyNext_enum_itemD (Draws.text (A := X.A.in1) (I.ok.hd hc) it x t) he hit hg hne (by simp [hne]) fun u h' tk hu ho hit' hT hsz hk => ?_
    obtain ⟨c, tc, hcx, rfl⟩ := hu
    refine ⟨_, rfl, wpAny_letOwnedTupleGo_enum (s := { s with heap := h', toks := tk + 1 }) ho fun h'' he' sb => ?_⟩
    have hT2 : h''.get? s.heap.objs.size = some { cls := .type "tuple", data := .seq #[.int i tk, .str ⟨#[c]⟩ tc] } := (sb.2 _ (Nat.ne_of_gt hel)).trans hT
    have new : ObjOk X.prog X.w (upd H s.heap.objs.size (.tup [.int (i : Nat), .str ⟨#[c]⟩])) h'' s.heap.objs.size (.tup [.int (i : Nat), .str ⟨#[c]⟩]) :=
      ⟨by show 2 ≤ sizeLine; decide, [.int i tk, .str ⟨#[c]⟩ tc], .cons ⟨_, rfl⟩ (.cons ⟨_, rfl⟩ .nil), ⟨_, hT2, rfl, _, rfl⟩⟩
    have I1 : Inv X pins σ (upd H s.heap.objs.size (.tup [.int (i : Nat), .str ⟨#[c]⟩])) { s with heap := h'', toks := tk + 1 } :=
      I.turnedNew (ch := [e, it]) (fun b ob hb q => (sb.2 b (fun z => hb (by simp [z]))).trans (hk b ob (fun z => hb (by simp [z])) (fun z => hb (by simp [z])) q)) hf (Nat.le_refl _) new
    refine ⟨.ref s.heap.objs.size, _, I1, rfl, ⟨_, c, rfl, I.hok.fresh (Nat.le_refl _), rfl, hcx⟩, ⟨⟨.str ⟨#[c]⟩ tc, ?_⟩, ?_, hne⟩, fun b hb => ?_⟩
    · have e1 : ((i + 1 : Nat) : Int) = (i : Int) + 1 := by omega
      rw [e1]; exact he'
    · obtain ⟨o, q1, q2, q3⟩ := hit'
      exact ⟨o, (sb.2 it (Ne.symm hne)).trans q1, q2, q3⟩
    · have hb' : b < s.heap.objs.size := by
        have e' : b = e ∨ b = it := by simpa using hb
        rcases e' with z | z
        · rw [z]; exact hel
        · rw [z]; exact hil
      rw [upd_ne (Nat.ne_of_lt hb')]
      exact (hf b hb).1
  done := by
    intro X hP hw hK hc i pins s σ H E I hf st hg
    subst hP hw hK
    obtain ⟨⟨old, he⟩, hit, hne⟩ := st
    have hg' : i = x.cps.size := hg
    subst hg'
    obtain ⟨f0, f1, f2, f3, f4, f5⟩ := hf it (by simp)
    exact wpAny_pyNext_enum_endD (Draws.text (A := X.A.in1) (I.ok.hd hc) it x t) he hit fun h' eb => ⟨rfl, I.turned (t' := s.toks) (fun b o hb q => eb b o hb q) f0 f1 f3 f4 f5⟩
  self := fun A i s Q E st h => let ⟨⟨_, he⟩, _⟩ := st; wpAny_pyIter_enum he h
def iEnumS (ta : TA) : TI := fun σ H R => ta σ H fun vs H1 => ∃ x, vs = [.str x] ∧ R (IteS x) H1
theorem pi_enumS {X : Cx} {e : Expr} {ta : TA} {p pos tpos : Pos} {elts : List Expr} {kk : Nat} (hg : Gl X "enumerate") (hm : X.mg "enumerate" = none) (ha : PA X [e] ta) (hs : starEach [e] X.env = [(false, eval e X.env)] := by rfl) :
    PI X (.Tuple elts kk tpos) (.Call (.Name "enumerate" p) [e] [] pos) (iEnumS ta) := by
  refine ⟨fun pins s σ H R I h => ?_⟩
  refine Call_ (ld_blt I hg hm boot_enumerate (PyProof.Rows.callWith_type1 (thn (ha.run pos pins s σ H _ I h) fun us s1 ⟨vs, H1, I1, r1, q1⟩ => ?_) hs rfl))
  obtain ⟨x, ex, q⟩ := q1
  subst ex
  cases r1 with
  | cons r rr =>
    cases rr
    obtain ⟨t, rfl⟩ := r
    refine call_enumerate_str fun h' he hit hsz hk => wpAny_pyIter_enum he ?_
    have I2 : Inv X pins σ H1 { s1 with heap := h' } := I1.kept (t' := s1.toks) hk
    refine ⟨s1.heap.objs.size + 1, [s1.heap.objs.size + 1, s1.heap.objs.size], _, _, H1, rfl, I2, turn_enumS x t (s1.heap.objs.size + 1) s1.heap.objs.size, ⟨⟨.none, he⟩, hit, Nat.succ_ne_self _⟩, fun b hb => ?_, q⟩
    have e' : b = s1.heap.objs.size + 1 ∨ b = s1.heap.objs.size := by simpa using hb
    have hle : s1.heap.objs.size ≤ b := by
      rcases e' with z | z
      · rw [z]; exact Nat.le_add_right _ _
      · rw [z]; exact Nat.le_refl _
    exact I1.fpOk hle (I1.hok.fresh hle)
theorem fin_enumS {x : Str} : Fini (IteS x) x.cps.size (fun _ => True) (fun i v H H' => ∃ T c, v = .ref T ∧ H T = none ∧ Same H H' ∧ H' T = some (.tup [.int (i : Nat), .str ⟨#[c]⟩]) ∧ x.cps[i]? = some c) :=
  ⟨fun i H h o => h, fun i H v H' h o y => by
    obtain ⟨T, c, e, n, e', q⟩ := y
    subst e'
    exact ⟨T, c, e, n, same_new n, upd_same, q⟩, fun H o => rfl⟩
/-! ### text[::-1] -/
section
variable {X : Cx}
def revS (x : Str) : Str := S x.cps.toList.reverse
theorem sliceBy_rev (x : Str) (u : Tok) : Txt.sliceBy x none none (-1, u) = revS x := by
  refine str_ext ?_
  rw [step_rev_list]
  show _ = x.cps.toList.reverse
  apply List.ext_getElem
  · rw [List.length_map, List.length_range, List.length_reverse, len_cps]
  · intro i h1 h2
    rw [List.length_map, List.length_range] at h1
    rw [List.getElem_map, List.getElem_range, List.getElem_reverse]
    have hl : x.cps.size = x.length := rfl
    have hlt : x.length - 1 - i < x.cps.size := by omega
    rw [Array.getD_eq_getD_getElem?, Array.getElem?_eq_getElem hlt]
    simp only [Option.getD_some, Array.getElem_toList]
    congr 1
def tRevS (te : TE) : TE := fun σ H Q => te σ H fun x H1 => ∃ z, x = .str z ∧ z.length ≤ sizeLine ∧ Q (.str (revS z)) H1
theorem pe_revS {e : Expr} {te : TE} {k : Nat} {p1 p2 p3 pos : Pos} (he : PE X e te) : PE X (.Subscript e (.Slice none none (some (.UnaryOp .USub (.Constant (.int 1) k p1) p2)) p3) pos) (tRevS te) := by
  refine ⟨fun pins s σ H Q I h => ?_⟩
  refine Subscript_ (thn (he.run pins s σ H _ I h) fun v s1 ⟨x, H1, I1, r1, q1⟩ => ?_)
  obtain ⟨z, ex, hz, q⟩ := q1
  subst ex
  obtain ⟨tz, rfl⟩ := r1
  have hst : PO X (some (.UnaryOp .USub (.Constant (.int 1) k p1) p2)) (tPart (tUn (rU fun i => .int (-i)) (tC (.int 1)))) := po_some (pe_un un_neg pe_int)
  refine wpAny_Slice (thn (po_none.run pins s1 σ H1 (fun o H2 => o = none ∧ H2 = H1) I1 ⟨rfl, rfl⟩) fun vl s2 ⟨l, H2, I2, pl, el, e2⟩ => ?_)
  subst el e2
  refine thn (po_none.run pins s2 σ H2 (fun o H3 => o = none ∧ H3 = H2) I2 ⟨rfl, rfl⟩) fun vu s3 ⟨u, H3, I3, pu, eu, e3⟩ => ?_
  subst eu e3
  refine thn (hst.run pins s3 σ H3 (fun o H4 => o = some (-1) ∧ H4 = H3) I3 ⟨1, rfl, -1, rfl, rfl, rfl⟩) fun vs s4 ⟨o, H4, I4, ps, eo, e4⟩ => ?_
  subst eo e4
  have I5 : Inv X pins σ H4 { s4 with heap := s4.heap.push { cls := .type "slice", data := .fields #[vl, vu, vs] } } := I4.kept (t' := s4.toks) fun b ob q => Heap.get?_push_of_some _ q
  cases pl
  cases pu
  cases ps with
  | int i ti =>
    show wpAny (model X.prog X.w) X.A (subscriptTail e (.Slice none none (some (.UnaryOp .USub (.Constant (.int 1) k p1) p2)) p3) (.str z tz) (.ref s4.heap.objs.size)) (EP X pins σ Q) X.xe { s4 with heap := s4.heap.push { cls := .type "slice", data := .fields #[.none, .none, .int (-1) ti] } }
    refine tail_any (ops := [.str z tz, .ref s4.heap.objs.size]) (typeIs_str _ _ _) (F.slot_str_getitem.lookup) ?_ (by with_unfolding_all rfl)
    refine wpAny_getItem_str_slice (l := none) (u := none) (st := some (-1, ti)) ⟨_, Heap.get?_push_size _ rfl, rfl, rfl⟩ rfl ?_
    have e0 : (sliceMade z tz none none (some (-1, ti))) = Made.str (Txt.sliceBy z none none (-1, ti)) := rfl
    rw [e0, sliceBy_rev]
    have hl : (revS z).length ≤ sizeLine := by
      unfold revS
      rw [len_S, List.length_reverse, len_cps]
      exact hz
    exact ⟨hl, .str (revS z), _, I5.tok _, ⟨_, rfl⟩, q⟩
theorem w_revS {te : TE} {σ : L2.St} {H : Hp} {Q : VK} (h : te σ H fun x H1 => ∃ z, x = .str z ∧ z.length ≤ sizeLine ∧ Q (.str (revS z)) H1) : tRevS te σ H Q := h
end
end Bw

namespace Bw
open PySem PySem.Spec PyProof.Rows L2 LamX
/-! ### d.setdefault(k, v); classes made by keywords -/
section
variable {H : Hp} {Q : VK} {σ : L2.St}
theorem w_dsetd {td ty tx : TE} (h : td σ H fun x H1 => ∃ a, x = .ref a ∧ IsD H1 a ∧ ty σ H1 fun y H2 => tx σ H2 fun z H3 => ∃ (kvs : List (Key × V)) (k : Key), H3 a = some (.dK kvs) ∧ y = kV k ∧ kvs.length < sizeLine ∧
  (∀ v, valV kvs k = some v → Q v H3) ∧ (valV kvs k = none → Q z (upd H3 a (.dK (putK kvs k z))))) : tDSetd td ty tx σ H Q := h
theorem w_dset1 {a : Addr} {kvs : List (Key × V)} {R : Addr → Prop} (h : H a = some (.dK kvs)) (q : R a) : ∃ a', V.ref a = .ref a' ∧ IsD H a' ∧ R a' := ⟨a, rfl, .inl ⟨kvs, .inl h⟩, q⟩
theorem w_dnewK (k : ∀ p H2, H p = none → Same H H2 → H2 p = some (.dK []) → Q (.ref p) H2) : tDNewK σ H Q := fun p n => k p _ n (same_new n) upd_same
end
def rRepS : R2 := fun x y H Q => ∃ z n, x = .str z ∧ y = .int n ∧ MulOk z n ∧ Q (.str (Txt.mul z n)) H
theorem op_repS {X : Cx} : OpR X (binaryOp .Mult) rRepS := by
  intro pins s σ H x y v u Q I rx ry h
  obtain ⟨i, j, rfl, rfl, hz, q⟩ := h
  obtain ⟨t, rfl⟩ := rx
  obtain ⟨t', rfl⟩ := ry
  exact SB.mul hz fun t' tk => ⟨.str _, H, I.tok _, ⟨_, rfl⟩, q⟩
theorem w_repS {z : Str} {n : Int} {H : Hp} {Q : VK} (h : MulOk z n) (q : Q (.str (Txt.mul z n)) H) : rRepS (.str z) (.int n) H Q := ⟨z, n, rfl, rfl, h, q⟩
theorem ip_fdivU {X : Cx} : PIp X .FloorDiv (rI CDiv fun i j => .int (i / j)) := fun pins s σ H x y v u Q I rx ry h => iop_fdiv pins s σ H x y v u Q I rx ry h
theorem w_fdivI {i j : Int} {H : Hp} {Q : VK} (h : CDiv i j) (q : Q (.int (i / j)) H) : rI CDiv (fun i j => .int (i / j)) (.int i) (.int j) H Q := ⟨i, j, rfl, rfl, h, q⟩
structure MkrXK (P : Program) (w : World) (K : PySem.W.Frag) (mg : Str → Option Value) (base : Heap) (x : Str) (C : Addr) (k : Nat) (ps : List Str) (ks : List Str) (gV : List V → List V → List V) (sp : Sp) : Prop where
  ex : ∃ (f : Addr) (fd : FuncData) (g : List Value → List Value → List Value), Mk K C f ∧ FnOk P w K mg base (L2.CX P w) k f fd ps sp ∧ mg x = some (.ref C) ∧ KBn K fd ps 1 ks g gV
section
variable {X : Cx}
theorem pe_mkxk {E : XK} {x : Str} {C : Addr} {k : Nat} {ps ks : List Str} {gV : List V → List V → List V} {sp : Sp} {kws : List Keyword} {tk : TA} {p pos : Pos} (M : MkrXK X.prog X.w X.K X.mg X.base x C k ps ks gV sp) (hx : Lets X E) (hr : Room (k + 1) X.A) (hg : Gl X x) (hkw : PK X kws tk)
    (hall : (backToKw pos (keywordEach kws X.env)).all (·.1.isSome) = true := by rfl) (hks : (backToKw pos (keywordEach kws X.env)).filterMap (·.1) = ks := by rfl) (hdb : (x == ("__debug__" : Str)) = false := by decide)
    (hpl : ((backTo pos (starEach [] X.env)).any (·.1) || (backToKw pos (keywordEach kws X.env)).any (·.1.isNone)) = false := by rfl) :
    PE X (.Call (.Name x p) [] kws pos) (tMakeK C 0 ks.length sp gV E tNil tk) := by
  obtain ⟨f, fd, g, M, G, hm, hb⟩ := M.ex
  exact pe_makeK0 M G hr hg hm hb hx hkw hall hks hdb hpl
end
end Bw

namespace Bw
open PySem PySem.Spec PyProof.Rows L2 LamX
/-! ### rpartition, zfill, count, int(x, 16), pop; defs with defaults, called by keywords -/
section
variable {X : Cx}
def rRpart : V → List V → Hp → VK → Prop := fun x xs H Q => ∃ a b, x = .str a ∧ xs = [.str b] ∧ (b.length == 0) = false ∧ a.length ≤ sizeLine ∧
    ∀ p, H p = none → Q (.ref p) (upd H p (.tup [.str (Txt.rpartition a b).1, .str (Txt.rpartition a b).2.1, .str (Txt.rpartition a b).2.2]))
theorem mt_rpartition : MtR X "str.rpartition" rRpart := by
  intro pins s σ H x xs v us Q I rx rs h
  obtain ⟨a, b, rfl, rfl, hb, hz, h⟩ := h
  obtain ⟨t, rfl⟩ := rx
  cases rs with
  | cons r1 rs =>
    cases rs
    obtain ⟨u, rfl⟩ := r1
    refine call_meets F.slot_str_rpartition (typeIs_str _ _ _) F.entry_str_rpartition (F.args_str_rpartition_2 _ _) (meets_str_rpartition a b t u hb hz) ?_
    unfold Txt.rpartition at h
    revert h
    cases Builtin.Str.lastOccurrence a b 0 a.length with
    | none => intro h; exact laid_parts I h
    | some i => intro h; exact laid_parts I h
def rCountS : V → List V → Hp → VK → Prop := fun x xs H Q => ∃ a b, x = .str a ∧ xs = [.str b] ∧ Q (.int (Txt.count a b)) H
theorem mt_countS : MtR X "str.count" rCountS := mt_count
def rZfill : V → List V → Hp → VK → Prop := fun x xs H Q => ∃ (a : Str) (i : Int), x = .str a ∧ xs = [.int i] ∧ PadOk i = true ∧ Q (.str (Txt.zfill a i)) H
theorem mt_zfillS : MtR X "str.zfill" rZfill := mt_zfill
theorem cl_intHex : CallR X (.type "int") rIntHex := call_int_hex
end
section
variable {K : PySem.W.Frag} {H : Hp} {Q : VK}
theorem w_rpart {x y : Str} (hy : (y.length == 0) = false) (hx : x.length ≤ sizeLine) (k : ∀ p H2, H p = none → Same H H2 → H2 p = some (.tup [.str (Txt.rpartition x y).1, .str (Txt.rpartition x y).2.1, .str (Txt.rpartition x y).2.2]) → Q (.ref p) H2) : rRpart (.str x) [.str y] H Q :=
  ⟨x, y, rfl, rfl, hy, hx, fun p n => k p _ n (same_new n) upd_same⟩
theorem w_countS {x y : Str} (q : Q (.int (Txt.count x y)) H) : rCountS (.str x) [.str y] H Q := ⟨x, y, rfl, rfl, q⟩
theorem w_zfill {x : Str} {i : Int} (h : PadOk i = true) (q : Q (.str (Txt.zfill x i)) H) : rZfill (.str x) [.int i] H Q := ⟨x, i, rfl, rfl, h, q⟩
theorem w_intHex {l : List Nat} (h0 : l ≠ []) (hl : l.length ≤ 640) (hx : ∀ c ∈ l, Hx.IsHex c) (q : Q (.int ((Hx.hexNum l : Nat) : Int)) H) : rIntHex [.str (S l), .int 16] H Q := ⟨l, rfl, h0, hl, hx, q⟩
theorem w_pop {l : Addr} {xs : List V} {y : V} (h : H l = some (.lst xs)) (hy : xs[xs.length - 1]? = some y) (k : ∀ H2, KB l H H2 → H2 l = some (.lst xs.dropLast) → Q y H2) : rPop (.ref l) [] H Q := ⟨l, xs, y, rfl, rfl, h, hy, k _ kb_upd upd_same⟩
theorem w_reverse {l : Addr} {xs : List V} (h : H l = some (.lst xs)) (k : ∀ H2, KB l H H2 → H2 l = some (.lst xs.reverse) → Q .non H2) : rReverse (.ref l) [] H Q := ⟨l, xs, rfl, rfl, h, k _ kb_upd upd_same⟩
/-- str(a number) -/
theorem w_strI {i : Int} (h : i.natAbs < 2 ^ 1919) (q : Q (.str (toString i)) H) : rStrI [.int i] H Q := ⟨i, rfl, PySem.Flt.log2_lt_of (by decide) (Nat.lt_of_lt_of_le h (Nat.pow_le_pow_right (by decide) (by decide))), q⟩
end
/-! ### rpartition by one sign -/
theorem at_one {x : Str} {c : Nat} {i : Nat} : StrLaws.At x ⟨#[c]⟩ x.length i ↔ x.cps.toList[i]? = some c := by
  rw [TL.at_iff (y := ⟨#[c]⟩) (by show ([c] : List Nat) ≠ []; simp)]
  show ((x.cps.toList.drop i).take 1 == [c]) = true ↔ _
  rw [beq_iff_eq]
  rcases Nat.lt_or_ge i x.cps.toList.length with h | h
  · rw [List.drop_eq_getElem_cons h, List.getElem?_eq_getElem h]
    simp
  · rw [List.drop_eq_nil_of_le h, List.getElem?_eq_none h]
    simp
theorem rpart_app {a b : List Nat} {c : Nat} (h : c ∉ b) : Txt.rpartition (S (a ++ c :: b)) ⟨#[c]⟩ = (S a, ⟨#[c]⟩, S b) := by
  have hA : ∀ k, a.length < k → ¬ StrLaws.At (S (a ++ c :: b)) ⟨#[c]⟩ (S (a ++ c :: b)).length k := fun k hk z => by
    rw [at_one, cps_S, List.getElem?_append_right (Nat.le_of_lt hk)] at z
    obtain ⟨m, hm⟩ : ∃ m, k - a.length = m + 1 := ⟨k - a.length - 1, by omega⟩
    rw [hm, List.getElem?_cons_succ] at z
    exact h (List.mem_of_getElem? z)
  have hB : StrLaws.At (S (a ++ c :: b)) ⟨#[c]⟩ (S (a ++ c :: b)).length a.length := by
    rw [at_one, cps_S]
    simp
  unfold Txt.rpartition
  rcases StrLaws.last_spec (S (a ++ c :: b)) ⟨#[c]⟩ with ⟨_, hn⟩ | ⟨i, e, hi, hn⟩
  · exact absurd hB (hn _)
  · have hia : i = a.length := by
      rcases Nat.lt_trichotomy i a.length with h1 | h1 | h1
      · exact absurd hB (hn _ h1)
      · exact h1
      · exact absurd hi (hA _ h1)
    subst hia
    rw [e]
    have e1 : Builtin.Str.strSub (S (a ++ c :: b)) 0 a.length = S a := str_ext (by
      show TL.tl _ = _
      rw [TL.tl_strSub]
      show ((a ++ c :: b).drop 0).take _ = a
      simp)
    have e2 : Builtin.Str.strSub (S (a ++ c :: b)) (a.length + 1) (S (a ++ c :: b)).length = S b := str_ext (by
      show TL.tl _ = _
      rw [TL.tl_strSub_end]
      show (a ++ c :: b).drop _ = b
      simp)
    show (_, _, Builtin.Str.strSub (S (a ++ c :: b)) (a.length + 1) (S (a ++ c :: b)).length) = _
    rw [e1, e2]
theorem rpart_none {a : List Nat} {c : Nat} (h : c ∉ a) : Txt.rpartition (S a) ⟨#[c]⟩ = (Str.empty, Str.empty, S a) := by
  unfold Txt.rpartition
  rcases StrLaws.last_spec (S a) ⟨#[c]⟩ with ⟨e, hn⟩ | ⟨i, e, hi, hn⟩
  · rw [e]
  · rw [at_one, cps_S] at hi
    exact absurd (List.mem_of_getElem? hi) h
theorem cnt_ge (c : Nat) : ∀ l : List Nat, 0 ≤ cnt c l
  | [] => Int.le_refl 0
  | n :: r => by
    rw [cnt_cons]
    have := cnt_ge c r
    split <;> omega
theorem cnt_mem {c : Nat} : ∀ {l : List Nat}, c ∈ l → 0 < cnt c l
  | n :: r, h => by
    rw [cnt_cons]
    have := cnt_ge c r
    rcases List.mem_cons.mp h with e | h
    · rw [if_pos e.symm]
      omega
    · have := cnt_mem h
      split <;> omega
/-! ### defs with defaults -/
/-- called by places: dvs are what is told by default behind them -/
structure FnD (P : Program) (w : World) (K : PySem.W.Frag) (mg : Str → Option Value) (base : Heap) (CX : CXT) (x : Str) (k : Nat) (ps : List Str) (dvs : List V) (sp : Sp) : Prop where
  ex : ∃ (f : Addr) (fd : FuncData) (ds : List Value), FnOk P w K mg base CX k f fd ps sp ∧ mg x = some (.ref f) ∧ PySem.W.keepIn K (.ref f) = true ∧ Binds K fd ps ds ∧ Vals dvs ds
/-- n by places, the others by the names ks -/
structure FnK (P : Program) (w : World) (K : PySem.W.Frag) (mg : Str → Option Value) (base : Heap) (CX : CXT) (x : Str) (k : Nat) (ps : List Str) (n : Nat) (ks : List Str) (gV : List V → List V → List V) (sp : Sp) : Prop where
  ex : ∃ (f : Addr) (fd : FuncData) (g : List Value → List Value → List Value), FnOk P w K mg base CX k f fd ps sp ∧ mg x = some (.ref f) ∧ PySem.W.keepIn K (.ref f) = true ∧ KBn K fd ps n ks g gV
section
variable {X : Cx}
theorem pe_fnd {CX : CXT} {E : XK} {x : Str} {k : Nat} {ps : List Str} {dvs : List V} {sp : Sp} {e : Expr} {es : List Expr} {t : TA} {p pos : Pos} (F : FnD X.prog X.w X.K X.mg X.base CX x k ps dvs sp) (hx : Passes CX X E) (hr : Room k X.A) (hg : Gl X x) (ha : PA X (e :: es) t)
    (hdb : (x == ("__debug__" : Str)) = false := by decide) (he : starEach (e :: es) X.env = (false, eval e X.env) :: starEach es X.env := by rfl) (hpl : (backTo pos (starEach es X.env)).any (·.1) = false := by rfl) :
    PE X (.Call (.Name x p) (e :: es) [] pos) (tCall sp dvs E t) := by
  obtain ⟨f, fd, ds, G, hm, hk, hb, hd⟩ := F.ex
  exact pe_call G hr hg hm hk hb hd hx ha hdb he hpl
theorem pe_fnk {CX : CXT} {E : XK} {x : Str} {k n : Nat} {ps ks : List Str} {gV : List V → List V → List V} {sp : Sp} {e : Expr} {es : List Expr} {kws : List Keyword} {t tk : TA} {p pos : Pos} (F : FnK X.prog X.w X.K X.mg X.base CX x k ps n ks gV sp) (hx : Passes CX X E) (hr : Room k X.A) (hg : Gl X x) (ha : PA X (e :: es) t) (hkw : PK X kws tk)
    (hall : (backToKw pos (keywordEach kws X.env)).all (·.1.isSome) = true := by rfl) (hks : (backToKw pos (keywordEach kws X.env)).filterMap (·.1) = ks := by rfl)
    (hdb : (x == ("__debug__" : Str)) = false := by decide) (he : starEach (e :: es) X.env = (false, eval e X.env) :: starEach es X.env := by rfl)
    (hpl : ((backTo pos (starEach (e :: es) X.env)).any (·.1) || (backToKw pos (keywordEach kws X.env)).any (·.1.isNone)) = false := by rfl) :
    PE X (.Call (.Name x p) (e :: es) kws pos) (tCallN n ks.length sp gV E t tk) := by
  obtain ⟨f, fd, g, G, hm, hk, hb⟩ := F.ex
  exact pe_callN G hr hg hm hk hb hx ha hkw hall hks hdb he hpl
end
section
variable {σ : L2.St} {H : Hp} {Q : VK}
theorem w_callD {sp : Sp} {dvs : List V} {tA : TA} {E : XK} (h : tA σ H fun vs H1 => sp (vs ++ dvs) H1 Q E) : tCall sp dvs E tA σ H Q := h
theorem w_callN {n m : Nat} {sp : Sp} {gV : List V → List V → List V} {E : XK} {t tk : TA} (h : t σ H fun vs H1 => tk σ H1 fun zs H2 => vs.length = n ∧ zs.length = m ∧ sp (gV vs zs) H2 Q E) : tCallN n m sp gV E t tk σ H Q := h
theorem w_nlen {xs ys : List V} {n m : Nat} {R : Prop} (h1 : xs.length = n) (h2 : ys.length = m) (q : R) : xs.length = n ∧ ys.length = m ∧ R := ⟨h1, h2, q⟩
end
end Bw

namespace Bw
open PySem PySem.Spec PyProof.Rows L2 LamX
/-! ### texts of whole files, plainly -/
theorem strOk_of {x : Str} (h : ∀ c ∈ x.cps.toList, c < 1114112) : PyData.strOk x = true := by
  unfold PyData.strOk
  rw [Array.all_eq_true']
  intro c hc
  exact decide_eq_true (h c (Array.mem_toList_iff.mpr hc))
/-- four figures -/
def zf (n : Nat) : List Nat := List.replicate (4 - (TL.numL n).length) 48 ++ TL.numL n
theorem num_S (n : Nat) : (Str.ofString (toString ((n : Nat) : Int))) = S (TL.numL n) := str_ext (TL.tl_num n)
theorem numL_len4 {n : Nat} (h : n ≤ 9999) : (TL.numL n).length ≤ 4 := TL.numL_len (by decide) (by omega)
theorem zf_len {n : Nat} (h : n ≤ 9999) : (zf n).length = 4 := by
  have := numL_len4 h
  unfold zf
  rw [List.length_append, List.length_replicate]
  omega
theorem zf_dig {n : Nat} : ∀ c ∈ zf n, 48 ≤ c ∧ c ≤ 57 := fun c hc => by
  unfold zf at hc
  rcases List.mem_append.mp hc with h | h
  · have := (List.mem_replicate.mp h).2
    omega
  · have := TL.numL_digits n c h
    omega
theorem zfill_num {n : Nat} : Txt.zfill (S (TL.numL n)) 4 = S (zf n) := by
  unfold Txt.zfill
  rw [len_S]
  split
  · rename_i h
    unfold zf
    rw [show 4 - (TL.numL n).length = 0 by omega]
    rfl
  · rename_i h
    unfold zfilled
    have key : Builtin.Str.padded (S (TL.numL n)) ((4 : Int).toNat - (TL.numL n).length) 0 48 = S (zf n) := str_ext (by
      show (Array.replicate _ 48 ++ (TL.numL n).toArray ++ Array.replicate 0 48).toList = zf n
      unfold zf
      simp)
    have hne := TL.numL_ne n
    have hd := TL.numL_digits n
    generalize hl : TL.numL n = l at *
    cases l with
    | nil => exact absurd rfl hne
    | cons c r =>
      have hc := hd c List.mem_cons_self
      have e : (S (c :: r)).cps[0]? = some c := rfl
      rw [e]
      split
      · rename_i z
        cases z
        exact absurd hc (by decide)
      · rename_i z
        cases z
        exact absurd hc (by decide)
      · exact key
theorem mul_zero_ok {n : Int} (h : n ≤ 4) (h0 : -10 ≤ n) : MulOk "0" n := by
  have e : ("0" : Str).length = 1 := rfl
  have hn : n = -10 ∨ n = -9 ∨ n = -8 ∨ n = -7 ∨ n = -6 ∨ n = -5 ∨ n = -4 ∨ n = -3 ∨ n = -2 ∨ n = -1 ∨ n = 0 ∨ n = 1 ∨ n = 2 ∨ n = 3 ∨ n = 4 := by omega
  rcases hn with rfl | rfl | rfl | rfl | rfl | rfl | rfl | rfl | rfl | rfl | rfl | rfl | rfl | rfl | rfl <;> (unfold MulOk; decide +kernel)
theorem mul_zero {k : Nat} (h : k ≤ 4) : Txt.mul "0" (k : Int) = S (List.replicate k 48) := by
  have hk : k = 0 ∨ k = 1 ∨ k = 2 ∨ k = 3 ∨ k = 4 := by omega
  rcases hk with rfl | rfl | rfl | rfl | rfl <;> decide +kernel
/-- rows with their ends -/
def sgn (rows : List Str) : List Nat := (rows.map fun r => r.cps.toList ++ [10]).flatten
theorem join_lines (h : Str) : ∀ rows : List Str, (Str.join ("\n" : Str) (h :: rows)).cps.toList ++ [10] = h.cps.toList ++ [10] ++ sgn rows
  | [] => by
    show h.cps.toList ++ [10] = _
    simp [sgn]
  | r :: rs => by
    have e : (Str.join ("\n" : Str) (h :: r :: rs)) = h ++ ("\n" : Str) ++ Str.join ("\n" : Str) (r :: rs) := rfl
    rw [e, cps_append, cps_append, List.append_assoc, join_lines r rs]
    have e2 : ("\n" : Str).cps.toList = [10] := rfl
    rw [e2]
    simp [sgn]
theorem sgn_len {rows : List Str} {m : Nat} (h : ∀ r ∈ rows, r.length ≤ m) : (sgn rows).length ≤ rows.length * (m + 1) := by
  induction rows with
  | nil => simp [sgn]
  | cons r rs ih =>
    have h1 := ih (fun x hx => h x (List.mem_cons_of_mem _ hx))
    have h2 := h r List.mem_cons_self
    have e : sgn (r :: rs) = r.cps.toList ++ [10] ++ sgn rs := by simp [sgn]
    rw [e, List.length_append, List.length_append, len_cps, List.length_cons (a := r), Nat.add_mul]
    simp
    omega
/-- signs ended by line feeds, split -/
theorem split_lines {hd : List Nat} {rows : List Str} (h0 : 10 ∉ hd) (hr : ∀ r ∈ rows, 10 ∉ r.cps.toList) : Txt.split (S (hd ++ [10] ++ sgn rows)) "\n" = S hd :: (rows ++ [("" : Str)]) := by
  have e : S (hd ++ [10] ++ sgn rows) = Txt.join ("\n" : Str) (S hd :: (rows ++ [("" : Str)])) := by
    refine str_ext ?_
    rw [txt_join, cps_S]
    have h1 : ∀ (a : Str) (rs : List Str), (Str.join ("\n" : Str) (a :: (rs ++ [("" : Str)]))).cps.toList = a.cps.toList ++ [10] ++ sgn rs := by
      intro a rs
      induction rs generalizing a with
      | nil =>
        show (a ++ ("\n" : Str) ++ ("" : Str)).cps.toList = _
        rw [cps_append, cps_append]
        show a.cps.toList ++ [10] ++ [] = _
        simp [sgn]
      | cons r rs ih =>
        show (a ++ ("\n" : Str) ++ Str.join ("\n" : Str) (r :: (rs ++ [("" : Str)]))).cps.toList = _
        rw [cps_append, cps_append, ih r]
        show a.cps.toList ++ [10] ++ _ = _
        simp [sgn]
    rw [h1]
    rfl
  rw [e]
  refine TL.split_join (s := 10) (S := []) rfl (by decide +kernel) (by simp) (fun p hp z => ?_)
  rcases List.mem_cons.mp hp with rfl | hp
  · exact h0 z
  · rcases List.mem_append.mp hp with hp | hp
    · exact hr p hp z
    · rw [List.mem_singleton.mp hp] at z
      exact absurd z (by show ¬ 10 ∈ ([] : List Nat); simp)
theorem sum_le {c : Nat} : ∀ {l : List Nat}, (∀ x ∈ l, x ≤ c) → l.sum ≤ l.length * c
  | [], _ => by simp
  | y :: r, h => by
    have h1 := h y List.mem_cons_self
    have h2 := sum_le (l := r) (fun x hx => h x (List.mem_cons_of_mem _ hx))
    simp only [List.sum_cons, List.length_cons, Nat.add_mul, Nat.one_mul]
    omega
theorem join_empty : ∀ rows : List Str, (Str.join ("" : Str) rows).cps.toList = (rows.map fun r => r.cps.toList).flatten
  | [] => rfl
  | [r] => by show r.cps.toList = _; simp
  | r :: s :: rs => by
    show (r ++ ("" : Str) ++ Str.join ("" : Str) (s :: rs)).cps.toList = _
    rw [cps_append, cps_append, join_empty (s :: rs)]
    show r.cps.toList ++ [] ++ _ = _
    simp
theorem sum_ones : ∀ cs : List Nat, ((cs.map fun c => (⟨#[c]⟩ : Str)).map (·.length)).sum = cs.length
  | [] => rfl
  | c :: r => by
    rw [List.map_cons, List.map_cons, List.sum_cons, sum_ones r, List.length_cons]
    show 1 + _ = _
    omega
theorem join_ones (cs : List Nat) : (Txt.join "" (cs.map fun c => (⟨#[c]⟩ : Str))).cps.toList = cs := by
  rw [txt_join, join_empty, List.map_map]
  induction cs with
  | nil => rfl
  | cons c r ih =>
    rw [List.map_cons, List.flatten_cons, ih]
    rfl
end Bw

namespace Bw
open PySem PySem.Spec PyProof.Rows L2 LamX
/-! ### x == y by an own __eq__ that lets nothing out -/
structure EqO (P : Program) (w : World) (K : PySem.W.Frag) (mg : Str → Option Value) (base : Heap) (C : Addr) (k : Nat) (ps : List Str) (sp : Sp) : Prop where
  ex : ∃ (f : Addr) (fd : FuncData), FnOk P w K mg base CX0 k f fd ps sp ∧ PySem.W.findIn K (.ref C) "__eq__" = some (some (.ref f)) ∧ PySem.W.isFn K (.ref f) = true ∧ Binds K fd ps []
/-- what may stand on the other side -/
inductive Side (K : PySem.W.Frag) (H : Hp) (C : Addr) : V → Prop
  | int (i : Int) : PySem.W.notFirst K C (.type "int") = true → Side K H C (.int i)
  | bl (b : Bool) : PySem.W.notFirst K C (.type "bool") = true → Side K H C (.bl b)
  | str (x : Str) : PySem.W.notFirst K C (.type "str") = true → Side K H C (.str x)
  | non : PySem.W.notFirst K C (.type "NoneType") = true → Side K H C .non
  | lst {a : Addr} {xs : List V} : H a = some (.lst xs) → PySem.W.notFirst K C (.type "list") = true → Side K H C (.ref a)
  | tup {a : Addr} {xs : List V} : H a = some (.tup xs) → PySem.W.notFirst K C (.type "tuple") = true → Side K H C (.ref a)
  | own {a dx : Addr} {fs : List (Str × V)} : H a = some (.ins C dx fs) → Side K H C (.ref a)
section
variable {X : Cx}
theorem side_looks {pins : List (Addr × Obj)} {σ : L2.St} {H : Hp} {s : Shared} {C : Addr} {y : V} {u : Value} (I : L2.Inv X pins σ H s) (r : RelV y u) (d : Side X.K H C y) : ∃ tb, PySem.W.Looks (model X.prog X.w) s.heap (typeOf u) tb ∧ PySem.W.notFirst X.K C tb = true := by
  cases d with
  | int i h => obtain ⟨t, rfl⟩ := r; exact ⟨_, PySem.W.Looks.of_pure rfl, h⟩
  | bl b h => cases r; exact ⟨_, PySem.W.Looks.of_pure rfl, h⟩
  | str x h => obtain ⟨t, rfl⟩ := r; exact ⟨_, PySem.W.Looks.of_pure rfl, h⟩
  | non h => cases r; exact ⟨_, PySem.W.Looks.of_pure rfl, h⟩
  | @lst a xs ea h =>
    cases (show u = Value.ref a from r)
    obtain ⟨_, _, n, _, h1⟩ := (show ObjOk X.prog X.w H s.heap a (.lst xs) from I.hok a _ ea)
    exact ⟨.type "list", fun A Q E s k q => wpAny_typeOf_ref (k _ _ h1) q, h⟩
  | @tup a xs ea h =>
    cases (show u = Value.ref a from r)
    obtain ⟨_, _, _, o, h1, h2, _⟩ := (show ObjOk X.prog X.w H s.heap a (.tup xs) from I.hok a _ ea)
    exact ⟨.type "tuple", fun A Q E s k q => wpAny_typeOf_ref (k _ _ h1) (h2 ▸ q), h⟩
  | @own a dx fs ea =>
    cases (show u = Value.ref a from r)
    obtain ⟨mB, J', _⟩ := ins_get I.hok ea
    obtain ⟨od', J', _⟩ := J'.look
    exact ⟨_, J'.type, by simp [PySem.W.notFirst]⟩
def rEqO (K : PySem.W.Frag) (C : Addr) (sp : Sp) : R2 := fun x y H Q => ∃ a dx fs, x = .ref a ∧ H a = some (.ins C dx fs) ∧ Side K H C y ∧ sp [x, y] H (fun v H' => (∃ b, v = .bl b) ∧ Q v H') C8.E0
theorem op_eqO {C : Addr} {k : Nat} {ps : List Str} {sp : Sp} (O : EqO X.prog X.w X.K X.mg X.base C k ps sp) (hr : Room k X.A) : OpR X (compareOp .Eq) (rEqO X.K C sp) := by
  intro pins s σ H x y v u Q I rx ry h
  obtain ⟨a, dx, fs, rfl, ha, hy, hsp⟩ := h
  obtain ⟨f, fd, F, hs, hf, hb⟩ := O.ex
  cases rx
  obtain ⟨tb, lk, nf⟩ := side_looks I ry hy
  obtain ⟨mA, J, _⟩ := ins_get I.hok ha
  obtain ⟨od, J, _⟩ := J.look
  obtain ⟨m, hF⟩ := I.fr
  show wpAny (model X.prog X.w) X.A (richCompare .Eq (.ref a) u) (EP X pins σ Q) X.xe s
  refine PySem.W.cmp_K (op := .Eq) hr.units0 hF I.ok.mod.kin J lk nf hs hf ?_
  have hl := F.len _ _ _ _ hsp
  have r2 : Vals [V.ref a, y] [Value.ref a, u] := .cons rfl (.cons ry .nil)
  refine wpAny_call (codeAny_mono (F.run X.A X.stack s H ⟨[.ref a, u], []⟩ [.ref a, u] [.ref a, y] _ _ hr I.env0 (by
    have := hb s [.ref a, u] I.kIn (by simpa using hl)
    simpa using this) r2 hsp) fun r s' hq => ?_)
  cases r with
  | error e => exact pass0 pins σ H s e s' I hq
  | ok fl =>
    cases fl with
    | ret w =>
      obtain ⟨z, H', I', rz, ⟨b, ez⟩, q⟩ := I.after hq
      subst ez
      cases rz
      exact ⟨.bl b, H', I', rfl, q⟩
    | next => exact False.elim hq
    | brk => exact False.elim hq
    | cont => exact False.elim hq
end
end Bw

namespace Bw
open PySem PySem.Spec PyProof.Rows L2 LamX
open PySem.W (Frag findIn subIn looks_findIn looks_subIn)
section
variable {prog : Program} {w : World} {A : Around} {E : Value → Shared → Prop} {s : Shared} {K : Frag} {x C : Addr} {ox : Obj} {od : Option Obj} {b tb : Value}
theorem ifBound_B {M : Model} {args : List Value} {name : Str} {id B : String} {Q : Option Value → Shared → Prop} (X : K.In s.heap) (I : PySem.W.InstAt s.heap x ox C od) (hs : findIn K (.ref C) name = some (some (.builtin id))) (S : Slot B name id)
    (h : wpAny M A (call (.builtin id) (.ref x :: args)) (fun v => Q (some v)) E s) : wpAny M A (callSpecialIfBound? (.ref x) name args) Q E s := by
  simp only [callSpecialIfBound?, bindSpecialIfBound?]
  refine wpAny_holding (wpAny_bind (wpAny_bind (wpAny_bind (I.type.here ((looks_findIn X hs).here ?_)))))
  simp only [S.bind]
  refine wpAny_bind (wpAny_askSetting (wpAny_ite ?_))
  have fin : wpAny M A (call (.builtin id) ([.ref x] ++ args) >>= fun v => pure (some v)) Q E s := wpAny_bind (wpAny_mono h (fun v s' h' => wpAny_pure h') fun _ _ h' => h')
  split
  · exact wpAny_bind (wpAny_pure (wpAny_pure fin))
  · exact wpAny_tryCatch (wpAny_bind (wpAny_pure (wpAny_pure fin)))
theorem check_B {M : Model} {id owner n : String} {rest : List Value} {Q : Unit → Shared → Prop} (X : K.In s.heap) (I : PySem.W.InstAt s.heap x ox C od) (hk : builtinKind id = some .slot) (hs : splitId id = some (owner, n))
    (ha : argsOk id ⟨.ref x :: rest, []⟩) (hso : subIn K (.ref C) (.type owner) = some true) (hq : Q () s) :
    wpAny M A (checkBuiltinCall id ⟨.ref x :: rest, []⟩) Q E s := by
  simp only [checkBuiltinCall, hk, hs]
  refine wpAny_bind ?_
  unfold isInstance
  refine wpAny_bind (I.type.here ?_)
  refine (looks_subIn X hso).here ?_
  cases hsig : Manifest.signature? id with
  | none => exact wpAny_pure hq
  | some sig =>
    simp only [argsOk, hsig] at ha
    have h2 : Bind.checkArgs id sig ⟨.ref x :: rest, []⟩ = pure () := ha
    show wpAny M A (Bind.checkArgs id sig ⟨.ref x :: rest, []⟩) Q E _
    rw [h2]
    exact wpAny_pure hq
/-- x != y by an own __eq__ -/
theorem ne_entry {Q : Fin → Shared → Prop} {f : Addr} (hu : A.units < cLine) (X : K.In s.heap) (I : PySem.W.InstAt s.heap x ox C od) (hs : findIn K (.ref C) "__eq__" = some (some (.ref f))) (hf : PySem.W.isFn K (.ref f) = true)
    (h : wpAny (model prog w) A (call (.ref f) [.ref x, b]) (fun v s' => ∃ k, v = .bool k ∧ Q (.done (.ret (.bool (!k)))) s') E s) : wpAny (model prog w) A (Builtin.«object.__ne__» ⟨[.ref x, b], []⟩) Q E s := by
  unfold Builtin.«object.__ne__»
  refine wpAny_bind (wpAny_pure ?_)
  refine wpAny_bind (wpAny_cRoomFor hu ?_)
  refine wpAny_bind (PySem.W.ifBound_K X I hs hf ?_)
  refine wpAny_mono h (fun v s' hv => ?_) (fun _ _ e => e)
  obtain ⟨k, rfl, q⟩ := hv
  refine wpAny_bind (wpAny_truthy_bool ?_)
  exact wpAny_pure q
theorem cmp_ne {Q : Value → Shared → Prop} {f : Addr} {m : Str → Option Value} {L : Addr} {h₀ : Heap} (hu : A.units + 1 < cLine) (G : Fr h₀ L s.heap m) (X₀ : K.In h₀) (I : PySem.W.InstAt s.heap x ox C od) (hb : PySem.W.Looks (model prog w) s.heap (typeOf b) tb) (hn : PySem.W.notFirst K C tb = true)
    (hne : findIn K (.ref C) "__ne__" = some (some (.builtin "object.__ne__"))) (hso : subIn K (.ref C) (.type "object") = some true) (hs : findIn K (.ref C) "__eq__" = some (some (.ref f))) (hf : PySem.W.isFn K (.ref f) = true)
    (h : wpAny (model prog w) A.in1 (call (.ref f) [.ref x, b]) (fun v s' => ∃ k, v = .bool k ∧ Q (.bool (!k)) s') E s) : wpAny (model prog w) A (richCompare .NotEq (.ref x) b) Q E s := by
  have X := X₀.keeps G.keep
  have hu0 : A.units < cLine := by omega
  have one : wpAny (model prog w) A (tryCompare (.ref x) (cmpInfo .NotEq).2.1 b) (fun r s' => ∃ v, r = some v ∧ Q v s') E s := by
    unfold tryCompare
    refine wpAny_bind (ifBound_B X I hne PySem.F.slot_object_ne (wpAny_call (codeAny_call_builtin PySem.F.slot_object_ne.plain PySem.F.cmpEntry_ne (check_B X I PySem.F.cmpKind_ne PySem.F.cmpSplit_ne (PySem.F.cmpArgs_ne _ _) hso (ne_entry (A := A.in1) hu X I hs hf ?_)))))
    refine wpAny_mono h (fun v s' hv => ?_) fun _ _ e => e
    obtain ⟨k, rfl, q⟩ := hv
    exact ⟨k, rfl, wpAny_pure ⟨_, rfl, q⟩⟩
  unfold richCompare
  simp only [oneThing_ref]
  refine wpAny_holding (wpAny_bind (wpAny_cRoomFor hu0 ?_))
  refine wpAny_bind (I.type.here (wpAny_bind (hb.here ?_)))
  split
  · rename_i q
    have e : subIn K tb (.ref C) = some false := by
      rcases Bool.or_eq_true_iff.mp hn with e | e
      · rw [beq_iff_eq.mp e] at q; simp at q
      · exact beq_iff_eq.mp e
    refine wpAny_bind ((looks_subIn X e).here ?_)
    simp only [Bool.false_eq_true, if_false]
    refine wpAny_bind (wpAny_mono one (fun r s' z => ?_) fun _ _ e => e)
    obtain ⟨v, rfl, hq⟩ := z
    exact wpAny_pure hq
  · refine wpAny_bind (wpAny_pure ?_)
    simp only [Bool.false_eq_true, if_false]
    refine wpAny_bind (wpAny_mono one (fun r s' z => ?_) fun _ _ e => e)
    obtain ⟨v, rfl, hq⟩ := z
    exact wpAny_pure hq
end
end Bw

/-! == of own objects, and of lists of such: either answer -/
namespace Bw
open PySem PySem.Spec PySem.SeqAt PyProof.Rows L2 LamX
open AutoSeq1 (wpAny_loadPart')
open MeetsSeq MeetsSeq2 MeetsSeq3 SeqRoads2
section
variable {prog : Program} {w : World} {A : Around} {R : Result → Shared → Prop}
/-- at each turn the two lists are read anew -/
def ListB (prog : Program) (w : World) (A : Around) (E : Value → Shared → Prop) (l b : Addr) (N : Nat) (bs : Nat → Bool) (I : Shared → Prop) : Prop :=
  ∀ s, I s → ∃ (items items2 : Array Value) (n n2 : Nat), s.heap.get? l = some { cls := .type "list", data := .seq items n } ∧ s.heap.get? b = some { cls := .type "list", data := .seq items2 n2 } ∧ items.size = N ∧ items2.size = N ∧
    ∀ i (h1 : i < items.size) (h2 : i < items2.size), wpAny (model prog w) A.in1 (eqBool items[i] items2[i]) (fun r s' => r = bs i ∧ I s') E s
theorem eq_loopB (l b : Addr) (N : Nat) (bs : Nat → Bool) (I : Shared → Prop) (hl : ListB prog w A (fun e s' => R (.error e) s') l b N bs I)
    (fin : ∀ s, I s → R (.ok (.ret (.bool ((List.range N).all bs)))) s) (k : Nat) :
    ∀ i : Nat, N - i = k → i ≤ N → (∀ j, j < i → bs j = true) → ∀ s, I s →
      wpAny (model prog w) A.in1 (Builtin.«list.__eq__.loop» ⟨[.ref l, .ref b, rawInt i, rawInt 2], []⟩) (GQ.FinOf prog w A R) (fun e s' => R (.error e) s') s := by
  induction k with
  | zero =>
    intro i hk hi hbs s h
    obtain ⟨items, items2, n, n2, hl1, hb1, hs1, hs2, _⟩ := hl _ h
    have hi' : i = N := by omega
    have hall : (List.range N).all bs = true := by
      rw [List.all_eq_true]
      intro x hx
      exact hbs x (by rw [hi']; exact List.mem_range.mp hx)
    have hR : R (.ok (.ret (.bool true))) s := hall ▸ fin s h
    obtain ⟨hp, g, d, tk, os⟩ := s
    wp_walk using wpAny_loadPart' hl1, wpAny_loadPart' hb1
    have hi1 : items[((i : Nat) : Int).toNat]? = none := by simp; omega
    have hi2 : items2[((i : Nat) : Int).toNat]? = none := by simp; omega
    rw [hi1, hi2]
    wp_walk using wpAny_loadPart' hl1, wpAny_loadPart' hb1
    show R (.ok (.ret (.bool (items.size == items2.size)))) _
    rw [hs1, hs2]
    simpa using hR
  | succ k ih =>
    intro i hk hi hbs s h
    obtain ⟨items, items2, n, n2, hl1, hb1, hs1, hs2, turn⟩ := hl _ h
    have hlt : i < items.size := by omega
    have hlt2 : i < items2.size := by omega
    have ht := turn i hlt hlt2
    obtain ⟨hp, g, d, tk, os⟩ := s
    wp_walk using wpAny_loadPart' hl1, wpAny_loadPart' hb1
    have hi1 : items[((i : Nat) : Int).toNat]? = some items[i] := by simp [hlt]
    have hi2 : items2[((i : Nat) : Int).toNat]? = some items2[i] := by simp [hlt2]
    have hc : ((i : Int) + 1) = ((i + 1 : Nat) : Int) := by omega
    rw [hi1, hi2]
    refine wpAny_bind (wpAny_mono ht (fun r s2 h2 => ?_) fun _ _ x => x)
    obtain ⟨hr, h2⟩ := h2
    cases hb : bs i with
    | true =>
      rw [hb] at hr
      subst hr
      have hrec := ih (i + 1) (by omega) (by omega) (fun j hj => by
        rcases Nat.lt_or_eq_of_le (Nat.le_of_lt_succ hj) with h | h
        · exact hbs j h
        · exact h ▸ hb) s2 h2
      obtain ⟨hp2, g2, d2, tk2, os2⟩ := s2
      wp_walk
      rw [hc]
      exact ⟨plainId_quiet plain_eq_loop _, codeAny_builtin entry_eq_loop (by
        rw [Around.under_plainId plain_eq_loop _]
        exact hrec)⟩
    | false =>
      rw [hb] at hr
      subst hr
      obtain ⟨itemsB, items2B, nB, n2B, hl1B, hb1B, hs1B, hs2B, _⟩ := hl _ h2
      have hi1B : itemsB[((i : Nat) : Int).toNat]? = some (itemsB[i]'(by omega)) := by
        have : i < itemsB.size := by omega
        simp [this]
      have hi2B : items2B[((i : Nat) : Int).toNat]? = some (items2B[i]'(by omega)) := by
        have : i < items2B.size := by omega
        simp [this]
      have hall : (List.range N).all bs = false := by
        rw [Bool.eq_false_iff]
        intro z
        rw [List.all_eq_true] at z
        have := z i (List.mem_range.mpr (by omega))
        rw [hb] at this
        cases this
      have hR : R (.ok (.ret (.bool false))) s2 := hall ▸ fin s2 h2
      obtain ⟨hp2, g2, d2, tk2, os2⟩ := s2
      wp_walk using wpAny_loadPart' hl1B, wpAny_loadPart' hb1B
      rw [hi1B, hi2B]
      wp_walk
      exact hR
theorem list_eqB (l b : Addr) (N : Nat) (bs : Nat → Bool) (I : Shared → Prop) (hl : ListB prog w A (fun e s' => R (.error e) s') l b N bs I)
    (fin : ∀ s, I s → R (.ok (.ret (.bool ((List.range N).all bs)))) s) {s : Shared} (h : I s) :
    wpAny (model prog w) A.in1 (Builtin.«list.__eq__» ⟨[.ref l, .ref b], []⟩) (GQ.FinOf prog w A R) (fun e s' => R (.error e) s') s := by
  obtain ⟨items, items2, n, n2, hl1, hb1, hs1, hs2, _⟩ := hl _ h
  have hrec := eq_loopB (A := A) (R := R) l b N bs I hl fin _ 0 rfl (Nat.zero_le _) (fun j hj => absurd hj (Nat.not_lt_zero _)) s h
  obtain ⟨hp, g, d, tk, os⟩ := s
  have f3 := AutoSeq1.sub_list_list
  have hne : ¬ (items.size != items2.size) = true := by simp [hs1, hs2]
  wp_walk using wpAny_loadPart' hl1, wpAny_loadPart' hb1
  exact ⟨plainId_quiet plain_eq_loop _, codeAny_builtin entry_eq_loop (by
    rw [Around.under_plainId plain_eq_loop _]
    exact hrec)⟩
/-- x in l -/
def ContB (prog : Program) (w : World) (A : Around) (E : Value → Shared → Prop) (l : Addr) (x : Value) (N : Nat) (bs : Nat → Bool) (I : Shared → Prop) : Prop :=
  ∀ s, I s → ∃ (items : Array Value) (n : Nat), s.heap.get? l = some { cls := .type "list", data := .seq items n } ∧ items.size = N ∧
    ∀ i (h1 : i < items.size), wpAny (model prog w) A.in1 (eqBool items[i] x) (fun r s' => r = bs i ∧ I s') E s
theorem cont_loopB (l : Addr) (x : Value) (N : Nat) (bs : Nat → Bool) (I : Shared → Prop) (hl : ContB prog w A (fun e s' => R (.error e) s') l x N bs I)
    (fin : ∀ s, I s → R (.ok (.ret (.bool ((List.range N).any bs)))) s) (k : Nat) :
    ∀ i : Nat, N - i = k → i ≤ N → (∀ j, j < i → bs j = false) → ∀ s, I s →
      wpAny (model prog w) A.in1 (Builtin.«list.__contains__.loop» ⟨[.ref l, x, rawInt i], []⟩) (GQ.FinOf prog w A R) (fun e s' => R (.error e) s') s := by
  induction k with
  | zero =>
    intro i hk hi hbs s h
    obtain ⟨items, n, hl1, hs1, _⟩ := hl _ h
    have hi' : i = N := by omega
    have hall : (List.range N).any bs = false := by
      rw [List.any_eq_false]
      intro x hx
      rw [hbs x (by rw [hi']; exact List.mem_range.mp hx)]
      exact Bool.false_ne_true
    have hR : R (.ok (.ret (.bool false))) s := hall ▸ fin s h
    obtain ⟨hp, g, d, tk, os⟩ := s
    wp_walk using wpAny_loadPart' hl1
    have hi1 : items[((i : Nat) : Int).toNat]? = none := by simp; omega
    rw [hi1]
    wp_walk
    exact hR
  | succ k ih =>
    intro i hk hi hbs s h
    obtain ⟨items, n, hl1, hs1, turn⟩ := hl _ h
    have hlt : i < items.size := by omega
    have ht := turn i hlt
    obtain ⟨hp, g, d, tk, os⟩ := s
    wp_walk using wpAny_loadPart' hl1
    have hi1 : items[((i : Nat) : Int).toNat]? = some items[i] := by simp [hlt]
    have hc : ((i : Int) + 1) = ((i + 1 : Nat) : Int) := by omega
    rw [hi1]
    refine wpAny_bind (wpAny_mono ht (fun r s2 h2 => ?_) fun _ _ x => x)
    obtain ⟨hr, h2⟩ := h2
    cases hb : bs i with
    | true =>
      rw [hb] at hr
      subst hr
      have hall : (List.range N).any bs = true := by
        rw [List.any_eq_true]
        exact ⟨i, List.mem_range.mpr (by omega), hb⟩
      have hR : R (.ok (.ret (.bool true))) s2 := hall ▸ fin s2 h2
      obtain ⟨hp2, g2, d2, tk2, os2⟩ := s2
      wp_walk
      exact hR
    | false =>
      rw [hb] at hr
      subst hr
      have hrec := ih (i + 1) (by omega) (by omega) (fun j hj => by
        rcases Nat.lt_or_eq_of_le (Nat.le_of_lt_succ hj) with h | h
        · exact hbs j h
        · exact h ▸ hb) s2 h2
      obtain ⟨hp2, g2, d2, tk2, os2⟩ := s2
      wp_walk
      rw [hc]
      exact ⟨plainId_quiet plain_contains_loop _, codeAny_builtin entry_contains_loop (by
        rw [Around.under_plainId plain_contains_loop _]
        exact hrec)⟩
theorem list_contB (l : Addr) (x : Value) (N : Nat) (bs : Nat → Bool) (I : Shared → Prop) (hl : ContB prog w A (fun e s' => R (.error e) s') l x N bs I)
    (fin : ∀ s, I s → R (.ok (.ret (.bool ((List.range N).any bs)))) s) {s : Shared} (h : I s) :
    wpAny (model prog w) A.in1 (Builtin.«list.__contains__» ⟨[.ref l, x], []⟩) (GQ.FinOf prog w A R) (fun e s' => R (.error e) s') s := by
  obtain ⟨items, n, hl1, hs1, _⟩ := hl _ h
  have hrec := cont_loopB (A := A) (R := R) l x N bs I hl fin _ 0 rfl (Nat.zero_le _) (fun j hj => absurd hj (Nat.not_lt_zero _)) s h
  obtain ⟨hp, g, d, tk, os⟩ := s
  wp_walk using wpAny_loadPart' hl1
  exact ⟨plainId_quiet plain_contains_loop _, codeAny_builtin entry_contains_loop (by
    rw [Around.under_plainId plain_contains_loop _]
    exact hrec)⟩
end
section
variable {prog : Program} {w : World} {A : Around} {E : Value → Shared → Prop} {s : Shared}
theorem rc_listB {l b : Addr} {N : Nat} {bs : Nat → Bool} {Q : Value → Shared → Prop} (hu : A.units < cLine) (I : Shared → Prop) (hl : ListB prog w A E l b N bs I)
    (fin : ∀ s, I s → Q (.bool ((List.range N).all bs)) s) (h : I s) : wpAny (model prog w) A (richCompare .Eq (.ref l) (.ref b)) Q E s := by
  obtain ⟨items, items2, n, n2, hl1, hb1, _, _, _⟩ := hl _ h
  refine wpAny_richCompare_same_room (op := .Eq) ⟨_, hl1, rfl⟩ ⟨_, hb1, rfl⟩ F.slot_list_eq (GQ.call_here F.slot_list_eq ⟨_, hl1, rfl⟩ F.entry_list_eq (F.args_list_eq_2 _ _) ?_) hu
  exact list_eqB (R := wants (fun v s' => v ≠ .notImplemented ∧ Q v s') E) l b N bs I hl (fun s' q => ⟨(fun x => nomatch x), fin s' q⟩) h
theorem rc_listD {l b : Addr} {items items2 : Array Value} {n n2 : Nat} {Q : Value → Shared → Prop} (hu : A.units < cLine) (hl : s.heap.get? l = some { cls := .type "list", data := .seq items n }) (hb : s.heap.get? b = some { cls := .type "list", data := .seq items2 n2 }) (hne : items.size ≠ items2.size)
    (fin : Q (.bool false) s) : wpAny (model prog w) A (richCompare .Eq (.ref l) (.ref b)) Q E s := by
  refine wpAny_richCompare_same_room (op := .Eq) ⟨_, hl, rfl⟩ ⟨_, hb, rfl⟩ F.slot_list_eq ?_ hu
  exact call_meets F.slot_list_eq ⟨_, hl, rfl⟩ F.entry_list_eq (F.args_list_eq_2 _ _) (list_eq_lengthsAt l b items items2 n n2 none none #[] #[] (by simp [hne])) ⟨hl, hb, (fun x => nomatch x), fin⟩
end
end Bw

/-! == by own __eq__ over the layer: either answer; !=, in, lists of own objects -/
namespace Bw
open PySem PySem.Spec PyProof.Rows L2 LamX
/-- x == y answers b, by the abstract heap -/
abbrev Eqb := V → V → Hp → Bool → Prop
def MonB (D : Eqb) : Prop := ∀ x y H H' b, Same H H' → D x y H b → D x y H' b
def EqbX (X : Cx) (n : Nat) (D : Eqb) : Prop :=
  ∀ (A : Around) (pins : List (Addr × Obj)) (s : Shared) (σ : L2.St) (H : Hp) (x y : V) (u v : Value) (b : Bool), Sub X n A → Inv X pins σ H s → RelV x u → RelV y v → D x y H b →
    wpAny (model X.prog X.w) A (eqBool u v) (fun r s' => r = b ∧ ∃ H', Inv X pins σ H' s' ∧ Same H H') X.xe s
def RcbX (X : Cx) (n : Nat) (D : Eqb) : Prop :=
  ∀ (A : Around) (pins : List (Addr × Obj)) (s : Shared) (σ : L2.St) (H : Hp) (x y : V) (u v : Value) (b : Bool), Sub X n A → Inv X pins σ H s → RelV x u → RelV y v → D x y H b →
    wpAny (model X.prog X.w) A (richCompare .Eq u v) (fun r s' => r = .bool b ∧ ∃ H', Inv X pins σ H' s' ∧ Same H H') X.xe s
section
variable {X : Cx} {n m : Nat} {D D' : Eqb}
theorem EqbX.mono (h : EqbX X n D) (hn : n ≤ m) : EqbX X m D := fun A pins s σ H x y u v b sb => h A pins s σ H x y u v b (sb.mono hn)
theorem RcbX.mono (h : RcbX X n D) (hn : n ≤ m) : RcbX X m D := fun A pins s σ H x y u v b sb => h A pins s σ H x y u v b (sb.mono hn)
theorem RcbX.or (h : RcbX X n D) (h' : RcbX X n D') : RcbX X n (fun x y H b => D x y H b ∨ D' x y H b) := fun A pins s σ H x y u v b sb I rx ry d =>
  d.elim (h A pins s σ H x y u v b sb I rx ry) (h' A pins s σ H x y u v b sb I rx ry)
theorem EqbX.or (h : EqbX X n D) (h' : EqbX X n D') : EqbX X n (fun x y H b => D x y H b ∨ D' x y H b) := fun A pins s σ H x y u v b sb I rx ry d =>
  d.elim (h A pins s σ H x y u v b sb I rx ry) (h' A pins s σ H x y u v b sb I rx ry)
/-- data -/
def BData (K : PySem.W.Frag) : Eqb := fun x y H b => ∃ d e, Dp K H x d ∧ Dp K H y e ∧ SeqAt.shaped d = true ∧ SeqAt.shaped e = true ∧ PyData.eqv d e = b
theorem rcb_data : RcbX X 1 (BData X.K) := by
  intro A pins s σ H x y u v b sb I rx ry hd
  obtain ⟨d, e, hx, hy, sd, se, rfl⟩ := hd
  obtain ⟨as, r1⟩ := Dp.reads I d x u hx rx
  obtain ⟨bs, r2⟩ := Dp.reads I e y v hy ry
  exact SeqAt.compareEq_shaped r1 r2 sd se sb.room.units ⟨rfl, H, I, fun _ _ h => h⟩
theorem mon_data {K : PySem.W.Frag} : MonB (BData K) := fun x y H H' b s h => by
  obtain ⟨d, e, hx, hy, r⟩ := h
  exact ⟨d, e, same_dp s hx, same_dp s hy, r⟩
/-- the same object equals itself within lists; other ones as by == -/
def BSame (D : Eqb) : Eqb := fun x y H b => (∃ a, x = .ref a ∧ y = .ref a ∧ b = true) ∨ ((∃ a c, x = .ref a ∧ y = .ref c ∧ a ≠ c) ∧ D x y H b)
theorem RcbX.eqb (h : RcbX X n D) : EqbX X n (BSame D) := by
  intro A pins s σ H x y u v b sb I rx ry d
  rcases d with ⟨a, rfl, rfl, rfl⟩ | ⟨⟨a, c, rfl, rfl, hne⟩, d⟩
  · cases rx
    cases ry
    exact SeqAt.EqAt.same (A := A) (s := s) (.ref a) X.prog X.w X.xe _ ⟨rfl, H, I, fun _ _ h => h⟩
  · cases rx
    cases ry
    refine GQ.eqBool_refG hne (wpAny_mono (h A pins s σ H (.ref a) (.ref c) _ _ b sb I rfl rfl d) (fun r s' q => ?_) fun _ _ x => x)
    obtain ⟨hr', q⟩ := q
    exact ⟨b, hr', rfl, q⟩
theorem mon_same (h : MonB D) : MonB (BSame D) := fun x y H H' b s d => d.imp id fun ⟨e, d⟩ => ⟨e, h x y H H' b s d⟩
/-- own objects of the class C -/
def BIns (K : PySem.W.Frag) (C : Addr) (R : Addr → V → Hp → Bool → Prop) : Eqb := fun x y H b => ∃ a dx fs, x = .ref a ∧ H a = some (.ins C dx fs) ∧ Side K H C y ∧ R a y H b
def spEqb (R : Addr → V → Hp → Bool → Prop) : Sp := fun vs H Q _ => ∃ a y b, vs = [.ref a, y] ∧ R a y H b ∧ ∀ H', Same H H' → Q (.bl b) H'
theorem Side.same {K : PySem.W.Frag} {H H' : Hp} {C : Addr} {y : V} (h : Side K H C y) (s : Same H H') : Side K H' C y := by
  cases h with
  | int i h => exact .int i h
  | bl b h => exact .bl b h
  | str x h => exact .str x h
  | non h => exact .non h
  | lst e h => exact .lst (s _ _ e) h
  | tup e h => exact .tup (s _ _ e) h
  | own e => exact .own (s _ _ e)
theorem mon_ins' {K : PySem.W.Frag} {C : Addr} {R : Addr → V → Hp → Bool → Prop} (hR : ∀ a y H H' b, Same H H' → R a y H b → R a y H' b) : MonB (BIns K C R) := fun x y H H' b s d => by
  obtain ⟨a, dx, fs, e, h, sd, r⟩ := d
  exact ⟨a, dx, fs, e, s _ _ h, sd.same s, hR a y H H' b s r⟩
theorem rcb_ins {C : Addr} {ps : List Str} {R : Addr → V → Hp → Bool → Prop} (O : EqO X.prog X.w X.K X.mg X.base C n ps (spEqb R)) : RcbX X n (BIns X.K C R) := by
  intro A pins s σ H x y u v b sb I rx ry d
  obtain ⟨a, dx, fs, rfl, ha, hy, hR⟩ := d
  obtain ⟨f, fd, F, hs, hf, hb⟩ := O.ex
  cases rx
  obtain ⟨tb, lk, nf⟩ := side_looks I ry hy
  obtain ⟨mA, J, _⟩ := ins_get I.hok ha
  obtain ⟨od, J, _⟩ := J.look
  obtain ⟨m, hF⟩ := I.fr
  refine PySem.W.cmp_K (op := .Eq) sb.room.units0 hF I.ok.mod.kin J lk nf hs hf ?_
  have hsp : spEqb R [.ref a, y] H (fun v H' => v = .bl b ∧ Same H H') C8.E0 := ⟨a, y, b, rfl, hR, fun H' e => ⟨rfl, e⟩⟩
  have e0 : Env0 X.prog X.w X.K X.mg X.base A X.stack s H := by
    have e := I.env0
    exact ⟨by rw [sb.fr]; exact e.frames, e.mod, e.bs, e.bsz, e.funs, e.frf, e.hok, e.bare⟩
  have hl := F.len _ _ _ _ hsp
  have r2 : Vals [V.ref a, y] [Value.ref a, v] := .cons rfl (.cons ry .nil)
  refine wpAny_call (codeAny_mono (F.run A X.stack s H ⟨[.ref a, v], []⟩ [.ref a, v] [.ref a, y] _ _ sb.room e0 (by
    have := hb s [.ref a, v] I.kIn (by simpa using hl)
    simpa using this) r2 hsp) fun r s' hq => ?_)
  cases r with
  | error e => exact pass0 pins σ H s e s' I hq
  | ok fl =>
    cases fl with
    | ret w =>
      obtain ⟨z, H', I', rz, ez, ex⟩ := I.after hq
      subst ez
      cases rz
      exact ⟨rfl, H', I', ex⟩
    | next => exact False.elim hq
    | brk => exact False.elim hq
    | cont => exact False.elim hq
/-- lists -/
def BList (D : Eqb) : Eqb := fun x y H b => ∃ a c xs ys, x = .ref a ∧ y = .ref c ∧ H a = some (.lst xs) ∧ H c = some (.lst ys) ∧
  ((xs.length ≠ ys.length ∧ b = false) ∨ (xs.length = ys.length ∧ ∃ bs : Nat → Bool, (∀ i x y, xs[i]? = some x → ys[i]? = some y → D x y H (bs i)) ∧ b = (List.range xs.length).all bs))
theorem mon_list' (h : MonB D) : MonB (BList D) := fun x y H H' b s d => by
  obtain ⟨a, c, xs, ys, e1, e2, h1, h2, d⟩ := d
  refine ⟨a, c, xs, ys, e1, e2, s _ _ h1, s _ _ h2, d.imp id fun ⟨l, bs, hb, e⟩ => ⟨l, bs, fun i x y k1 k2 => h x y H H' _ s (hb i x y k1 k2), e⟩⟩
def LoopB (X : Cx) (pins : List (Addr × Obj)) (σ : L2.St) (H : Hp) (s' : Shared) : Prop := ∃ H', Inv X pins σ H' s' ∧ Same H H'
theorem turnB (hD : MonB D) (h : EqbX X n D) {A : Around} (sb : Sub X (n + 1) A) {pins : List (Addr × Obj)} {σ : L2.St} {H : Hp} {xs ys : List V} {its its2 : List Value} {bs : Nat → Bool}
    (p : ∀ i x y, xs[i]? = some x → ys[i]? = some y → D x y H (bs i)) (r : Vals xs its) (r2 : Vals ys its2)
    (i : Nat) (h1 : i < its.toArray.size) (h2 : i < its2.toArray.size) (s' : Shared) (l : LoopB X pins σ H s') :
    wpAny (model X.prog X.w) A.in1 (eqBool its.toArray[i] its2.toArray[i]) (fun r s2 => r = bs i ∧ LoopB X pins σ H s2) X.xe s' := by
  obtain ⟨H1, I1, e1⟩ := l
  have g1 : its[i]? = some its.toArray[i] := by
    have h1' : i < its.length := by simpa using h1
    rw [List.getElem?_eq_getElem h1'] <;> simp
  have g2 : its2[i]? = some its2.toArray[i] := by
    have h2' : i < its2.length := by simpa using h2
    rw [List.getElem?_eq_getElem h2'] <;> simp
  have k1 : i < xs.length := by rw [r.length]; simpa using h1
  have k2 : i < ys.length := by rw [r2.length]; simpa using h2
  obtain ⟨u, hu, ru⟩ := r.get (List.getElem?_eq_getElem k1)
  obtain ⟨v, hv, rv⟩ := r2.get (List.getElem?_eq_getElem k2)
  rw [g1] at hu
  rw [g2] at hv
  rw [Option.some.inj hu, Option.some.inj hv]
  refine wpAny_mono (h A.in1 pins s' σ H1 _ _ u v (bs i) sb.in1 I1 ru rv (hD _ _ _ _ _ e1 (p i _ _ (List.getElem?_eq_getElem k1) (List.getElem?_eq_getElem k2)))) (fun r s2 q => ?_) fun _ _ x => x
  obtain ⟨hr, H2, I2, e2⟩ := q
  exact ⟨hr, H2, I2, e1.trans e2⟩
theorem rcb_list (hD : MonB D) (h : EqbX X n D) : RcbX X (n + 1) (BList D) := by
  intro A pins s σ H x y u v b sb I rx ry d
  obtain ⟨a, c, xs, ys, rfl, rfl, ha, hc, d⟩ := d
  cases rx
  cases ry
  rcases d with ⟨hne, rfl⟩ | ⟨hl, bs, hb, rfl⟩
  · obtain ⟨z, its, k, r, e⟩ := I.hok a _ ha
    obtain ⟨z2, its2, k2, r2, e2⟩ := I.hok c _ hc
    exact rc_listD sb.room.units0 e e2 (by rw [List.size_toArray, List.size_toArray, ← r.length, ← r2.length]; exact hne) ⟨rfl, H, I, fun _ _ h => h⟩
  · refine rc_listB (N := xs.length) (bs := bs) sb.room.units0 (fun s' => LoopB X pins σ H s') (fun s' q => ?_) (fun s' q => ⟨rfl, q⟩) ⟨H, I, fun _ _ h => h⟩
    obtain ⟨H1, I1, e1⟩ := id q
    obtain ⟨z, its, k, r, e⟩ := I1.hok a _ (e1 _ _ ha)
    obtain ⟨z2, its2, k2, r2, e2⟩ := I1.hok c _ (e1 _ _ hc)
    refine ⟨its.toArray, its2.toArray, k, k2, e, e2, by rw [List.size_toArray, ← r.length], by rw [List.size_toArray, ← r2.length, hl], fun i h1 h2 => ?_⟩
    exact turnB hD h sb hb r r2 i h1 h2 s' q
/-- x == y as an expression -/
def rEqb (D : Eqb) : R2 := fun x y H Q => ∃ b, D x y H b ∧ ∀ H', Same H H' → Q (.bl b) H'
theorem op_eqb (h : RcbX X n D) (hr : Room n X.A) : OpR X (compareOp .Eq) (rEqb D) := by
  intro pins s σ H x y v u Q I rx ry hq
  obtain ⟨b, d, q⟩ := hq
  show wpAny (model X.prog X.w) X.A (richCompare .Eq v u) (EP X pins σ Q) X.xe s
  refine wpAny_mono (h X.A pins s σ H x y v u b ⟨hr, rfl⟩ I rx ry d) (fun r s' z => ?_) fun _ _ x => x
  obtain ⟨hr', H', I', e⟩ := z
  subst hr'
  exact ⟨.bl b, H', I', rfl, q H' e⟩
/-- the class's != is that of object -/
structure NeO (K : PySem.W.Frag) (C : Addr) : Prop where
  ne : PySem.W.findIn K (.ref C) "__ne__" = some (some (.builtin "object.__ne__"))
  so : PySem.W.subIn K (.ref C) (.type "object") = some true
/-- x != y by an own __eq__ -/
def rNeO (K : PySem.W.Frag) (C : Addr) (R : Addr → V → Hp → Bool → Prop) : R2 := fun x y H Q => ∃ b, BIns K C R x y H b ∧ ∀ H', Same H H' → Q (.bl (!b)) H'
theorem op_neO {C : Addr} {ps : List Str} {R : Addr → V → Hp → Bool → Prop} (O : EqO X.prog X.w X.K X.mg X.base C n ps (spEqb R)) (N : NeO X.K C) (hr : Room (n + 1) X.A) : OpR X (compareOp .NotEq) (rNeO X.K C R) := by
  intro pins s σ H x y v u Q I rx ry h
  obtain ⟨b, ⟨a, dx, fs, rfl, ha, hy, hR⟩, q⟩ := h
  obtain ⟨f, fd, F, hs, hf, hb⟩ := O.ex
  cases rx
  obtain ⟨tb, lk, nf⟩ := side_looks I ry hy
  obtain ⟨mA, J, _⟩ := ins_get I.hok ha
  obtain ⟨od, J, _⟩ := J.look
  obtain ⟨m, hF⟩ := I.fr
  show wpAny (model X.prog X.w) X.A (richCompare .NotEq (.ref a) u) (EP X pins σ Q) X.xe s
  have hu1 : X.A.units + 1 < cLine := by have := hr.units; omega
  refine cmp_ne hu1 hF I.ok.mod.kin J lk nf N.ne N.so hs hf ?_
  have hsp : spEqb R [.ref a, y] H (fun v H' => v = .bl b ∧ Same H H') C8.E0 := ⟨a, y, b, rfl, hR, fun H' e => ⟨rfl, e⟩⟩
  have sb : Sub X n X.A.in1 := Sub.in1 ⟨hr, rfl⟩
  have e0 : Env0 X.prog X.w X.K X.mg X.base X.A.in1 X.stack s H := by
    have e := I.env0
    exact ⟨by rw [sb.fr]; exact e.frames, e.mod, e.bs, e.bsz, e.funs, e.frf, e.hok, e.bare⟩
  have hl := F.len _ _ _ _ hsp
  have r2 : Vals [V.ref a, y] [Value.ref a, u] := .cons rfl (.cons ry .nil)
  refine wpAny_call (codeAny_mono (F.run X.A.in1 X.stack s H ⟨[.ref a, u], []⟩ [.ref a, u] [.ref a, y] _ _ sb.room e0 (by
    have := hb s [.ref a, u] I.kIn (by simpa using hl)
    simpa using this) r2 hsp) fun r s' hq => ?_)
  cases r with
  | error e => exact pass0 pins σ H s e s' I hq
  | ok fl =>
    cases fl with
    | ret w =>
      obtain ⟨z, H', I', rz, ez, ex⟩ := I.after hq
      subst ez
      cases rz
      exact ⟨b, rfl, .bl (!b), H', I', rfl, q H' ex⟩
    | next => exact False.elim hq
    | brk => exact False.elim hq
    | cont => exact False.elim hq
/-- x in a list -/
def rInB (D : Eqb) : R2 := fun x y H Q => ∃ l xs, y = .ref l ∧ H l = some (.lst xs) ∧ ∃ bs : Nat → Bool, (∀ i z, xs[i]? = some z → D z x H (bs i)) ∧ ∀ H', Same H H' → Q (.bl ((List.range xs.length).any bs)) H'
theorem op_inB (hD : MonB D) (h : EqbX X n D) (hr : Room (n + 1) X.A) : OpR X (compareOp .In) (rInB D) := by
  intro pins s σ H x y v u Q I rx ry hq
  obtain ⟨l, xs, rfl, hl, bs, hb, q⟩ := hq
  cases ry
  have key : ContB X.prog X.w X.A (fun e s' => wants (fun v s' => ∃ b, v = .bool b ∧ EP X pins σ Q (.bool b) s') X.xe (.error e) s') l v xs.length bs (fun s' => LoopB X pins σ H s') := by
    intro s' hI
    obtain ⟨H1, I1, e1⟩ := id hI
    obtain ⟨z, its, k, r, e⟩ := I1.hok l _ (e1 _ _ hl)
    refine ⟨its.toArray, k, e, by rw [List.size_toArray, ← r.length], fun i h1 => ?_⟩
    have h1' : i < its.length := by simpa using h1
    have g1 : its[i]? = some its.toArray[i] := by rw [List.getElem?_eq_getElem h1'] <;> simp
    have k1 : i < xs.length := by rw [r.length]; simpa using h1
    obtain ⟨u, hu, ru⟩ := r.get (List.getElem?_eq_getElem k1)
    rw [g1] at hu
    rw [Option.some.inj hu]
    refine wpAny_mono (h X.A.in1 pins s' σ H1 _ x u v (bs i) (Sub.in1 ⟨hr, rfl⟩) I1 ru rx (hD _ _ _ _ _ e1 (hb i _ (List.getElem?_eq_getElem k1)))) (fun r s2 q => ?_) fun _ _ x => x
    obtain ⟨hr, H2, I2, e2⟩ := q
    exact ⟨hr, H2, I2, e1.trans e2⟩
  obtain ⟨z, its, k, r, e⟩ := I.hok l _ hl
  show wpAny (model X.prog X.w) X.A (do return Value.bool (← contains (.ref l) v)) (EP X pins σ Q) X.xe s
  refine wpAny_bind (wpAny_contains_slot ⟨_, e, rfl⟩ F.slot_list_contains (wpAny_mono (Q := fun v s' => ∃ b, v = .bool b ∧ EP X pins σ Q (.bool b) s') (GQ.call_here F.slot_list_contains ⟨_, e, rfl⟩ F.entry_list_contains (F.args_list_contains_2 _ _)
    (list_contB (R := wants (fun v s' => ∃ b, v = .bool b ∧ EP X pins σ Q (.bool b) s') X.xe) l v xs.length bs (fun s' => LoopB X pins σ H s') key (fun s' hI => ?_) ⟨H, I, fun _ _ h => h⟩)) (fun v s' hv => ?_) fun _ _ e => e))
  · obtain ⟨H', I', e'⟩ := hI
    exact ⟨_, rfl, .bl _, H', I', rfl, q H' e'⟩
  · obtain ⟨b, rfl, hq⟩ := hv
    exact wpAny_truthy_bool (wpAny_pure hq)
end
/-! ### steps -/
section
variable {H : Hp} {Q : VK} {D : Eqb} {K : PySem.W.Frag} {x y : V}
theorem w_eqb {b : Bool} (d : D x y H b) (k : ∀ H', Same H H' → Q (.bl b) H') : rEqb D x y H Q := ⟨b, d, k⟩
theorem w_neO {C : Addr} {R : Addr → V → Hp → Bool → Prop} {b : Bool} (d : BIns K C R x y H b) (k : ∀ H', Same H H' → Q (.bl (!b)) H') : rNeO K C R x y H Q := ⟨b, d, k⟩
end
/-- either reading of an operator -/
def rOr (r r' : R2) : R2 := fun x y H Q => r x y H Q ∨ r' x y H Q
theorem op_or {X : Cx} {f : Value → Value → Sem Value} {r r' : R2} (h : OpR X f r) (h' : OpR X f r') : OpR X f (rOr r r') := fun pins s σ H x y v u Q I rx ry q =>
  q.elim (h pins s σ H x y v u Q I rx ry) (h' pins s σ H x y v u Q I rx ry)
/-- a class whose instances isinstance knows -/
structure Kls (K : PySem.W.Frag) (C : Addr) : Prop where
  cl : Cls K C
  ha : PySem.W.findIn K (.ref C) "__class__" = some (some (.builtin "object.__class__"))
  hn : PySem.W.specialIn K (.builtin "object.__class__") "__get__" = some (some (.builtin "getset_descriptor.__get__"))
  htk : PySem.W.takesIn K (.builtin "object.__class__") = some true
  hm : PySem.W.mroIn K C (.type "object") = some true
theorem Kls.ty {K : PySem.W.Frag} {H : Hp} {C a dx : Addr} {fs : List (Str × V)} (k : Kls K C) (h : H a = some (.ins C dx fs)) : TyX K H (.ref a) (.ref C) := .base (.ins h k.cl k.ha k.hn k.htk k.hm)
theorem kit_self {K : PySem.W.Frag} {C : Addr} : PySem.W.kitOne K (.ref C) (.ref C) = some true := by
  unfold PySem.W.kitOne
  rw [if_pos (beq_self_eq_true _)]
/-- no instance of C -/
def NotC (K : PySem.W.Frag) (H : Hp) (C : Addr) (y : V) : Prop := ∃ tv, TyX K H y tv ∧ PySem.W.kitOne K tv (.ref C) = some false
/-- what isinstance(x, C) says of the plain kinds -/
structure PlainNot (K : PySem.W.Frag) (C : Addr) : Prop where
  k : ∀ tv ∈ (["int", "bool", "str", "NoneType", "list", "tuple"] : List String), PySem.W.kitOne K (.type tv) (.ref C) = some false ∧ PySem.W.notFirst K C (.type tv) = true
def plainNotB (K : PySem.W.Frag) (C : Addr) : Bool := (["int", "bool", "str", "NoneType", "list", "tuple"] : List String).all fun tv => decide (PySem.W.kitOne K (.type tv) (.ref C) = some false) && PySem.W.notFirst K C (.type tv)
theorem plainNotB_ok {K : PySem.W.Frag} {C : Addr} (h : plainNotB K C = true) : PlainNot K C := ⟨fun tv ht => by
  unfold plainNotB at h
  rw [List.all_eq_true] at h
  have := h tv ht
  simp only [Bool.and_eq_true, decide_eq_true_eq] at this
  exact this⟩
theorem PlainNot.of {K : PySem.W.Frag} {H : Hp} {C : Addr} {y : V} (p : PlainNot K C) (h : Thg H y) : NotC K H C y ∧ Side K H C y := by
  cases h with
  | non => exact ⟨⟨_, tyx_non, (p.k _ (by simp)).1⟩, .non (p.k _ (by simp)).2⟩
  | int i => exact ⟨⟨_, tyx_int, (p.k _ (by simp)).1⟩, .int _ (p.k _ (by simp)).2⟩
  | bl b => exact ⟨⟨_, tyx_bl, (p.k _ (by simp)).1⟩, .bl _ (p.k _ (by simp)).2⟩
  | str x => exact ⟨⟨_, tyx_str, (p.k _ (by simp)).1⟩, .str _ (p.k _ (by simp)).2⟩
  | lst e => exact ⟨⟨_, tyx_lst e, (p.k _ (by simp)).1⟩, .lst e (p.k _ (by simp)).2⟩
  | tup e => exact ⟨⟨_, tyx_tup e, (p.k _ (by simp)).1⟩, .tup e (p.k _ (by simp)).2⟩
theorem w_isiO {K : PySem.W.Frag} {H : Hp} {C : Addr} {y : V} {tv : Value} {k : Bool} {Q : VK} (h : TyX K H y tv) (hk : PySem.W.kitOne K tv (.ref C) = some k) (q : Q (.bl k) H) : rIsi K [y, .ref C] H Q := w_isi (.own C) h hk q
end Bw

namespace Bw
open PySem PySem.Spec PyProof.Rows L2 LamX
section
variable {K : PySem.W.Frag} {H : Hp} {Q : VK}
theorem dpAll_ix : ∀ {xs : List V} {ds : List PyData}, xs.length = ds.length → (∀ (i : Nat) x d, xs[i]? = some x → ds[i]? = some d → Dp K H x d) → DpAll K H xs ds
  | [], [], _, _ => .nil
  | [], _ :: _, h, _ => by cases h
  | _ :: _, [], h, _ => by cases h
  | x :: xs, d :: ds, h, k => .cons (k 0 x d rfl rfl) (dpAll_ix (by simpa using h) fun i y e h1 h2 => k (i + 1) y e h1 h2)
theorem w_rep {l : Addr} {xs : List V} {n : Int} (h : H l = some (.lst xs)) (h0 : -1000 ≤ n) (h1 : n ≤ 100000) (hl : xs.length * n.toNat ≤ 100000) (k : ∀ p H2, H p = none → Same H H2 → H2 p = some (.lst (List.replicate n.toNat xs).flatten) → Q (.ref p) H2) : rRep (.ref l) (.int n) H Q :=
  ⟨l, n, xs, rfl, rfl, h, by omega, by omega, Nat.le_trans hl (by decide), fun p np => k p _ np (same_new np) upd_same⟩
/-- a list is the empty one -/
theorem w_eqNil {x y : V} {ds : List PyData} {n : Nat} (hx : Dp K H x (.list ds)) (hy : Dp K H y (.list [])) (g : GoodD (.list ds) n) (hn : n ≤ 64) (q : Q (.bl ds.isEmpty) H) : rEqD K x y H Q := by
  refine w_eqD hx hy (g.shaped hn) (by simp [SeqAt.shaped, PyData.canLay0, PyData.canLayAll0, PyData.depth, PyData.depthAll]) (k := ds.isEmpty) ?_ q
  cases ds <;> simp [PyData.eqv, PyData.eqvAll]
theorem w_neNil {x y : V} {ds : List PyData} {n : Nat} (hx : Dp K H x (.list ds)) (hy : Dp K H y (.list [])) (g : GoodD (.list ds) n) (hn : n ≤ 64) (q : Q (.bl (!ds.isEmpty)) H) : rNeD K x y H Q := by
  refine w_neD hx hy (g.shaped hn) (by simp [SeqAt.shaped, PyData.canLay0, PyData.canLayAll0, PyData.depth, PyData.depthAll]) (k := ds.isEmpty) ?_ q
  cases ds <;> simp [PyData.eqv, PyData.eqvAll]
/-- a reading whose answer is known, what is behind it once -/
theorem w_val {te : TE} {σ : L2.St} {v : V} {H' : Hp} (h : ∀ Q' : VK, Q' v H' → te σ H Q') (k : Q v H') : te σ H Q := h Q k
theorem tyx_same {H' : Hp} {v : V} {t : Value} (h : TyX K H v t) (s : Same H H') : TyX K H' v t := by
  cases h with
  | base h =>
    refine .base ?_
    cases h with
    | non => exact .non
    | bl x => exact .bl x
    | int i => exact .int i
    | str x => exact .str x
    | flt x => exact .flt x
    | lst e => exact .lst (s _ _ e)
    | frz e => exact .frz (s _ _ e)
    | tup e => exact .tup (s _ _ e)
    | dK e => exact .dK (s _ _ e)
    | dT e => exact .dT (s _ _ e)
    | ins e cl ha hn htk hm => exact .ins (s _ _ e) cl ha hn htk hm
  | byt b => exact .byt b
  | set e => exact .set (s _ _ e)
  | kList e c => exact .kList e c
  | kTuple e c => exact .kTuple e c
  | kDict e c => exact .kDict e c
  | fTuple e => exact .fTuple (s _ _ e)
  | fDict e => exact .fDict (s _ _ e)
end
end Bw

/-! len, str, repr by own methods -/
namespace Bw
open PySem PySem.Spec PyProof.Rows L2 LamX
/-- a class's own special method m -/
structure Spc (P : Program) (w : World) (K : PySem.W.Frag) (mg : Str → Option Value) (base : Heap) (C : Addr) (m : Str) (k : Nat) (ps : List Str) (sp : Sp) : Prop where
  ex : ∃ (f : Addr) (fd : FuncData), FnOk P w K mg base CX0 k f fd ps sp ∧ PySem.W.findIn K (.ref C) m = some (some (.ref f)) ∧ PySem.W.isFn K (.ref f) = true ∧ Binds K fd ps []
section
variable {X : Cx}
theorem run_spc {k : Nat} {f : Addr} {fd : FuncData} {ps : List Str} {sp : Sp} {A : Around} {pins : List (Addr × Obj)} {σ : L2.St} {H : Hp} {s : Shared} {a : Addr} {Q : VK} (F : FnOk X.prog X.w X.K X.mg X.base CX0 k f fd ps sp) (hb : Binds X.K fd ps []) (sb : Sub X k A) (I : L2.Inv X pins σ H s) (h : sp [.ref a] H Q C8.E0) :
    wpAny (model X.prog X.w) A (call (.ref f) [.ref a]) (EP X pins σ Q) X.xe s := by
  have e0 : Env0 X.prog X.w X.K X.mg X.base A X.stack s H := by
    have e := I.env0
    exact ⟨by rw [sb.fr]; exact e.frames, e.mod, e.bs, e.bsz, e.funs, e.frf, e.hok, e.bare⟩
  have hl := F.len _ _ _ _ h
  have r2 : Vals [V.ref a] [Value.ref a] := .cons rfl .nil
  refine wpAny_call (codeAny_mono (F.run A X.stack s H ⟨[.ref a], []⟩ [.ref a] [.ref a] _ _ sb.room e0 (by
    have := hb s [.ref a] I.kIn (by simpa using hl)
    simpa using this) r2 h) fun r s' hq => ?_)
  cases r with
  | error e => exact pass0 pins σ H s e s' I hq
  | ok fl =>
    cases fl with
    | ret w => exact I.after hq
    | next => exact False.elim hq
    | brk => exact False.elim hq
    | cont => exact False.elim hq
/-- len(o) -/
def rLenO (C : Addr) (sp : Sp) : List V → Hp → VK → Prop := fun xs H Q => ∃ a dx fs, xs = [.ref a] ∧ H a = some (.ins C dx fs) ∧ sp [.ref a] H (fun v H' => ∃ n : Nat, v = .int n ∧ n < 2 ^ 63 ∧ Q (.int n) H') C8.E0
theorem cl_lenO {C : Addr} {k : Nat} {ps : List Str} {sp : Sp} (O : Spc X.prog X.w X.K X.mg X.base C "__len__" k ps sp) (hr : Room (k + 1) X.A) : CallR X (.builtin "len") (rLenO C sp) := by
  intro pins s σ H xs us Q I rv h
  obtain ⟨a, dx, fs, rfl, ha, hsp⟩ := h
  obtain ⟨f, fd, F, hs, hf, hb⟩ := O.ex
  cases rv with
  | cons r0 rt =>
    cases rt
    cases r0
    obtain ⟨mA, J, _⟩ := ins_get I.hok ha
    obtain ⟨od, J, _⟩ := J.look
    obtain ⟨m, hF⟩ := I.fr
    refine PySem.W.len_K hF I.ok.mod.kin J hs hf (wpAny_mono (run_spc F hb (Sub.in1 ⟨hr, rfl⟩) I hsp) (fun u s' hq => ?_) fun _ _ e => e)
    obtain ⟨v, H', I', rz, n, rfl, hn, q⟩ := hq
    obtain ⟨t, rfl⟩ := rz
    exact ⟨⟨by omega, by omega⟩, .int n, H', I'.tok _, ⟨_, rfl⟩, q⟩
/-- repr(o), str(o) -/
def rTxtO (C : Addr) (sp : Sp) : List V → Hp → VK → Prop := fun xs H Q => ∃ a dx fs, xs = [.ref a] ∧ H a = some (.ins C dx fs) ∧ sp [.ref a] H (fun v H' => ∃ x : Str, v = .str x ∧ Q (.str x) H') C8.E0
theorem cl_reprO {C : Addr} {k : Nat} {ps : List Str} {sp : Sp} (O : Spc X.prog X.w X.K X.mg X.base C "__repr__" k ps sp) (hr : Room (k + 1) X.A) : CallR X (.builtin "repr") (rTxtO C sp) := by
  intro pins s σ H xs us Q I rv h
  obtain ⟨a, dx, fs, rfl, ha, hsp⟩ := h
  obtain ⟨f, fd, F, hs, hf, hb⟩ := O.ex
  cases rv with
  | cons r0 rt =>
    cases rt
    cases r0
    obtain ⟨mA, J, _⟩ := ins_get I.hok ha
    obtain ⟨od, J, _⟩ := J.look
    obtain ⟨m, hF⟩ := I.fr
    refine PySem.W.repr_K (Sub.in1 (X := X) ⟨hr, rfl⟩).room.units0 hF I.ok.mod.kin J hs hf (wpAny_mono (run_spc F hb (Sub.in1 ⟨hr, rfl⟩) I hsp) (fun u s' hq => ?_) fun _ _ e => e)
    obtain ⟨v, H', I', rz, x, rfl, q⟩ := hq
    obtain ⟨t, rfl⟩ := rz
    exact ⟨.str x, H', I', ⟨_, rfl⟩, q⟩
theorem cl_strO {C : Addr} {k : Nat} {ps : List Str} {sp : Sp} (O : Spc X.prog X.w X.K X.mg X.base C "__str__" k ps sp) (hr : Room (k + 2) X.A) : CallR X (.type "str") (rTxtO C sp) := by
  intro pins s σ H xs us Q I rv h
  obtain ⟨a, dx, fs, rfl, ha, hsp⟩ := h
  obtain ⟨f, fd, F, hs, hf, hb⟩ := O.ex
  cases rv with
  | cons r0 rt =>
    cases rt
    cases r0
    obtain ⟨mA, J, _⟩ := ins_get I.hok ha
    obtain ⟨od, J, _⟩ := J.look
    have sb : Sub X k X.A.in1.in1 := Sub.in1 (Sub.in1 ⟨hr, rfl⟩)
    refine PySem.W.kso_call sb.room.units0 I.kIn J hs hf (wpAny_mono (run_spc F hb sb I hsp) (fun u s' hq => ?_) fun _ _ e => e)
    obtain ⟨v, H', I', rz, x, rfl, q⟩ := hq
    obtain ⟨t, rfl⟩ := rz
    exact ⟨.str x, H', I', ⟨_, rfl⟩, q⟩
/-- either reading of a call -/
def rOrC (r r' : List V → Hp → VK → Prop) : List V → Hp → VK → Prop := fun xs H Q => r xs H Q ∨ r' xs H Q
theorem cl_or {f : Value} {r r' : List V → Hp → VK → Prop} (h : CallR X f r) (h' : CallR X f r') : CallR X f (rOrC r r') := fun pins s σ H xs us Q I rv q =>
  q.elim (h pins s σ H xs us Q I rv) (h' pins s σ H xs us Q I rv)
def tJoin (ts : List TE) : TE := fun σ H Q => tJs ts Str.empty σ H fun out H1 => Q (.str out) H1
theorem pe_fj {v1 v2 : Expr} {rest : List Expr} {ts : List TE} {pos : Pos} (h : PJ X (v1 :: v2 :: rest) ts) : PE X (.JoinedStr (v1 :: v2 :: rest) pos) (tJoin ts) := pe_joined h
end
theorem u1_of {k : Nat} {A : Around} (r : Room k A) : A.units + 1 < cLine := by have := r.un; omega
section
variable {σ : L2.St} {H : Hp} {Q : VK} {te : TE}
theorem w_lenO {C a dx : Addr} {fs : List (Str × V)} {sp : Sp} (h : H a = some (.ins C dx fs)) (k : sp [.ref a] H (fun v H' => ∃ n : Nat, v = .int n ∧ n < 2 ^ 63 ∧ Q (.int n) H') C8.E0) : rLenO C sp [.ref a] H Q := ⟨a, dx, fs, rfl, h, k⟩
theorem w_txtO {C a dx : Addr} {fs : List (Str × V)} {sp : Sp} (h : H a = some (.ins C dx fs)) (k : sp [.ref a] H (fun v H' => ∃ x : Str, v = .str x ∧ Q (.str x) H') C8.E0) : rTxtO C sp [.ref a] H Q := ⟨a, dx, fs, rfl, h, k⟩
theorem w_fmtE (h : te σ H fun x H1 => (∃ y : Str, x = .str y ∧ y.length ≤ sizeLine ∧ Q (.str y) H1) ∨ ∃ i : Int, x = .int i ∧ i.natAbs.log2 < 1920 ∧ Q (.str (toString i)) H1) : tFmt te σ H Q := h
theorem w_fmtS {y : Str} {R : V → Prop} (hl : y.length ≤ sizeLine) (q : R (.str y)) : (∃ z : Str, V.str y = .str z ∧ z.length ≤ sizeLine ∧ R (.str z)) ∨ ∃ i : Int, V.str y = .int i ∧ i.natAbs.log2 < 1920 ∧ R (.str (toString i)) := .inl ⟨y, rfl, hl, q⟩
theorem w_fmtI {i : Int} {R : V → Prop} (h : i.natAbs < 2 ^ 1919) (q : R (.str (toString i))) : (∃ z : Str, V.int i = .str z ∧ z.length ≤ sizeLine ∧ R (.str z)) ∨ ∃ j : Int, V.int i = .int j ∧ j.natAbs.log2 < 1920 ∧ R (.str (toString j)) :=
  .inr ⟨i, rfl, PySem.Flt.log2_lt_of (by decide) (Nat.lt_of_lt_of_le h (Nat.pow_le_pow_right (by decide) (by decide))), q⟩
theorem w_fmtRE (h : te σ H fun x H1 => (∃ y : Str, x = .str y ∧ (reprText y).length ≤ sizeLine ∧ Q (.str (reprText y)) H1) ∨ ∃ i : Int, x = .int i ∧ i.natAbs.log2 < 1920 ∧ Q (.str (toString i)) H1) : tFmtR te σ H Q := h
theorem w_isB {a b : Bool} (q : Q (.bl (decide (a = b))) H) : rIsB (.bl a) (.bl b) H Q := ⟨a, b, rfl, rfl, q⟩
theorem w_isnB {a b : Bool} (q : Q (.bl (!decide (a = b))) H) : rNotB (.bl a) (.bl b) H Q := ⟨a, b, rfl, rfl, q⟩
theorem w_dget2 {td ty tx : TE} (h : td σ H fun x H1 => ∃ a, x = .ref a ∧ IsD H1 a ∧ ty σ H1 fun y H2 => tx σ H2 fun z H3 => ∃ o, DGet H3 a y o ∧ Q (o.getD z) H3) : tDGet2 td ty tx σ H Q := h
theorem w_dgetK {a : Addr} {kvs : List (Key × V)} {k : Key} {y z : V} {R : V → Prop} (h : H a = some (.dK kvs)) (hy : y = kV k) (q : R ((valV kvs k).getD z)) : ∃ o, DGet H a y o ∧ R (o.getD z) := ⟨valV kvs k, .inl ⟨kvs, k, .inl h, hy, rfl⟩, q⟩
theorem w_joinE {ts : List TE} (h : tJs ts Str.empty σ H fun out H1 => Q (.str out) H1) : tJoin ts σ H Q := h
theorem w_js {t : TE} {ts : List TE} {acc : Str} {QS : Str → Hp → Prop} (h : t σ H fun x H1 => ∃ y : Str, x = .str y ∧ (acc ++ y).length ≤ sizeLine ∧ tJs ts (acc ++ y) σ H1 QS) : tJs (t :: ts) acc σ H QS := h
theorem w_jn {acc : Str} {QS : Str → Hp → Prop} (h : QS acc H) : tJs [] acc σ H QS := h
theorem w_jt {acc y : Str} {R : Str → Prop} (hl : acc.length + y.length ≤ sizeLine) (h : R y) : ∃ z : Str, V.str y = .str z ∧ (acc ++ z).length ≤ sizeLine ∧ R z := ⟨y, rfl, by rw [Str.length_append]; exact hl, h⟩
end
end Bw

/-! words and texts of words, plainly -/
namespace Bw
open PySem PySem.Spec PyProof.Rows L2 LamX
def abc : Str := "abcdefghijklmnopqrstuvwxyz"
def isW (x : Str) : Bool := decide (1 ≤ x.length ∧ x.length ≤ 12) && x.cps.toList.all fun c => decide (c ∈ abc.cps.toList)
def isWV : V → Bool
  | .str x => isW x
  | _ => false
def okWs (ws : List Str) : Bool := decide (ws.length ≤ 120) && ws.all isW
def okVs (xs : List V) : Bool := decide (xs.length ≤ 120) && xs.all isWV
theorem okVs_str (ws : List Str) : okVs (ws.map V.str) = okWs ws := by
  unfold okVs okWs
  rw [List.length_map, List.all_map]
  rfl
theorem strs_of : ∀ {xs : List V}, xs.all isWV = true → ∃ ws : List Str, xs = ws.map V.str
  | [], _ => ⟨[], rfl⟩
  | x :: r, h => by
    rw [List.all_cons, Bool.and_eq_true] at h
    obtain ⟨ws, rfl⟩ := strs_of h.2
    cases x with
    | str y => exact ⟨y :: ws, rfl⟩
    | _ => exact absurd h.1 (by unfold isWV; exact Bool.noConfusion)
theorem okVs_of {xs : List V} (h : okVs xs = true) : ∃ ws : List Str, xs = ws.map V.str ∧ okWs ws = true := by
  have h2 := h
  unfold okVs at h2
  rw [Bool.and_eq_true] at h2
  obtain ⟨ws, rfl⟩ := strs_of h2.2
  exact ⟨ws, rfl, (okVs_str ws) ▸ h⟩
def wsOf (x : Str) : List Str := if x = "" then [] else Txt.split x " "
theorem split_bounds (x : Str) (h : x.length ≤ 40000) : (wsOf x).length ≤ 50000 ∧ ∀ y ∈ wsOf x, y.length ≤ 100000 := by
  unfold wsOf
  split
  · simp
  · have h1 := PyProof.Rows.split_weight x " " (Nat.le_refl 1)
    refine ⟨by omega, fun y hy => ?_⟩
    have h2 := le_sum (List.mem_map.mpr ⟨y, hy, rfl⟩ : y.length ∈ (Txt.split x " ").map (·.length))
    omega
theorem txtv_strs {H : Hp} {ws : List Str} (h : ∀ y ∈ ws, y.length ≤ 100000) : ∀ x ∈ ws.map V.str, TxtV H x := fun x hx => by
  obtain ⟨y, hy, rfl⟩ := List.mem_map.mp hx
  exact .inl ⟨y, rfl, h y hy⟩
theorem isW_len {x : Str} (h : isW x = true) : x.length ≤ 12 := by
  unfold isW at h
  simp only [Bool.and_eq_true, decide_eq_true_eq] at h
  exact h.1.2
theorem ok_bounds {ws : List Str} (h : okWs ws = true) : ws.length ≤ 120 ∧ (∀ y ∈ ws, y.length ≤ 12) ∧ (ws.map (·.length)).sum ≤ 1440 := by
  unfold okWs at h
  simp only [Bool.and_eq_true, decide_eq_true_eq, List.all_eq_true] at h
  have h2 : ∀ y ∈ ws, y.length ≤ 12 := fun y hy => isW_len (h.2 y hy)
  refine ⟨h.1, h2, ?_⟩
  have h3 := sum_le (l := ws.map (·.length)) (c := 12) (fun x hx => by
    obtain ⟨y, hy, rfl⟩ := List.mem_map.mp hx
    exact h2 y hy)
  rw [List.length_map] at h3
  omega
theorem isW_strOk {x : Str} (h : isW x = true) : PyData.strOk x = true := by
  unfold isW at h
  simp only [Bool.and_eq_true, decide_eq_true_eq, List.all_eq_true] at h
  unfold PyData.strOk
  rw [Array.all_eq_true']
  intro c hc
  have h1 := h.2 c (Array.mem_toList_iff.mpr hc)
  have h2 : ∀ c ∈ abc.cps.toList, c < 0x110000 := by decide +kernel
  exact decide_eq_true (h2 c h1)
theorem okWs_all {ws : List Str} (h : okWs ws = true) : ∀ b ∈ ws, isW b = true := by
  unfold okWs at h
  simp only [Bool.and_eq_true, decide_eq_true_eq, List.all_eq_true] at h
  exact h.2
theorem ok_strs {ws : List Str} (h : okWs ws = true) : ∀ b ∈ ws, PyData.strOk b = true := fun b hb => isW_strOk (okWs_all h b hb)
theorem join_ws (x : Str) : Txt.join " " (wsOf x) = x := by
  unfold wsOf
  split
  · rename_i h
    rw [h]
    rfl
  · rw [txt_join]
    exact StrLaws.join_split x " "
theorem join_ne {ws : List Str} (h : ∀ b ∈ ws, isW b = true) (hn : ws ≠ []) : Txt.join " " ws ≠ "" := by
  intro e
  rw [txt_join] at e
  cases ws with
  | nil => exact hn rfl
  | cons b r =>
    have h1 := PyProof.Rows.len_join_cons " " b r
    rw [e] at h1
    have h2 := h b List.mem_cons_self
    unfold isW at h2
    simp only [Bool.and_eq_true, decide_eq_true_eq] at h2
    have h3 : ("" : Str).length = 0 := rfl
    rw [h3] at h1
    simp only [List.map_cons, List.sum_cons] at h1
    omega
theorem ws_join {ws : List Str} (h : ∀ b ∈ ws, isW b = true) : wsOf (Txt.join " " ws) = ws := by
  unfold wsOf
  cases hw : ws with
  | nil => rfl
  | cons b r =>
    rw [← hw, if_neg (join_ne h (by rw [hw]; simp))]
    refine TL.split_join (s := 32) (S := []) rfl (by decide +kernel) (by rw [hw]; simp) (fun p hp z => ?_)
    have h2 := h p hp
    unfold isW at h2
    simp only [Bool.and_eq_true, decide_eq_true_eq, List.all_eq_true] at h2
    have h3 := h2.2 32 z
    revert h3
    decide +kernel
theorem isW_signs {x : Str} (h : isW x = true) : ∀ c ∈ x.cps.toList, 97 ≤ c ∧ c ≤ 122 := by
  unfold isW at h
  simp only [Bool.and_eq_true, decide_eq_true_eq, List.all_eq_true] at h
  have key : ∀ c ∈ abc.cps.toList, 97 ≤ c ∧ c ≤ 122 := by decide +kernel
  exact fun c hc => key c (h.2 c hc)
/-- the places of a word -/
def plc (ws : List Str) (w : Str) : List Nat := (List.range ws.length).filter fun i => decide (ws[i]? = some w)
theorem plc_snoc (ws : List Str) (u w : Str) : plc (ws ++ [u]) w = plc ws w ++ (if u = w then [ws.length] else []) := by
  unfold plc
  rw [List.length_append, List.length_singleton, List.range_succ, List.filter_append]
  congr 1
  · refine List.filter_congr fun i hi => ?_
    rw [List.mem_range] at hi
    rw [List.getElem?_append_left hi]
  · rw [List.filter_cons, List.filter_nil, List.getElem?_append_right (Nat.le_refl _), Nat.sub_self]
    by_cases h : u = w
    · simp [h]
    · simp [h]
theorem plc_nil (w : Str) : plc [] w = [] := rfl
theorem plc_len (ws : List Str) (w : Str) : (plc ws w).length ≤ ws.length := by
  have := List.length_filter_le (fun i => decide (ws[i]? = some w)) (List.range ws.length)
  rwa [List.length_range] at this
theorem plc_none {ws : List Str} {w : Str} (h : w ∉ ws) : plc ws w = [] := by
  unfold plc
  rw [List.filter_eq_nil_iff]
  intro i _ hi
  exact h (List.mem_of_getElem? (of_decide_eq_true hi))
/-- repr of a text of letters and blanks -/
theorem repr_plain {x : Str} (h : ∀ c ∈ x.cps.toList, c = 32 ∨ (97 ≤ c ∧ c ≤ 122)) : reprText x = S (39 :: (x.cps.toList ++ [39])) := by
  have hq : PySem.reprQuote x = 39 := by
    have h39 : ¬ 39 ∈ x.cps.toList := fun z => by
      have := h 39 z
      omega
    have : x.cps.contains 39 = false := by
      rw [Bool.eq_false_iff]
      intro z
      exact h39 (by simpa using z)
    unfold PySem.reprQuote
    rw [this]
    rfl
  have hc : ∀ c ∈ x.cps.toList, Builtin.Str.reprChar 39 c = [c] := by
    have key : ∀ c, c < 128 → (c = 32 ∨ (97 ≤ c ∧ c ≤ 122)) → Builtin.Str.reprChar 39 c = [c] := by decide +kernel
    intro c hc
    have := h c hc
    exact key c (by omega) this
  refine str_ext ?_
  unfold reprText
  rw [hq]
  show ((x.cps.foldl (fun out c => out ++ (Builtin.Str.reprChar 39 c).toArray) #[39]).push 39).toList = _
  rw [Array.toList_push, ← Array.foldl_toList]
  have key : ∀ (l : List Nat) (acc : Array Nat), (∀ c ∈ l, Builtin.Str.reprChar 39 c = [c]) → (l.foldl (fun out c => out ++ (Builtin.Str.reprChar 39 c).toArray) acc).toList = acc.toList ++ l := by
    intro l
    induction l with
    | nil => intro acc _; simp
    | cons c r ih =>
      intro acc hl
      rw [List.foldl_cons, ih _ (fun d hd => hl d (List.mem_cons_of_mem _ hd)), hl c List.mem_cons_self]
      simp
  rw [key _ _ hc]
  rfl
theorem join_signs {ws : List Str} (h : ∀ b ∈ ws, isW b = true) : ∀ c ∈ (Txt.join " " ws).cps.toList, c = 32 ∨ (97 ≤ c ∧ c ≤ 122) := by
  rw [txt_join]
  induction ws with
  | nil => intro c hc; exact absurd hc (by show ¬ c ∈ ([] : List Nat); simp)
  | cons b r ih =>
    cases r with
    | nil =>
      intro c hc
      exact .inr (isW_signs (h b List.mem_cons_self) c hc)
    | cons d r =>
      intro c hc
      have e : Str.join (" " : Str) (b :: d :: r) = b ++ (" " : Str) ++ Str.join (" " : Str) (d :: r) := rfl
      rw [e, cps_append, cps_append] at hc
      rcases List.mem_append.mp hc with hc | hc
      · rcases List.mem_append.mp hc with hc | hc
        · exact .inr (isW_signs (h b List.mem_cons_self) c hc)
        · left
          have : c ∈ ([32] : List Nat) := hc
          simpa using this
      · exact ih (fun x hx => h x (List.mem_cons_of_mem _ hx)) c hc
theorem join_len {ws : List Str} (h : ∀ b ∈ ws, isW b = true) : (Txt.join " " ws).length ≤ ws.length * 13 := by
  have hsum := sum_le (l := ws.map (·.length)) (c := 12) (fun x hx => by
    obtain ⟨y, hy, rfl⟩ := List.mem_map.mp hx
    exact isW_len (h y hy))
  rw [List.length_map] at hsum
  rw [txt_join]
  cases hys : ws with
  | nil => decide +kernel
  | cons y rr =>
    have h1s : (" " : Str).length = 1 := rfl
    rw [PyProof.Rows.len_join_cons, h1s, ← hys]
    have : ws.length = rr.length + 1 := by rw [hys]; rfl
    omega
end Bw

namespace Bw
open PySem PySem.Spec PyProof.Rows L2 LamX
/-! ### comprehensions with two fors -/
def NxJ (D : Addr) (i : Nat) (Iv : Nat → List V → Hp → Prop) : Hp → Prop := fun H' => ∃ acc', H' D = some (.lst acc') ∧ Iv (i + 1) acc' H'
theorem w_accJ {D : Addr} {i : Nat} {Iv : Nat → List V → Hp → Prop} {acc : List V} {y : V} {H4 : Hp} (hD : H4 D = some (.lst acc)) (hn : acc.length ≤ 100000) (k : ∀ H5, KB D H4 H5 → H5 D = some (.lst (acc ++ [y])) → Iv (i + 1) (acc ++ [y]) H5) :
    ∃ acc, H4 D = some (.lst acc) ∧ acc.length < sizeLine ∧ NxJ D i Iv (upd H4 D (.lst (acc ++ [y]))) := ⟨acc, hD, Nat.lt_of_le_of_lt hn (by decide), acc ++ [y], upd_same, k _ kb_upd upd_same⟩
theorem in_fin {J : It} {n : Nat} {ok : Hp → Prop} {it : Nat → V → Hp → Hp → Prop} {g : TG} {tt : TT} {te : TE} {vs : List Nat} {σ : L2.St} {H1 : Hp} {D : Addr} {Nx : Hp → Prop} (F : Fini J n ok it) (Jv : Nat → List V → Hp → Prop)
    (h0 : ∃ acc, H1 D = some (.lst acc) ∧ Jv 0 acc H1) (hl : ∀ i acc H, i ≤ n → Jv i acc H → ok H)
    (hs : ∀ i x acc H H', i < n → Jv i acc H → H D = some (.lst acc) → it i x H H' → g x (wipe σ vs) H' fun σ2 H2 => wipe σ2 vs = wipe σ vs ∧ tt σ2 H2 fun b H3 =>
      if b = true then te σ2 H3 fun y H4 => ∃ acc, H4 D = some (.lst acc) ∧ acc.length < sizeLine ∧ NxJ D i Jv (upd H4 D (.lst (acc ++ [y]))) else NxJ D i Jv H3)
    (hd : ∀ acc H, Jv n acc H → H D = some (.lst acc) → Nx H) :
    ∃ W1 : Nat → Nat → Hp → Prop, (∃ m, W1 0 m H1) ∧ ∀ j k H, W1 j k H →
      (J.stop j H ∧ Nx H) ∨ (J.go j H ∧ ∃ Nx1 : Hp → Prop, (∀ H', Nx1 H' → ∃ k', k' < k ∧ W1 (j + 1) k' H') ∧ ∀ x H', J.yld j H x H' → g x (wipe σ vs) H' fun σ3 H5 => wipe σ3 vs = wipe σ vs ∧ tt σ3 H5 fun b H6 =>
        if b = true then te σ3 H6 fun y H7 => ∃ acc, H7 D = some (.lst acc) ∧ acc.length < sizeLine ∧ Nx1 (upd H7 D (.lst (acc ++ [y]))) else Nx1 H6) := by
  obtain ⟨acc0, e0, i0⟩ := h0
  refine ⟨fun i m H => m = n - i ∧ i ≤ n ∧ ∃ acc, H D = some (.lst acc) ∧ Jv i acc H, ⟨n, by simp, Nat.zero_le _, acc0, e0, i0⟩, ?_⟩
  rintro i m H ⟨rfl, hi, acc, hD, p⟩
  have o := hl i acc H hi p
  rcases Nat.lt_or_ge i n with hlt | hge
  · exact .inr ⟨F.go i H hlt o, NxJ D i Jv, fun H' p' => ⟨n - (i + 1), by omega, rfl, hlt, p'⟩, fun x H' y => hs i x acc H H' hlt p hD (F.yl i H x H' hlt o y)⟩
  · obtain rfl : i = n := Nat.le_antisymm hi hge
    exact .inl ⟨F.st H o, hd acc H p hD⟩
theorem lc2_fin {J : It} {n : Nat} {ok : Hp → Prop} {it : Nat → V → Hp → Hp → Prop} {wi1 : TI} {g g1 : TG} {tt tt1 : TT} {te : TE} {vs vs1 : List Nat} {σ : L2.St} {H1 : Hp} {Qd : Addr → Hp → Prop} (F : Fini J n ok it) (Iv : Nat → List V → Hp → Prop)
    (h0 : ∀ D H2, H1 D = none → Same H1 H2 → H2 D = some (.lst []) → Iv 0 [] H2) (hl : ∀ i acc H, i ≤ n → Iv i acc H → ok H)
    (hs : ∀ D i x acc H H', H1 D = none → i < n → Iv i acc H → H D = some (.lst acc) → it i x H H' → g x (wipe σ vs) H' fun σ2 H2 => wipe σ2 vs = wipe σ vs ∧ tt σ2 H2 fun b H3 =>
      if b = true then wi1 σ2 H3 fun J1 H4 => ∃ W1 : Nat → Nat → Hp → Prop, (∃ m, W1 0 m H4) ∧ ∀ j k H, W1 j k H →
        (J1.stop j H ∧ NxJ D i Iv H) ∨ (J1.go j H ∧ ∃ Nx1 : Hp → Prop, (∀ H', Nx1 H' → ∃ k', k' < k ∧ W1 (j + 1) k' H') ∧ ∀ x H', J1.yld j H x H' → g1 x (wipe σ2 vs1) H' fun σ3 H5 => wipe σ3 vs1 = wipe σ2 vs1 ∧ tt1 σ3 H5 fun b H6 =>
          if b = true then te σ3 H6 fun y H7 => ∃ acc, H7 D = some (.lst acc) ∧ acc.length < sizeLine ∧ Nx1 (upd H7 D (.lst (acc ++ [y]))) else Nx1 H6)
      else NxJ D i Iv H3)
    (hd : ∀ D acc H, H1 D = none → Iv n acc H → H D = some (.lst acc) → Qd D H) :
    ∀ D, H1 D = none → ∃ W : Nat → Nat → Hp → Prop, (∃ m, W 0 m (upd H1 D (.lst []))) ∧ ∀ i m H, W i m H →
      (J.stop i H ∧ Qd D H) ∨ (J.go i H ∧ ∃ Nx : Hp → Prop, (∀ H', Nx H' → ∃ m', m' < m ∧ W (i + 1) m' H') ∧ ∀ x H', J.yld i H x H' → g x (wipe σ vs) H' fun σ2 H2 => wipe σ2 vs = wipe σ vs ∧ tt σ2 H2 fun b H3 =>
        if b = true then wi1 σ2 H3 fun J1 H4 => ∃ W1 : Nat → Nat → Hp → Prop, (∃ m, W1 0 m H4) ∧ ∀ j k H, W1 j k H →
          (J1.stop j H ∧ Nx H) ∨ (J1.go j H ∧ ∃ Nx1 : Hp → Prop, (∀ H', Nx1 H' → ∃ k', k' < k ∧ W1 (j + 1) k' H') ∧ ∀ x H', J1.yld j H x H' → g1 x (wipe σ2 vs1) H' fun σ3 H5 => wipe σ3 vs1 = wipe σ2 vs1 ∧ tt1 σ3 H5 fun b H6 =>
            if b = true then te σ3 H6 fun y H7 => ∃ acc, H7 D = some (.lst acc) ∧ acc.length < sizeLine ∧ Nx1 (upd H7 D (.lst (acc ++ [y]))) else Nx1 H6)
        else Nx H3) := by
  intro D nD
  refine ⟨fun i m H => m = n - i ∧ i ≤ n ∧ ∃ acc, H D = some (.lst acc) ∧ Iv i acc H, ⟨n, by simp, Nat.zero_le _, [], upd_same, h0 D _ nD (same_new nD) upd_same⟩, ?_⟩
  rintro i m H ⟨rfl, hi, acc, hD, p⟩
  have o := hl i acc H hi p
  rcases Nat.lt_or_ge i n with hlt | hge
  · exact .inr ⟨F.go i H hlt o, NxJ D i Iv, fun H' p' => ⟨n - (i + 1), by omega, rfl, hlt, p'⟩, fun x H' y => hs D i x acc H H' nD hlt p hD (F.yl i H x H' hlt o y)⟩
  · obtain rfl : i = n := Nat.le_antisymm hi hge
    exact .inl ⟨F.st H o, hd D acc H nD p hD⟩
theorem w_lc2E {wi wi1 : TI} {g g1 : TG} {tt tt1 : TT} {te : TE} {vs vs1 : List Nat} {σ : L2.St} {H : Hp} {Q : VK} (h : wi σ H fun J H1 => ∀ D, H1 D = none → ∃ W : Nat → Nat → Hp → Prop, (∃ m, W 0 m (upd H1 D (.lst []))) ∧ ∀ i m H, W i m H →
  (J.stop i H ∧ Q (.ref D) H) ∨ (J.go i H ∧ ∃ Nx : Hp → Prop, (∀ H', Nx H' → ∃ m', m' < m ∧ W (i + 1) m' H') ∧ ∀ x H', J.yld i H x H' → g x (wipe σ vs) H' fun σ2 H2 => wipe σ2 vs = wipe σ vs ∧ tt σ2 H2 fun b H3 =>
    if b = true then wi1 σ2 H3 fun J1 H4 => ∃ W1 : Nat → Nat → Hp → Prop, (∃ m, W1 0 m H4) ∧ ∀ j k H, W1 j k H →
      (J1.stop j H ∧ Nx H) ∨ (J1.go j H ∧ ∃ Nx1 : Hp → Prop, (∀ H', Nx1 H' → ∃ k', k' < k ∧ W1 (j + 1) k' H') ∧ ∀ x H', J1.yld j H x H' → g1 x (wipe σ2 vs1) H' fun σ3 H5 => wipe σ3 vs1 = wipe σ2 vs1 ∧ tt1 σ3 H5 fun b H6 =>
        if b = true then te σ3 H6 fun y H7 => ∃ acc, H7 D = some (.lst acc) ∧ acc.length < sizeLine ∧ Nx1 (upd H7 D (.lst (acc ++ [y]))) else Nx1 H6)
    else Nx H3)) : tLc2 wi g tt wi1 g1 tt1 te vs vs1 σ H Q := h
/-! ### data as it stands on the heap -/
mutual
inductive Rp (H : Hp) : V → PyData → Prop
  | non : Rp H .non .none
  | bl (b : Bool) : Rp H (.bl b) (.bool b)
  | int (i : Int) : Rp H (.int i) (.int i)
  | str (x : Str) : Rp H (.str x) (.str x)
  | lst {a : Addr} {xs : List V} {ds : List PyData} : H a = some (.lst xs) → RpAll H xs ds → Rp H (.ref a) (.list ds)
  | tup {a : Addr} {xs : List V} {ds : List PyData} : H a = some (.tup xs) → RpAll H xs ds → Rp H (.ref a) (.tuple ds)
inductive RpAll (H : Hp) : List V → List PyData → Prop
  | nil : RpAll H [] []
  | cons {v : V} {d : PyData} {vs : List V} {ds : List PyData} : Rp H v d → RpAll H vs ds → RpAll H (v :: vs) (d :: ds)
end
section
variable {K : PySem.W.Frag} {H H' : Hp}
mutual
theorem Rp.dp : ∀ {v : V} {d : PyData}, Rp H v d → Dp K H v d
  | _, _, .non => .non
  | _, _, .bl b => .bl b
  | _, _, .int i => .int i
  | _, _, .str x => .str x
  | _, _, .lst h r => .lst (.of h) (RpAll.dp r)
  | _, _, .tup h r => .tup (.of h) (RpAll.dp r)
theorem RpAll.dp : ∀ {vs : List V} {ds : List PyData}, RpAll H vs ds → DpAll K H vs ds
  | _, _, .nil => .nil
  | _, _, .cons h r => .cons (Rp.dp h) (RpAll.dp r)
end
mutual
theorem Rp.same (s : Same H H') : ∀ {v : V} {d : PyData}, Rp H v d → Rp H' v d
  | _, _, .non => .non
  | _, _, .bl b => .bl b
  | _, _, .int i => .int i
  | _, _, .str x => .str x
  | _, _, .lst h r => .lst (s _ _ h) (RpAll.same s r)
  | _, _, .tup h r => .tup (s _ _ h) (RpAll.same s r)
theorem RpAll.same (s : Same H H') : ∀ {vs : List V} {ds : List PyData}, RpAll H vs ds → RpAll H' vs ds
  | _, _, .nil => .nil
  | _, _, .cons h r => .cons (Rp.same s h) (RpAll.same s r)
end
/-- tuples stay -/
def TupK (H H' : Hp) : Prop := ∀ a xs, H a = some (.tup xs) → H' a = some (.tup xs)
theorem TupK.of (s : Same H H') : TupK H H' := fun _ _ h => s _ _ h
theorem TupK.kb {p : Addr} {xs : List V} (k : KB p H H') (hp : H p = some (.lst xs)) : TupK H H' := fun a ys h => k _ _ h (fun z => by rw [z, hp] at h; cases h)
theorem TupK.trans {H2 : Hp} (a : TupK H H') (b : TupK H' H2) : TupK H H2 := fun _ _ h => b _ _ (a _ _ h)
mutual
def noL : PyData → Bool
  | .list _ => false
  | .tuple ds => noLs ds
  | _ => true
def noLs : List PyData → Bool
  | [] => true
  | d :: r => noL d && noLs r
end
mutual
theorem Rp.tupk (t : TupK H H') : ∀ {v : V} {d : PyData}, Rp H v d → noL d = true → Rp H' v d
  | _, _, .non, _ => .non
  | _, _, .bl b, _ => .bl b
  | _, _, .int i, _ => .int i
  | _, _, .str x, _ => .str x
  | _, _, .lst h r, n => by simp [noL] at n
  | _, _, .tup h r, n => .tup (t _ _ h) (RpAll.tupk t r (by simpa [noL] using n))
theorem RpAll.tupk (t : TupK H H') : ∀ {vs : List V} {ds : List PyData}, RpAll H vs ds → noLs ds = true → RpAll H' vs ds
  | _, _, .nil, _ => .nil
  | _, _, .cons h r, n => by
    rw [noLs, Bool.and_eq_true] at n
    exact .cons (Rp.tupk t h n.1) (RpAll.tupk t r n.2)
end
theorem RpAll.length : ∀ {vs : List V} {ds : List PyData}, RpAll H vs ds → vs.length = ds.length
  | _, _, .nil => rfl
  | _, _, .cons _ r => congrArg Nat.succ (RpAll.length r)
theorem RpAll.at : ∀ {vs : List V} {ds : List PyData}, RpAll H vs ds → ∀ {i : Nat} {v : V}, vs[i]? = some v → ∃ d, ds[i]? = some d ∧ Rp H v d
  | _, _, .nil, i, v, h => by simp at h
  | _, _, .cons h r, 0, v, e => by
    cases e
    exact ⟨_, rfl, h⟩
  | _, _, .cons h r, i + 1, v, e => by
    obtain ⟨d, h1, h2⟩ := RpAll.at r (i := i) (v := v) (by simpa using e)
    exact ⟨d, by simpa using h1, h2⟩
theorem RpAll.append : ∀ {xs ys : List V} {ds es : List PyData}, RpAll H xs ds → RpAll H ys es → RpAll H (xs ++ ys) (ds ++ es)
  | _, _, _, _, .nil, h => h
  | _, _, _, _, .cons h r, h2 => .cons h (RpAll.append r h2)
theorem RpAll.drop : ∀ {vs : List V} {ds : List PyData} (n : Nat), RpAll H vs ds → RpAll H (vs.drop n) (ds.drop n)
  | _, _, 0, h => h
  | _, _, n + 1, .nil => .nil
  | _, _, n + 1, .cons _ r => RpAll.drop n r
theorem RpAll.take : ∀ {vs : List V} {ds : List PyData} (n : Nat), RpAll H vs ds → RpAll H (vs.take n) (ds.take n)
  | _, _, 0, h => .nil
  | _, _, n + 1, .nil => .nil
  | _, _, n + 1, .cons h r => .cons h (RpAll.take n r)
theorem rpAll_str : ∀ ws : List Str, RpAll H (ws.map V.str) (ws.map PyData.str)
  | [] => .nil
  | w :: r => .cons (.str w) (rpAll_str r)
/-! ### things of bounded size -/
def Fit : Nat → PyData → Prop
  | 0, d => (d = .none ∨ (∃ b, d = .bool b) ∨ (∃ i, d = .int i)) ∨ ∃ x, d = .str x ∧ x.length ≤ 1000 ∧ PyData.strOk x = true
  | n + 1, d => ((d = .none ∨ (∃ b, d = .bool b) ∨ (∃ i, d = .int i)) ∨ ∃ x, d = .str x ∧ x.length ≤ 1000 ∧ PyData.strOk x = true) ∨ ∃ ds : List PyData, (d = .tuple ds ∨ d = .list ds) ∧ ds.length ≤ 1000 ∧ ∀ e ∈ ds, Fit n e
theorem Fit.succ : ∀ {n : Nat} {d : PyData}, Fit n d → Fit (n + 1) d
  | 0, d, h => .inl h
  | n + 1, d, h => by
    rcases h with h | ⟨ds, h1, h2, h3⟩
    · exact .inl h
    · exact .inr ⟨ds, h1, h2, fun e he => (h3 e he).succ⟩
theorem Fit.mono {n m : Nat} {d : PyData} (h : Fit n d) (l : n ≤ m) : Fit m d := by
  induction l with
  | refl => exact h
  | step _ ih => exact ih.succ
theorem Fit.good : ∀ {n : Nat} {d : PyData}, Fit n d → GoodD d n
  | 0, d, h => by
    rcases h with (rfl | ⟨b, rfl⟩ | ⟨i, rfl⟩) | ⟨x, rfl, _, h⟩
    · exact good_none
    · exact good_bool
    · exact good_int
    · exact good_str h
  | n + 1, d, h => by
    rcases h with ((rfl | ⟨b, rfl⟩ | ⟨i, rfl⟩) | ⟨x, rfl, _, h⟩) | ⟨ds, rfl | rfl, _, h⟩
    · exact good_none
    · exact good_bool
    · exact good_int
    · exact good_str h
    · exact good_tuple fun e he => (h e he).good
    · exact good_list fun e he => (h e he).good
theorem fit_str {x : Str} {n : Nat} (h1 : x.length ≤ 1000) (h2 : PyData.strOk x = true) : Fit n (.str x) := Fit.mono (n := 0) (.inr ⟨x, rfl, h1, h2⟩) (Nat.zero_le _)
theorem fit_int {i : Int} {n : Nat} : Fit n (.int i) := Fit.mono (n := 0) (.inl (.inr (.inr ⟨i, rfl⟩))) (Nat.zero_le _)
theorem fit_word {x : Str} {n : Nat} (h : isW x = true) : Fit n (.str x) := fit_str (Nat.le_trans (isW_len h) (by decide)) (isW_strOk h)
theorem fit_tup {ds : List PyData} {n : Nat} (h1 : ds.length ≤ 1000) (h : ∀ e ∈ ds, Fit n e) : Fit (n + 1) (.tuple ds) := .inr ⟨ds, .inl rfl, h1, h⟩
theorem Fit.tup {ds : List PyData} {n : Nat} (h : Fit (n + 1) (.tuple ds)) : ds.length ≤ 1000 ∧ ∀ e ∈ ds, Fit n e := by
  rcases h with ((h | ⟨b, h⟩ | ⟨i, h⟩) | ⟨x, h, _⟩) | ⟨es, h | h, h1, h2⟩
  · cases h
  · cases h
  · cases h
  · cases h
  · cases h
    exact ⟨h1, h2⟩
  · cases h
/-- such a thing, as a text or none -/
theorem Rp.txt {v : V} {d : PyData} {n : Nat} (h : Rp H v d) (f : Fit n d) : TxtV H v := by
  cases h with
  | non => exact .inr .non
  | bl b => exact .inr (.bl b)
  | int i => exact .inr (.int i)
  | str x =>
    have : x.length ≤ 1000 := by
      cases n with
      | zero => rcases f with (h | ⟨b, h⟩ | ⟨i, h⟩) | ⟨y, h, hl, _⟩ <;> cases h; exact hl
      | succ n => rcases f with ((h | ⟨b, h⟩ | ⟨i, h⟩) | ⟨y, h, hl, _⟩) | ⟨es, h | h, _⟩ <;> cases h; exact hl
    exact .inl ⟨x, rfl, by omega⟩
  | lst h r => exact .inr (.lst h)
  | tup h r => exact .inr (.tup h)
theorem Rp.thg {v : V} {d : PyData} (h : Rp H v d) : Thg H v := by
  cases h with
  | non => exact .non
  | bl b => exact .bl b
  | int i => exact .int i
  | str x => exact .str x
  | lst h r => exact .lst h
  | tup h r => exact .tup h
end
/-- what a def keeps at its room, it keeps at more -/
theorem fnok_mono {P : Program} {w : World} {K : PySem.W.Frag} {mg : Str → Option Value} {base : Heap} {CX : CXT} {k k' : Nat} {f : Addr} {fd : FuncData} {ps : List Str} {sp : Sp} (F : FnOk P w K mg base CX k f fd ps sp) (h : k ≤ k') : FnOk P w K mg base CX k' f fd ps sp :=
  ⟨F.len, fun A outer s H args us vs Q E hr => F.run A outer s H args us vs Q E (hr.mono h)⟩
end Bw

/-! queries, plainly: on data -/
namespace Bw
open PySem PySem.Spec PyProof.Rows L2 LamX
def isWD : PyData → Bool
  | .str x => isW x
  | _ => false
theorem isWD_of {H : Hp} {v : V} {d : PyData} (h : Rp H v d) : isWV v = isWD d := by
  cases h <;> rfl
def joinC (cs : List (Option Nat)) : Option Nat := if 2 ≤ cs.length ∧ cs.length ≤ 4 ∧ cs.all (·.isSome) = true then some (cs.filterMap id).sum else none
def nearC : List PyData → Option Nat
  | [.int f, a, b] => if 1 ≤ f ∧ f ≤ 20 ∧ isWD a = true ∧ isWD b = true then some 2 else none
  | _ => none
def wordC (ps : List PyData) : Option Nat := if ps.length = 1 ∧ ps.all isWD = true then some 1 else none
def phraseC (ps : List PyData) : Option Nat := if 2 ≤ ps.length ∧ ps.length ≤ 5 ∧ ps.all isWD = true then some ps.length else none
def butC (cs : List (Option Nat)) : Option Nat := if cs.length = 2 then joinC cs else none
/-- how many words a query of at most so many within one another has -/
def cnt : Nat → PyData → Option Nat
  | 0, _ => none
  | n + 1, .tuple (.str k :: ps) =>
    if k = "word" then wordC ps else if k = "phrase" then phraseC ps else if k = "near" then nearC ps
    else if k = "and" then joinC (ps.map (cnt n)) else if k = "or" then joinC (ps.map (cnt n)) else if k = "but" then butC (ps.map (cnt n)) else none
  | _ + 1, _ => none
def cntV : Option Nat → V
  | some m => .int m
  | none => .non
theorem sum_bound {f : Option Nat → Nat} : True := trivial
def strD : PyData → Option Str
  | .str x => some x
  | _ => none
/-- the words that count -/
def wIn : Nat → PyData → List Str
  | 0, _ => []
  | n + 1, .tuple (.str k :: ps) =>
    if k = "word" ∨ k = "phrase" then ps.filterMap strD else if k = "near" then (ps.drop 1).filterMap strD
    else if k = "but" then ((ps.take 1).map (wIn n)).flatten else (ps.map (wIn n)).flatten
  | _ + 1, _ => []
theorem words_all : ∀ {ps : List PyData}, ps.all isWD = true → ∃ ws : List Str, ps = ws.map PyData.str ∧ ∀ w ∈ ws, isW w = true
  | [], _ => ⟨[], rfl, fun w hw => absurd hw (by simp)⟩
  | p :: r, h => by
    rw [List.all_cons, Bool.and_eq_true] at h
    obtain ⟨ws, rfl, hw⟩ := words_all h.2
    cases p with
    | str x => exact ⟨x :: ws, rfl, fun w hm => by
        rcases List.mem_cons.mp hm with rfl | hm
        · exact h.1
        · exact hw w hm⟩
    | _ => exact absurd h.1 (by unfold isWD; exact Bool.noConfusion)
theorem filt_str (ws : List Str) : (ws.map PyData.str).filterMap strD = ws := by
  induction ws with
  | nil => rfl
  | cons w r ih => simp [strD, ih]
/-- a query, as it is built -/
inductive QOf (n : Nat) : PyData → Nat → Prop
  | word {w : Str} : isW w = true → QOf n (.tuple [.str "word", .str w]) 1
  | phrase {ws : List Str} : 2 ≤ ws.length → ws.length ≤ 5 → (∀ w ∈ ws, isW w = true) → QOf n (.tuple (.str "phrase" :: ws.map PyData.str)) ws.length
  | near {f : Int} {a b : Str} : 1 ≤ f → f ≤ 20 → isW a = true → isW b = true → QOf n (.tuple [.str "near", .int f, .str a, .str b]) 2
  | join {k : Str} {ps : List PyData} {m : Nat} : (k = "and" ∨ k = "or" ∨ k = "but") → (k = "but" → ps.length = 2) → joinC (ps.map (cnt n)) = some m → QOf n (.tuple (.str k :: ps)) m
theorem wordC_some {ps : List PyData} {m : Nat} (h : wordC ps = some m) : ∃ w : Str, ps = [.str w] ∧ isW w = true ∧ m = 1 := by
  unfold wordC at h
  split at h
  · rename_i hc
    obtain ⟨ws, rfl, hw⟩ := words_all hc.2
    have hl : ws.length = 1 := by simpa using hc.1
    match ws, hl with
    | [w], _ => exact ⟨w, rfl, hw w (by simp), (Option.some.inj h).symm⟩
  · cases h
theorem phraseC_some {ps : List PyData} {m : Nat} (h : phraseC ps = some m) : ∃ ws : List Str, ps = ws.map PyData.str ∧ 2 ≤ ws.length ∧ ws.length ≤ 5 ∧ (∀ w ∈ ws, isW w = true) ∧ m = ws.length := by
  unfold phraseC at h
  split at h
  · rename_i hc
    obtain ⟨ws, rfl, hw⟩ := words_all hc.2.2
    rw [List.length_map] at hc h
    exact ⟨ws, rfl, hc.1, hc.2.1, hw, (Option.some.inj h).symm⟩
  · cases h
theorem isWD_str {d : PyData} (h : isWD d = true) : ∃ x, d = .str x ∧ isW x = true := by
  cases d with
  | str x => exact ⟨x, rfl, h⟩
  | _ => exact absurd h (by unfold isWD; exact Bool.noConfusion)
theorem nearC_some {ps : List PyData} {m : Nat} (h : nearC ps = some m) : ∃ (f : Int) (a b : Str), ps = [.int f, .str a, .str b] ∧ 1 ≤ f ∧ f ≤ 20 ∧ isW a = true ∧ isW b = true ∧ m = 2 := by
  unfold nearC at h
  split at h
  · rename_i f a b
    split at h
    · rename_i hc
      obtain ⟨x, rfl, hx⟩ := isWD_str hc.2.2.1
      obtain ⟨y, rfl, hy⟩ := isWD_str hc.2.2.2
      exact ⟨f, x, y, rfl, hc.1, hc.2.1, hx, hy, (Option.some.inj h).symm⟩
    · cases h
  · cases h
theorem cnt_inv {n : Nat} {d : PyData} {m : Nat} (h : cnt (n + 1) d = some m) : QOf n d m := by
  unfold cnt at h
  split at h
  · contradiction
  · rename_i n' k ps hn
    cases hn
    split at h
    · rename_i hk
      subst hk
      obtain ⟨w, rfl, hw, rfl⟩ := wordC_some h
      exact .word hw
    · split at h
      · rename_i hk
        subst hk
        obtain ⟨ws, rfl, h1, h2, h3, rfl⟩ := phraseC_some h
        exact .phrase h1 h2 h3
      · split at h
        · rename_i hk
          subst hk
          obtain ⟨f, a, b, rfl, h1, h2, h3, h4, rfl⟩ := nearC_some h
          exact .near h1 h2 h3 h4
        · split at h
          · rename_i hk
            exact .join (.inl hk) (fun z => by rw [hk] at z; exact absurd z (by decide +kernel)) h
          · split at h
            · rename_i hk
              exact .join (.inr (.inl hk)) (fun z => by rw [hk] at z; exact absurd z (by decide +kernel)) h
            · split at h
              · rename_i hk
                unfold butC at h
                split at h
                · rename_i hl
                  rw [List.length_map] at hl
                  exact .join (.inr (.inr hk)) (fun _ => hl) h
                · cases h
              · cases h
  · cases h
theorem cnt_word {n : Nat} {w : Str} (h : isW w = true) : cnt (n + 1) (.tuple [.str "word", .str w]) = some 1 := by
  unfold cnt
  rw [if_pos rfl]
  unfold wordC
  rw [if_pos ⟨rfl, by simp [isWD, h]⟩]
theorem cnt_phrase {n : Nat} {ws : List Str} (h1 : 2 ≤ ws.length) (h2 : ws.length ≤ 5) (h : ∀ w ∈ ws, isW w = true) : cnt (n + 1) (.tuple (.str "phrase" :: ws.map PyData.str)) = some ws.length := by
  unfold cnt
  rw [if_neg (by decide +kernel), if_pos rfl]
  unfold phraseC
  have ha : (ws.map PyData.str).all isWD = true := by
    rw [List.all_eq_true]
    intro d hd
    obtain ⟨w, hw, rfl⟩ := List.mem_map.mp hd
    exact h w hw
  rw [List.length_map, if_pos ⟨h1, h2, ha⟩]
theorem cnt_near {n : Nat} {f : Int} {a b : Str} (h1 : 1 ≤ f) (h2 : f ≤ 20) (ha : isW a = true) (hb : isW b = true) : cnt (n + 1) (.tuple [.str "near", .int f, .str a, .str b]) = some 2 := by
  unfold cnt
  rw [if_neg (by decide +kernel), if_neg (by decide +kernel), if_pos rfl]
  unfold nearC
  simp only
  rw [if_pos ⟨h1, h2, ha, hb⟩]
theorem cnt_and {n : Nat} {ps : List PyData} : cnt (n + 1) (.tuple (.str "and" :: ps)) = joinC (ps.map (cnt n)) := by
  rw [cnt, if_neg (by decide +kernel), if_neg (by decide +kernel), if_neg (by decide +kernel), if_pos rfl]
theorem cnt_or {n : Nat} {ps : List PyData} : cnt (n + 1) (.tuple (.str "or" :: ps)) = joinC (ps.map (cnt n)) := by
  rw [cnt, if_neg (by decide +kernel), if_neg (by decide +kernel), if_neg (by decide +kernel), if_neg (by decide +kernel), if_pos rfl]
theorem cnt_but {n : Nat} {ps : List PyData} : cnt (n + 1) (.tuple (.str "but" :: ps)) = butC (ps.map (cnt n)) := by
  rw [cnt, if_neg (by decide +kernel), if_neg (by decide +kernel), if_neg (by decide +kernel), if_neg (by decide +kernel), if_neg (by decide +kernel), if_pos rfl]
/-- all are queries -/
theorem join_some {n : Nat} {ps : List PyData} {m : Nat} (h : joinC (ps.map (cnt n)) = some m) : 2 ≤ ps.length ∧ ps.length ≤ 4 ∧ ∀ p ∈ ps, ∃ c, cnt n p = some c := by
  unfold joinC at h
  split at h
  · rename_i hc
    rw [List.length_map] at hc
    refine ⟨hc.1, hc.2.1, fun p hp => ?_⟩
    have := List.all_eq_true.mp hc.2.2 _ (List.mem_map.mpr ⟨p, hp, rfl⟩)
    exact Option.isSome_iff_exists.mp this
  · cases h
theorem noLs_all {ds : List PyData} (h : ∀ d ∈ ds, noL d = true) : noLs ds = true := by
  induction ds with
  | nil => rfl
  | cons d r ih =>
    rw [noLs, h d List.mem_cons_self, ih (fun e he => h e (List.mem_cons_of_mem _ he))]
    rfl
theorem cnt_noL : ∀ {n : Nat} {d : PyData} {m : Nat}, cnt n d = some m → noL d = true
  | 0, d, m, h => by cases h
  | n + 1, d, m, h => by
    cases cnt_inv h with
    | word => rfl
    | phrase =>
      rw [noL]
      refine noLs_all fun d hd => ?_
      rcases List.mem_cons.mp hd with rfl | hd
      · rfl
      · obtain ⟨w, _, rfl⟩ := List.mem_map.mp hd
        rfl
    | near => rfl
    | join h1 h2 h3 =>
      rw [noL]
      refine noLs_all fun d hd => ?_
      rcases List.mem_cons.mp hd with rfl | hd
      · rfl
      · obtain ⟨c, hc⟩ := (join_some h3).2.2 d hd
        exact cnt_noL hc
theorem kind_fit {k : Str} {n : Nat} (h : k = "and" ∨ k = "or" ∨ k = "but") : Fit n (.str k) := by
  rcases h with rfl | rfl | rfl <;> exact fit_str (by decide +kernel) (by decide +kernel)
theorem cnt_fit : ∀ {n : Nat} {d : PyData} {m : Nat}, cnt n d = some m → Fit n d
  | 0, d, m, h => by cases h
  | n + 1, d, m, h => by
    cases cnt_inv h with
    | word hw =>
      refine fit_tup (by simp) fun e he => ?_
      simp only [List.mem_cons, List.not_mem_nil, or_false] at he
      rcases he with rfl | rfl
      · exact fit_str (by decide +kernel) (by decide +kernel)
      · exact fit_word hw
    | phrase h1 h2 h3 =>
      refine fit_tup (by simp; omega) fun e he => ?_
      rcases List.mem_cons.mp he with rfl | he
      · exact fit_str (by decide +kernel) (by decide +kernel)
      · obtain ⟨w, hw, rfl⟩ := List.mem_map.mp he
        exact fit_word (h3 w hw)
    | near h1 h2 ha hb =>
      refine fit_tup (by simp) fun e he => ?_
      simp only [List.mem_cons, List.not_mem_nil, or_false] at he
      rcases he with rfl | rfl | rfl | rfl
      · exact fit_str (by decide +kernel) (by decide +kernel)
      · exact fit_int
      · exact fit_word ha
      · exact fit_word hb
    | join h1 h2 h3 =>
      obtain ⟨j1, j2, j3⟩ := join_some h3
      refine fit_tup (by simp; omega) fun e he => ?_
      rcases List.mem_cons.mp he with rfl | he
      · exact kind_fit h1
      · obtain ⟨c, hc⟩ := j3 e he
        exact cnt_fit hc
/-- deeper is let -/
theorem cnt_succ : ∀ {n : Nat} {d : PyData} {m : Nat}, cnt n d = some m → cnt (n + 1) d = some m
  | 0, d, m, h => by cases h
  | n + 1, d, m, h => by
    have key : ∀ {ps : List PyData} {m : Nat}, joinC (ps.map (cnt n)) = some m → joinC (ps.map (cnt (n + 1))) = some m := fun {ps m} hj => by
      have e : ps.map (cnt (n + 1)) = ps.map (cnt n) := List.map_congr_left fun p hp => by
        obtain ⟨c, hc⟩ := (join_some hj).2.2 p hp
        rw [hc, cnt_succ hc]
      rw [e]
      exact hj
    cases cnt_inv h with
    | word hw => exact cnt_word hw
    | phrase h1 h2 h3 => exact cnt_phrase h1 h2 h3
    | near h1 h2 ha hb => exact cnt_near h1 h2 ha hb
    | join h1 h2 h3 =>
      rcases h1 with rfl | rfl | rfl
      · rw [cnt_and]; exact key h3
      · rw [cnt_or]; exact key h3
      · rw [cnt_but]
        unfold butC
        rw [List.length_map, if_pos (h2 rfl)]
        exact key h3
theorem cnt_mono {n k : Nat} {d : PyData} {m : Nat} (h : cnt n d = some m) (l : n ≤ k) : cnt k d = some m := by
  induction l with
  | refl => exact h
  | step _ ih => exact cnt_succ ih
/-- the words of a query -/
theorem wIn_ok : ∀ {n : Nat} {d : PyData} {m : Nat}, cnt n d = some m → (wIn n d).length ≤ m ∧ ∀ w ∈ wIn n d, isW w = true
  | 0, d, m, h => by cases h
  | n + 1, d, m, h => by
    cases cnt_inv h with
    | word hw =>
      rw [wIn, if_pos (.inl rfl)]
      exact ⟨by simp [strD], fun w hm => by simp [strD] at hm; rw [hm]; exact hw⟩
    | phrase h1 h2 h3 =>
      rw [wIn, if_pos (.inr rfl), filt_str]
      exact ⟨Nat.le_refl _, h3⟩
    | near h1 h2 ha hb =>
      rw [wIn, if_neg (by decide +kernel), if_pos rfl]
      refine ⟨by simp [strD], fun w hm => ?_⟩
      simp [strD] at hm
      rcases hm with rfl | rfl
      · exact ha
      · exact hb
    | @join k ps _ h1 h2 h3 =>
      obtain ⟨j1, j2, j3⟩ := join_some h3
      have hm : ((ps.map (cnt n)).filterMap id).sum = m := by
        unfold joinC at h3
        split at h3
        · exact Option.some.inj h3
        · cases h3
      have hsum : ∀ l : List PyData, (∀ p ∈ l, ∃ c, cnt n p = some c) → ((l.map (wIn n)).flatten.length ≤ ((l.map (cnt n)).filterMap id).sum ∧ ∀ w ∈ (l.map (wIn n)).flatten, isW w = true) := by
        intro l
        induction l with
        | nil => intro _; exact ⟨Nat.le_refl _, fun w hw => absurd hw (by simp)⟩
        | cons p r ih =>
          intro hl
          obtain ⟨c, hc⟩ := hl p List.mem_cons_self
          obtain ⟨i1, i2⟩ := wIn_ok hc
          obtain ⟨r1, r2⟩ := ih (fun q hq => hl q (List.mem_cons_of_mem _ hq))
          rw [List.map_cons, List.flatten_cons, List.map_cons, hc]
          refine ⟨by simp only [List.length_append, List.filterMap_cons, id, List.sum_cons]; omega, fun w hw => ?_⟩
          rcases List.mem_append.mp hw with hw | hw
          · exact i2 w hw
          · exact r2 w hw
      have hpre : ∀ l : List PyData, (((l.take 1).map (cnt n)).filterMap id).sum ≤ ((l.map (cnt n)).filterMap id).sum := by
        intro l
        cases l with
        | nil => simp
        | cons p r =>
          simp only [List.take_succ_cons, List.take_zero, List.map_cons, List.map_nil]
          cases cnt n p with
          | none => simp
          | some c => simp
      have kd : ¬ (k = "word" ∨ k = "phrase") := by
        rcases h1 with rfl | rfl | rfl <;> decide +kernel
      have kn : ¬ k = "near" := by
        rcases h1 with rfl | rfl | rfl <;> decide +kernel
      rw [wIn, if_neg kd, if_neg kn]
      split
      · obtain ⟨a, b⟩ := hsum (ps.take 1) (fun p hp => j3 p (List.mem_of_mem_take hp))
        exact ⟨Nat.le_trans a (hm ▸ hpre ps), b⟩
      · obtain ⟨a, b⟩ := hsum ps j3
        exact ⟨hm ▸ a, b⟩
section
variable {K : PySem.W.Frag} {H : Hp} {Q : VK}
theorem w_inV {p : Addr} {xs : List V} {x : V} (hs : SqL K H p xs ∨ SqT K H p xs) (fx : flatV x = true) (fs : xs.all flatV = true) (q : Q (.bl (inV x xs)) H) : rIn K false x (.ref p) H Q := ⟨p, xs, rfl, hs, fx, fs, q⟩
theorem w_decN {c A B : Prop} {dc : Decidable c} (h1 : c → B) (h2 : ¬ c → A) : if (!decide c) = true then A else B := by
  by_cases h : c
  · rw [if_neg (by rw [decide_eq_true h]; exact Bool.noConfusion)]
    exact h1 h
  · rw [if_pos (by rw [decide_eq_false h]; rfl)]
    exact h2 h
end
theorem cnt_flat (cs : List (Option Nat)) : (cs.map cntV).all flatV = true := by
  rw [List.all_eq_true]
  intro v hv
  obtain ⟨o, _, rfl⟩ := List.mem_map.mp hv
  cases o <;> rfl
theorem cnt_none (cs : List (Option Nat)) : inV .non (cs.map cntV) = !cs.all (·.isSome) := by
  unfold inV
  induction cs with
  | nil => rfl
  | cons o r ih =>
    rw [List.map_cons, List.any_cons, ih, List.all_cons]
    cases o with
    | none => simp [cntV, eqV]
    | some m => simp [cntV, eqV]
theorem cnt_all : ∀ {cs : List (Option Nat)}, cs.all (·.isSome) = true → ∃ ms : List Nat, cs = ms.map some
  | [], _ => ⟨[], rfl⟩
  | o :: r, h => by
    rw [List.all_cons, Bool.and_eq_true] at h
    obtain ⟨ms, rfl⟩ := cnt_all h.2
    cases o with
    | none => cases h.1
    | some m => exact ⟨m :: ms, rfl⟩
theorem sum_cast : ∀ ms : List Nat, (ms.map fun m : Nat => (m : Int)).sum = ((ms.sum : Nat) : Int)
  | [] => rfl
  | m :: r => by
    rw [List.map_cons, List.sum_cons, List.sum_cons, sum_cast r]
    omega
/-- a query -/
def isQ (d : PyData) : Bool := match cnt 5 d with
  | some m => decide (m ≤ 12)
  | none => false
end Bw

namespace Bw
open PySem PySem.Spec PyProof.Rows L2 LamX
/-! ### slices by places, tuples put together -/
theorem sIx_nat {n d i : Nat} (h : i ≤ n) : HT.sIx n d (some (i : Int)) = i := by
  unfold HT.sIx
  simp only
  split <;> omega
theorem sIx_big {n d : Nat} {i : Int} (h : (n : Int) ≤ i) : HT.sIx n d (some i) = n := by
  unfold HT.sIx
  simp only
  split <;> omega
theorem sIx_none {n d : Nat} : HT.sIx n d none = d := rfl
theorem cutV_drop {xs : List V} {i : Nat} (h : i ≤ xs.length) : cutV xs (some (i : Int)) none = xs.drop i := by
  unfold cutV
  rw [sIx_nat h, sIx_none, List.take_of_length_le (by rw [List.length_drop]; omega)]
theorem cutV_mid {xs : List V} {i j : Nat} (h : i ≤ j) (h2 : j ≤ xs.length) : cutV xs (some (i : Int)) (some (j : Int)) = (xs.drop i).take (j - i) := by
  unfold cutV
  rw [sIx_nat (i := i) (by omega), sIx_nat (i := j) h2]
theorem cutV_take {xs : List V} {j : Nat} (h2 : j ≤ xs.length) : cutV xs none (some (j : Int)) = xs.take j := by
  unfold cutV
  rw [sIx_nat h2, sIx_none, List.drop_zero, Nat.sub_zero]
section
variable {K : PySem.W.Frag} {H : Hp} {Q : VK}
/-- t[i:], i above 0 -/
theorem w_slTd {a : Addr} {xs : List V} {i : Nat} (h : SqT K H a xs) (h0 : 0 < i) (hi : i ≤ xs.length) (k : ∀ p H2, H p = none → Same H H2 → H2 p = some (.tup (xs.drop i)) → Q (.ref p) H2) : rSlT K (.ref a) (some (i : Int)) none H Q :=
  ⟨a, xs, rfl, h, fun z => by rw [sIx_nat hi] at z; omega, fun p n => k p _ n (same_new n) (by rw [cutV_drop hi]; exact upd_same)⟩
/-- t[i:] behind the end -/
theorem w_slTe {a : Addr} {xs : List V} {i : Int} (h : SqT K H a xs) (h0 : 0 < xs.length) (hi : (xs.length : Int) ≤ i) (k : ∀ p H2, H p = none → Same H H2 → H2 p = some (.tup []) → Q (.ref p) H2) : rSlT K (.ref a) (some i) none H Q :=
  ⟨a, xs, rfl, h, fun z => by rw [sIx_big hi] at z; omega, fun p n => k p _ n (same_new n) (by
    have : cutV xs (some i) none = [] := by
      unfold cutV
      rw [sIx_big hi]
      simp
    rw [this]; exact upd_same)⟩
/-- t[i:j] -/
theorem w_slTm {a : Addr} {xs : List V} {i j : Nat} (h : SqT K H a xs) (h0 : 0 < i) (hij : i ≤ j) (hj : j ≤ xs.length) (k : ∀ p H2, H p = none → Same H H2 → H2 p = some (.tup ((xs.drop i).take (j - i))) → Q (.ref p) H2) : rSlT K (.ref a) (some (i : Int)) (some (j : Int)) H Q :=
  ⟨a, xs, rfl, h, fun z => by rw [sIx_nat (by omega)] at z; omega, fun p n => k p _ n (same_new n) (by rw [cutV_mid hij hj]; exact upd_same)⟩
theorem w_catT {a b : Addr} {xs ys : List V} (ha : H a = some (.tup xs)) (hb : H b = some (.tup ys)) (hx : xs ≠ []) (hl : xs.length + ys.length ≤ 100000) (k : ∀ p H2, Same H H2 → H2 p = some (.tup (xs ++ ys)) → Q (.ref p) H2) : rCatT K (.ref a) (.ref b) H Q :=
  ⟨a, b, xs, ys, rfl, rfl, .of ha, .of hb, hx, Nat.le_trans hl (by decide), fun e => k a H (.refl _) (by rw [e, List.append_nil]; exact ha), fun _ p n => k p _ (same_new n) upd_same⟩
end
/-- an if whose test is known, what is behind it once -/
theorem w_ifB {tt : TT} {t u : TS} {D : Ends} {σ : L2.St} {H : Hp} (b : Bool) (H' : Hp) (h : ∀ QB : Bool → Hp → Prop, QB b H' → tt σ H QB) (k : if b = true then t D σ H' else u D σ H') : tIfS tt t u D σ H := h _ k
/-- a vacuous promise -/
theorem fnok_no {P : Program} {w : World} {K : PySem.W.Frag} {mg : Str → Option Value} {base : Heap} {CX : CXT} {k : Nat} {f : Addr} {fd : FuncData} {ps : List Str} {sp : Sp} (h : ∀ vs H Q E, ¬ sp vs H Q E) : FnOk P w K mg base CX k f fd ps sp :=
  ⟨fun vs H Q E z => absurd z (h vs H Q E), fun A outer s H args us vs Q E _ _ _ _ z => absurd z (h vs H Q E)⟩
/-! ### a dict of defs, written at the top -/
structure Ent where
  (k : Str) (t : Tok) (v : Value)
def Ent.de (P : Params) (e : Ent) : DictEntry := ⟨PyData.keyHash P e.k, .str e.k e.t, e.v⟩
theorem lits (P : Params) : ∀ es : List Ent, PySem.W.KeysLit P (es.map (Ent.de P))
  | [] => trivial
  | e :: r => ⟨⟨e.k, e.t, rfl, rfl⟩, lits P r⟩
theorem ns_lits {K : PySem.W.Frag} {P : Params} {D : Addr} {c : Value} {o : Option Addr} {n : Nat} {sl : Array (Option Value)} {es : List Ent} (h : K.lookup D = some ⟨c, o, .dict (es.map (Ent.de P)).toArray n, sl⟩) (k : Str) :
    PySem.W.nsIn K D k = some ((es.find? fun e => decide (e.k = k)).map (·.v)) := by
  unfold PySem.W.nsIn
  rw [h]
  simp only [List.toList_toArray]
  have e1 : ∀ l : List Ent, (l.map (Ent.de P)).find? (fun x => x.key.isStr k) = (l.find? fun e => decide (e.k = k)).map (Ent.de P) := by
    intro l
    induction l with
    | nil => rfl
    | cons e r ih =>
      rw [List.map_cons, List.find?_cons, List.find?_cons, ih]
      have : (Ent.de P e).key.isStr k = decide (e.k = k) := by
        show (Value.str e.k e.t).isStr k = _
        rw [PySem.W.isStr_of]
        show (e.k == k) = _
        by_cases hk : e.k = k
        · simp [hk]
        · simp [hk]
      rw [this]
      split <;> rfl
  have e2 : ∀ l : List Ent, (l.map (Ent.de P)).any (·.refKey) = false := by
    intro l
    rw [List.any_eq_false]
    intro x hx
    obtain ⟨e, _, rfl⟩ := List.mem_map.mp hx
    exact Bool.false_ne_true
  rw [e1 es, e2 es]
  cases es.find? fun e => decide (e.k = k) with
  | none => rfl
  | some e => rfl
theorem kdict_lits {K : PySem.W.Frag} {w : World} {D : Addr} {n : Nat} {es : List Ent} (h : K.lookup D = some ⟨.type "dict", none, .dict (es.map (Ent.de w.params)).toArray n, #[]⟩) (low : (D == sysModules) = false) : KDict K w D (es.map (Ent.de w.params)).toArray n :=
  ⟨h, by simpa using lits w.params es, low⟩
end Bw

/-! what a page has of a query, plainly -/
namespace Bw
open PySem PySem.Spec PyProof.Rows L2 LamX
/-- where some words stand one behind another -/
def runP (held us : List Str) : List Nat := (plc held (us.headD "")).filter fun i => decide ((held.drop i).take us.length = us)
def isNear (f : Int) (i j : Nat) : Bool := decide (1 ≤ ((i : Int) - j).natAbs ∧ ((((i : Int) - j).natAbs : Nat) : Int) ≤ f)
/-- where two words stand near one another -/
def nearP (f : Int) (a b : Str) (held : List Str) : List (Nat × Nat) := ((plc held a).map fun i => ((plc held b).filter fun j => isNear f i j).map fun j => (i, j)).flatten
def pD (q : Nat × Nat) : PyData := .tuple [.int q.1, .int q.2]
def nearD (ps : List PyData) (held : List Str) : PyData := match ps with
  | [.int f, .str a, .str b] => .list ((nearP f a b held).map pD)
  | _ => .none
def plcD (d : PyData) (held : List Str) : PyData := match d with
  | .tuple (.str k :: ps) => if k = "near" then nearD ps held
    else if k = "word" ∨ k = "phrase" then .list ((runP held (ps.filterMap strD)).map nD) else .none
  | _ => .none
def hasN : PyData → Bool
  | .list [] => false
  | _ => true
/-- whether a page has what a query asks -/
def hasQ : Nat → PyData → List Str → Bool
  | 0, _, _ => false
  | n + 1, .tuple (.str k :: ps), held =>
    if k = "and" then (ps.map fun p => hasQ n p held).all id else if k = "or" then (ps.map fun p => hasQ n p held).any id
    else if k = "but" then (((ps.take 1).map fun p => hasQ n p held).all id && !((ps.drop 1).map fun p => hasQ n p held).any id)
    else hasN (plcD (.tuple (.str k :: ps)) held)
  | _ + 1, _, _ => false
theorem good_nD (ns : List Nat) : GoodD (.list (ns.map nD)) 2 := (good_list (n := 1) fun d hd => by
  obtain ⟨n, _, rfl⟩ := List.mem_map.mp hd
  exact good_int)
theorem good_pD (qs : List (Nat × Nat)) : GoodD (.list (qs.map pD)) 2 := good_list fun d hd => by
  obtain ⟨q, _, rfl⟩ := List.mem_map.mp hd
  exact good_tuple fun e he => by
    simp only [List.mem_cons, List.not_mem_nil, or_false] at he
    rcases he with rfl | rfl
    · exact good_int
    · exact good_int
theorem plc_lt {ws : List Str} {w : Str} {i : Nat} (h : i ∈ plc ws w) : i < ws.length ∧ ws[i]? = some w := by
  unfold plc at h
  rw [List.mem_filter, List.mem_range] at h
  exact ⟨h.1, of_decide_eq_true h.2⟩
theorem plc_mem {ws : List Str} {w : Str} {i : Nat} : i ∈ plc ws w ↔ ws[i]? = some w := by
  refine ⟨fun h => (plc_lt h).2, fun h => ?_⟩
  unfold plc
  rw [List.mem_filter, List.mem_range]
  exact ⟨(List.getElem?_eq_some_iff.mp h).1, decide_eq_true h⟩
theorem runP_len (held us : List Str) : (runP held us).length ≤ held.length := by
  unfold runP
  exact Nat.le_trans (List.length_filter_le _ _) (plc_len _ _)
theorem nearP_len (f : Int) (a b : Str) (held : List Str) : (nearP f a b held).length ≤ held.length * held.length := by
  unfold nearP
  rw [List.length_flatten]
  have h := sum_le (l := (((plc held a).map fun i => ((plc held b).filter fun j => isNear f i j).map fun j => (i, j)).map List.length)) (c := held.length) (fun x hx => by
    obtain ⟨l, hl, rfl⟩ := List.mem_map.mp hx
    obtain ⟨i, _, rfl⟩ := List.mem_map.mp hl
    rw [List.length_map]
    exact Nat.le_trans (List.length_filter_le _ _) (plc_len _ _))
  rw [List.length_map, List.length_map] at h
  exact Nat.le_trans h (Nat.mul_le_mul_right _ (plc_len _ _))
theorem hasQ_and {n : Nat} {ps : List PyData} {held : List Str} : hasQ (n + 1) (.tuple (.str "and" :: ps)) held = (ps.map fun p => hasQ n p held).all id := by
  rw [hasQ, if_pos rfl]
theorem hasQ_or {n : Nat} {ps : List PyData} {held : List Str} : hasQ (n + 1) (.tuple (.str "or" :: ps)) held = (ps.map fun p => hasQ n p held).any id := by
  rw [hasQ, if_neg (by decide +kernel), if_pos rfl]
theorem hasQ_but {n : Nat} {a b : PyData} {held : List Str} : hasQ (n + 1) (.tuple [.str "but", a, b]) held = (hasQ n a held && !hasQ n b held) := by
  rw [hasQ, if_neg (by decide +kernel), if_neg (by decide +kernel), if_pos rfl]
  simp
theorem plcD_near {f : Int} {a b : Str} {held : List Str} : plcD (.tuple [.str "near", .int f, .str a, .str b]) held = .list ((nearP f a b held).map pD) := by
  rw [plcD, if_pos rfl]
  rfl
theorem plcD_word {a : Str} {held : List Str} : plcD (.tuple [.str "word", .str a]) held = .list ((runP held [a]).map nD) := by
  rw [plcD, if_neg (by decide +kernel), if_pos (.inl rfl)]
  rfl
theorem plcD_phrase {ws : List Str} {held : List Str} : plcD (.tuple (.str "phrase" :: ws.map PyData.str)) held = .list ((runP held ws).map nD) := by
  rw [plcD, if_neg (by decide +kernel), if_pos (.inr rfl), filt_str]
theorem hasQ_plc {n : Nat} {k : Str} {ps : List PyData} {held : List Str} (h1 : ¬ k = "and") (h2 : ¬ k = "or") (h3 : ¬ k = "but") : hasQ (n + 1) (.tuple (.str k :: ps)) held = hasN (plcD (.tuple (.str k :: ps)) held) := by
  rw [hasQ, if_neg h1, if_neg h2, if_neg h3]
theorem plcD_list' (held : List Str) {n m : Nat} {k : Str} {ps : List PyData} (h : QOf n (.tuple (.str k :: ps)) m) (h1 : ¬ k = "and") (h2 : ¬ k = "or") (h3 : ¬ k = "but") : ∃ ds, plcD (.tuple (.str k :: ps)) held = .list ds ∧ GoodD (.list ds) 2 := by
  cases h with
  | word hw => exact ⟨_, plcD_word, good_nD _⟩
  | phrase a b c => exact ⟨_, plcD_phrase, good_nD _⟩
  | near a b c d => exact ⟨_, plcD_near, good_pD _⟩
  | join a _ _ => rcases a with a | a | a <;> contradiction
theorem plcD_list (held : List Str) {m : Nat} {d : PyData} (h : cnt 1 d = some m) : ∃ ds, plcD d held = .list ds := by
  cases cnt_inv h with
  | word hw => exact ⟨_, plcD_word⟩
  | phrase a b c => exact ⟨_, plcD_phrase⟩
  | near a b c d => exact ⟨_, plcD_near⟩
  | @join k ps _ a b c =>
    obtain ⟨j1, j2, j3⟩ := join_some c
    cases ps with
    | nil => simp at j1
    | cons p r =>
      obtain ⟨c, hc⟩ := j3 p (by simp)
      cases hc
theorem w_any {K : PySem.W.Frag} {bs : List Bool} {a : Addr} {xs : List V} {H : Hp} {Q : VK} (e : xs = bs.map V.bl) (h : SqL K H a xs) (q : Q (.bl (bs.any id)) H) : rAny K [.ref a] H Q := ⟨a, bs, rfl, e ▸ h, q⟩
theorem hasQ_and2 {n : Nat} {a b : PyData} {held : List Str} : hasQ (n + 1) (.tuple [.str "and", a, b]) held = (hasQ n a held && hasQ n b held) := by
  rw [hasQ_and]; simp
theorem hasQ_and3 {n : Nat} {a b c : PyData} {held : List Str} : hasQ (n + 1) (.tuple [.str "and", a, b, c]) held = (hasQ n a held && (hasQ n b held && hasQ n c held)) := by
  rw [hasQ_and]; simp
theorem hasQ_or2 {n : Nat} {a b : PyData} {held : List Str} : hasQ (n + 1) (.tuple [.str "or", a, b]) held = (hasQ n a held || hasQ n b held) := by
  rw [hasQ_or]; simp
theorem hasQ_or3 {n : Nat} {a b c : PyData} {held : List Str} : hasQ (n + 1) (.tuple [.str "or", a, b, c]) held = (hasQ n a held || (hasQ n b held || hasQ n c held)) := by
  rw [hasQ_or]; simp
theorem join2 {a b : PyData} {n x y : Nat} (h1 : cnt n a = some x) (h2 : cnt n b = some y) : joinC ([a, b].map (cnt n)) = some (x + y) := by
  simp [joinC, h1, h2]
theorem join3 {a b c : PyData} {n x y z : Nat} (h1 : cnt n a = some x) (h2 : cnt n b = some y) (h3 : cnt n c = some z) : joinC ([a, b, c].map (cnt n)) = some (x + (y + z)) := by
  simp [joinC, h1, h2, h3]
theorem cnt_and2 {a b : PyData} {n x y : Nat} (h1 : cnt n a = some x) (h2 : cnt n b = some y) : cnt (n + 1) (.tuple [.str "and", a, b]) = some (x + y) := cnt_and.trans (join2 h1 h2)
theorem cnt_or2 {a b : PyData} {n x y : Nat} (h1 : cnt n a = some x) (h2 : cnt n b = some y) : cnt (n + 1) (.tuple [.str "or", a, b]) = some (x + y) := cnt_or.trans (join2 h1 h2)
theorem cnt_and3 {a b c : PyData} {n x y z : Nat} (h1 : cnt n a = some x) (h2 : cnt n b = some y) (h3 : cnt n c = some z) : cnt (n + 1) (.tuple [.str "and", a, b, c]) = some (x + (y + z)) := cnt_and.trans (join3 h1 h2 h3)
theorem cnt_or3 {a b c : PyData} {n x y z : Nat} (h1 : cnt n a = some x) (h2 : cnt n b = some y) (h3 : cnt n c = some z) : cnt (n + 1) (.tuple [.str "or", a, b, c]) = some (x + (y + z)) := cnt_or.trans (join3 h1 h2 h3)
theorem cnt_but2 {a b : PyData} {n x y : Nat} (h1 : cnt n a = some x) (h2 : cnt n b = some y) : cnt (n + 1) (.tuple [.str "but", a, b]) = some (x + y) := by
  rw [cnt_but]
  unfold butC
  rw [if_pos (show ([a, b].map (cnt n)).length = 2 from rfl)]
  exact join2 h1 h2
/-- deeper alike -/
theorem hasQ_succ : ∀ {n : Nat} {d : PyData} {m : Nat} {held : List Str}, cnt n d = some m → hasQ (n + 1) d held = hasQ n d held
  | 0, d, m, held, h => by cases h
  | n + 1, d, m, held, h => by
    have key : ∀ {ps : List PyData} {m : Nat}, joinC (ps.map (cnt n)) = some m → (ps.map fun p => hasQ (n + 1) p held) = ps.map fun p => hasQ n p held := fun {ps m} hj => List.map_congr_left fun p hp => by
      obtain ⟨c, hc⟩ := (join_some hj).2.2 p hp
      exact hasQ_succ hc
    cases cnt_inv h with
    | word hw => rw [hasQ_plc (by decide +kernel) (by decide +kernel) (by decide +kernel), hasQ_plc (by decide +kernel) (by decide +kernel) (by decide +kernel)]
    | phrase h1 h2 h3 => rw [hasQ_plc (by decide +kernel) (by decide +kernel) (by decide +kernel), hasQ_plc (by decide +kernel) (by decide +kernel) (by decide +kernel)]
    | near h1 h2 ha hb => rw [hasQ_plc (by decide +kernel) (by decide +kernel) (by decide +kernel), hasQ_plc (by decide +kernel) (by decide +kernel) (by decide +kernel)]
    | @join k ps _ h1 h2 h3 =>
      rcases h1 with rfl | rfl | rfl
      · rw [hasQ_and, hasQ_and, key h3]
      · rw [hasQ_or, hasQ_or, key h3]
      · have hl := h2 rfl
        match ps, hl with
        | [a, b], _ =>
          obtain ⟨_, _, j3⟩ := join_some h3
          obtain ⟨x, hx⟩ := j3 a (by simp)
          obtain ⟨y, hy⟩ := j3 b (by simp)
          rw [hasQ_but, hasQ_but, hasQ_succ hx, hasQ_succ hy]
/-- an if whose answer is known, the heap not -/
theorem w_ifH {tt : TT} {t u : TS} {D : Ends} {σ : L2.St} {H : Hp} (b : Bool) (I : Hp → Prop) (h : ∀ QB : Bool → Hp → Prop, (∀ H', I H' → QB b H') → tt σ H QB) (k : ∀ H', I H' → if b = true then t D σ H' else u D σ H') : tIfS tt t u D σ H := h _ k
theorem in_two' {k : Str} : inV (.str k) [.str "word", .str "phrase"] = decide (k = "word" ∨ k = "phrase") := by
  unfold inV
  simp only [List.any_cons, List.any_nil, Bool.or_false, eqV]
  by_cases h1 : k = "word"
  · subst h1
    decide +kernel
  · by_cases h2 : k = "phrase"
    · subst h2
      decide +kernel
    · rw [decide_eq_false (fun z => z.elim h1 h2)]
      simp [Ne.symm h1, Ne.symm h2]
theorem rp_strs {H : Hp} : ∀ {xs : List V} {ws : List Str}, RpAll H xs (ws.map PyData.str) → xs = ws.map V.str := fun {xs ws} h => by
  induction ws generalizing xs with
  | nil => cases h; rfl
  | cons y r ih =>
    cases h with
    | cons h1 h2 =>
      cases h1
      rw [ih h2]
      rfl
end Bw

/-! phrases and nears -/
namespace Bw
open PySem PySem.Spec PyProof.Rows L2 LamX
theorem nearP_mem {f : Int} {a b : Str} {held : List Str} {i j : Nat} : (i, j) ∈ nearP f a b held ↔ held[i]? = some a ∧ held[j]? = some b ∧ isNear f i j = true := by
  unfold nearP
  rw [List.mem_flatten]
  constructor
  · rintro ⟨l, hl, h⟩
    obtain ⟨n, hn, rfl⟩ := List.mem_map.mp hl
    obtain ⟨m, hm, e⟩ := List.mem_map.mp h
    cases e
    rw [List.mem_filter] at hm
    exact ⟨plc_mem.mp hn, plc_mem.mp hm.1, hm.2⟩
  · rintro ⟨h1, h2, h3⟩
    exact ⟨_, List.mem_map.mpr ⟨i, plc_mem.mpr h1, rfl⟩, List.mem_map.mpr ⟨j, List.mem_filter.mpr ⟨plc_mem.mpr h2, h3⟩, rfl⟩⟩
theorem runP_mem {held ur : List Str} {u : Str} {i : Nat} : i ∈ runP held (u :: ur) ↔ (held.drop i).take (u :: ur).length = u :: ur := by
  unfold runP
  rw [List.mem_filter, List.headD_cons, plc_mem]
  constructor
  · rintro ⟨_, h⟩
    exact of_decide_eq_true h
  · intro h
    refine ⟨?_, decide_eq_true h⟩
    have e : ((held.drop i).take (u :: ur).length)[0]? = some u := by rw [h]; rfl
    rw [List.getElem?_take_of_lt (by simp), List.getElem?_drop] at e
    simpa using e
theorem take_two {l : List Str} {a b : Str} : l.take 2 = [a, b] ↔ l[0]? = some a ∧ l[1]? = some b := by
  match l with
  | [] => simp
  | [x] => simp
  | x :: y :: r => simp
theorem take_three {l : List Str} {a b c : Str} : l.take 3 = [a, b, c] ↔ l[0]? = some a ∧ l[1]? = some b ∧ l[2]? = some c := by
  match l with
  | [] => simp
  | [x] => simp
  | [x, y] => simp
  | x :: y :: z :: r => simp
theorem run2 {held : List Str} {a b : Str} {i : Nat} : i ∈ runP held [a, b] ↔ held[i]? = some a ∧ held[i + 1]? = some b := by
  rw [runP_mem]
  show (held.drop i).take 2 = [a, b] ↔ _
  rw [take_two, List.getElem?_drop, List.getElem?_drop]
  rfl
theorem run3 {held : List Str} {a b c : Str} {i : Nat} : i ∈ runP held [a, b, c] ↔ held[i]? = some a ∧ held[i + 1]? = some b ∧ held[i + 2]? = some c := by
  rw [runP_mem]
  show (held.drop i).take 3 = [a, b, c] ↔ _
  rw [take_three, List.getElem?_drop, List.getElem?_drop, List.getElem?_drop]
  rfl
theorem hasN_iff {α : Type} {f : α → PyData} {l : List α} : hasN (.list (l.map f)) = true ↔ ∃ x, x ∈ l := by
  cases l with
  | nil => simp [hasN]
  | cons x r => exact ⟨fun _ => ⟨x, by simp⟩, fun _ => rfl⟩
theorem has_near {n : Nat} {f : Int} {a b : Str} {held : List Str} : hasQ (n + 1) (.tuple [.str "near", .int f, .str a, .str b]) held = true ↔ ∃ i j, held[i]? = some a ∧ held[j]? = some b ∧ isNear f i j = true := by
  rw [hasQ_plc (by decide +kernel) (by decide +kernel) (by decide +kernel), plcD_near, hasN_iff]
  constructor
  · rintro ⟨⟨i, j⟩, h⟩
    exact ⟨i, j, nearP_mem.mp h⟩
  · rintro ⟨i, j, h⟩
    exact ⟨(i, j), nearP_mem.mpr h⟩
theorem has_phrase {n : Nat} {ws held : List Str} : hasQ (n + 1) (.tuple (.str "phrase" :: ws.map PyData.str)) held = true ↔ ∃ i, i ∈ runP held ws := by
  rw [hasQ_plc (by decide +kernel) (by decide +kernel) (by decide +kernel), plcD_phrase, hasN_iff]
theorem near_of {f : Int} {i j : Nat} (h1 : 1 ≤ ((i : Int) - j).natAbs) (h2 : ((((i : Int) - j).natAbs : Nat) : Int) ≤ f) : isNear f i j = true := decide_eq_true ⟨h1, h2⟩
theorem near_inv {f : Int} {i j : Nat} (h : isNear f i j = true) : 1 ≤ ((i : Int) - j).natAbs ∧ ((((i : Int) - j).natAbs : Nat) : Int) ≤ f := of_decide_eq_true h
theorem bool_ext {a b : Bool} (h : a = true ↔ b = true) : a = b := by
  cases a <;> cases b <;> simp_all
/-- a phrase is near -/
theorem phrase_nears {n : Nat} {a b c : Str} {held : List Str} (h : hasQ (n + 2) (.tuple [.str "phrase", .str a, .str b, .str c]) held = true) :
    hasQ (n + 2) (.tuple [.str "and", .tuple [.str "near", .int 1, .str a, .str b], .tuple [.str "near", .int 1, .str b, .str c], .tuple [.str "near", .int 2, .str a, .str c]]) held = true := by
  obtain ⟨i, hi⟩ := (has_phrase (n := n + 1) (ws := [a, b, c])).mp h
  obtain ⟨h1, h2, h3⟩ := run3.mp hi
  rw [hasQ_and3, has_near.mpr ⟨i, i + 1, h1, h2, near_of (by omega) (by omega)⟩, has_near.mpr ⟨i + 1, i + 2, h2, h3, near_of (by omega) (by omega)⟩, has_near.mpr ⟨i, i + 2, h1, h3, near_of (by omega) (by omega)⟩]
  rfl
theorem near_sym {n : Nat} {f : Int} {a b : Str} {held : List Str} : hasQ (n + 1) (.tuple [.str "near", .int f, .str a, .str b]) held = hasQ (n + 1) (.tuple [.str "near", .int f, .str b, .str a]) held := by
  refine bool_ext ⟨fun h => ?_, fun h => ?_⟩
  all_goals
    obtain ⟨i, j, h1, h2, h3⟩ := has_near.mp h
    have := near_inv h3
    exact has_near.mpr ⟨j, i, h2, h1, near_of (by omega) (by omega)⟩
theorem near_up {n : Nat} {f g : Int} {a b : Str} {held : List Str} (hg : f ≤ g) (h : hasQ (n + 1) (.tuple [.str "near", .int f, .str a, .str b]) held = true) : hasQ (n + 1) (.tuple [.str "near", .int g, .str a, .str b]) held = true := by
  obtain ⟨i, j, h1, h2, h3⟩ := has_near.mp h
  have := near_inv h3
  exact has_near.mpr ⟨i, j, h1, h2, near_of (by omega) (by omega)⟩
theorem near_one {n : Nat} {a b : Str} {held : List Str} : (hasQ (n + 1) (.tuple [.str "phrase", .str a, .str b]) held || hasQ (n + 1) (.tuple [.str "phrase", .str b, .str a]) held) = hasQ (n + 1) (.tuple [.str "near", .int 1, .str a, .str b]) held := by
  refine bool_ext ⟨fun h => ?_, fun h => ?_⟩
  · rw [Bool.or_eq_true] at h
    rcases h with h | h
    · obtain ⟨i, hi⟩ := (has_phrase (ws := [a, b])).mp h
      obtain ⟨h1, h2⟩ := run2.mp hi
      exact has_near.mpr ⟨i, i + 1, h1, h2, near_of (by omega) (by omega)⟩
    · obtain ⟨i, hi⟩ := (has_phrase (ws := [b, a])).mp h
      obtain ⟨h1, h2⟩ := run2.mp hi
      exact has_near.mpr ⟨i + 1, i, h2, h1, near_of (by omega) (by omega)⟩
  · obtain ⟨i, j, h1, h2, h3⟩ := has_near.mp h
    have hn := near_inv h3
    rw [Bool.or_eq_true]
    have hij : j = i + 1 ∨ i = j + 1 := by omega
    rcases hij with rfl | rfl
    · exact .inl ((has_phrase (ws := [a, b])).mpr ⟨i, run2.mpr ⟨h1, h2⟩⟩)
    · exact .inr ((has_phrase (ws := [b, a])).mpr ⟨j, run2.mpr ⟨h2, h1⟩⟩)
/-- a longer page keeps its places -/
theorem get_longer {held : List Str} {u : List Str} {i : Nat} {a : Str} (h : held[i]? = some a) : (held ++ u)[i]? = some a := by
  rw [List.getElem?_append_left (List.getElem?_eq_some_iff.mp h).1]
  exact h
theorem near_longer {f : Int} {a b : Str} {held u : List Str} {q : Nat × Nat} (h : q ∈ nearP f a b held) : q ∈ nearP f a b (held ++ u) := by
  obtain ⟨i, j⟩ := q
  obtain ⟨h1, h2, h3⟩ := nearP_mem.mp h
  exact nearP_mem.mpr ⟨get_longer h1, get_longer h2, h3⟩
theorem run_longer {held ur us : List Str} {u : Str} {i : Nat} (h : i ∈ runP held (u :: ur)) : i ∈ runP (held ++ us) (u :: ur) := by
  rw [runP_mem] at h ⊢
  have hl : (u :: ur).length ≤ (held.drop i).length := by
    have := congrArg List.length h
    rw [List.length_take] at this
    omega
  have hi : i ≤ held.length := by
    rw [List.length_drop] at hl
    simp only [List.length_cons] at hl
    omega
  rw [List.drop_append_of_le_length hi, List.take_append_of_le_length hl]
  exact h
/-- what is in a page is in a longer one -/
theorem plcD_longer {m : Nat} {d : PyData} {held us : List Str} (hc : cnt 1 d = some m) : ∃ ds es, plcD d held = .list ds ∧ plcD d (held ++ us) = .list es ∧ GoodD (.list ds) 2 ∧ GoodD (.list es) 2 ∧ (∀ e ∈ ds, GoodD e 1) ∧ ∀ e ∈ ds, e ∈ es := by
  cases cnt_inv hc with
  | word hw =>
    refine ⟨_, _, plcD_word, plcD_word, good_nD _, good_nD _, fun e he => ?_, fun e he => ?_⟩
    · obtain ⟨n, _, rfl⟩ := List.mem_map.mp he
      exact good_int
    · obtain ⟨n, hn, rfl⟩ := List.mem_map.mp he
      exact List.mem_map.mpr ⟨n, run_longer hn, rfl⟩
  | @phrase ws a b c =>
    refine ⟨_, _, plcD_phrase, plcD_phrase, good_nD _, good_nD _, fun e he => ?_, fun e he => ?_⟩
    · obtain ⟨n, _, rfl⟩ := List.mem_map.mp he
      exact good_int
    · obtain ⟨n, hn, rfl⟩ := List.mem_map.mp he
      match ws, a with
      | u :: ur, _ => exact List.mem_map.mpr ⟨n, run_longer hn, rfl⟩
  | near a b c d =>
    refine ⟨_, _, plcD_near, plcD_near, good_pD _, good_pD _, fun e he => ?_, fun e he => ?_⟩
    · obtain ⟨q, _, rfl⟩ := List.mem_map.mp he
      exact good_tuple fun e he => by
        simp only [List.mem_cons, List.not_mem_nil, or_false] at he
        rcases he with rfl | rfl
        · exact good_int
        · exact good_int
    · obtain ⟨q, hq, rfl⟩ := List.mem_map.mp he
      exact List.mem_map.mpr ⟨q, near_longer hq, rfl⟩
  | @join k ps _ a b c =>
    obtain ⟨j1, j2, j3⟩ := join_some c
    cases ps with
    | nil => simp at j1
    | cons p r =>
      obtain ⟨c, hc⟩ := j3 p (by simp)
      cases hc
theorem units65 {k : Nat} {A : Around} (r : Room k A) : A.units + 65 < cLine := by have := r.un; omega
theorem w_gunl {K : PySem.W.Frag} {n : Nat} {t : TGs} {a : Addr} {xs : List V} {σ : L2.St} {H : Hp} {Q2 : L2.St → Hp → Prop} (h : SqL K H a xs) (hn : xs.length = n) (q : t xs σ H Q2) : gUnl K n t (.ref a) σ H Q2 := ⟨a, xs, rfl, h, hn, q⟩
theorem w_notInD {K : PySem.W.Frag} {x y : V} {d : PyData} {ds : List PyData} {n : Nat} {H : Hp} {Q : VK} (hx : Dp K H x d) (hy : Dp K H y (.list ds)) (g : GoodD d n) (gs : GoodD (.list ds) n) (hn : n ≤ 64) (hm : d ∈ ds) (q : Q (.bl false) H) : rNotInD K x y H Q := by
  refine ⟨d, ds, hx, hy, g.shaped hn, gs.shaped hn, ?_⟩
  have e : (ds.any fun z => PyData.eqv z d) = true := by
    rw [List.any_eq_true]
    exact ⟨d, hm, g.refl⟩
  rw [e]
  exact q
end Bw

/-! the law's own way to runs and pairs -/
namespace Bw
open PySem PySem.Spec PyProof.Rows L2 LamX
def lrun (ws us : List Str) : List Nat := (List.range ws.length).filter fun i => decide ((ws.drop i).take us.length = us)
/-- a comprehension, the gathered list known -/
theorem lc_finD {J : It} {n : Nat} {ok : Hp → Prop} {it : Nat → V → Hp → Hp → Prop} {g : TG} {tt : TT} {te : TE} {vs : List Nat} {σ : L2.St} {H1 : Hp} {Qd : Hp → Prop} (F : Fini J n ok it) {D : Addr} (nD : H1 D = none) (Iv : Nat → List V → Hp → Prop)
    (h0 : ∀ H2, Same H1 H2 → H2 D = some (.lst []) → Iv 0 [] H2) (hl : ∀ i acc H, i ≤ n → Iv i acc H → ok H)
    (hs : ∀ i x acc H H', i < n → acc.length ≤ i → Iv i acc H → H D = some (.lst acc) → it i x H H' → g x (wipe σ vs) H' fun σ2 H2 => wipe σ2 vs = wipe σ vs ∧ tt σ2 H2 fun b H3 =>
      if b = true then te σ2 H3 fun y H4 => ∃ acc, H4 D = some (.lst acc) ∧ acc.length < sizeLine ∧ NxI D i Iv (upd H4 D (.lst (acc ++ [y]))) else NxI D i Iv H3)
    (hd : ∀ acc H, Iv n acc H → acc.length ≤ n → H D = some (.lst acc) → Qd H) :
    ∃ W : Nat → Nat → Hp → Prop, (∃ m, W 0 m (upd H1 D (.lst []))) ∧ ∀ i m H, W i m H →
      (J.stop i H ∧ Qd H) ∨ (J.go i H ∧ ∃ Nx : Hp → Prop, (∀ H', Nx H' → ∃ m', m' < m ∧ W (i + 1) m' H') ∧ ∀ x H', J.yld i H x H' → g x (wipe σ vs) H' fun σ2 H2 => wipe σ2 vs = wipe σ vs ∧ tt σ2 H2 fun b H3 =>
        if b = true then te σ2 H3 fun y H4 => ∃ acc, H4 D = some (.lst acc) ∧ acc.length < sizeLine ∧ Nx (upd H4 D (.lst (acc ++ [y]))) else Nx H3) := by
  refine ⟨fun i m H => m = n - i ∧ i ≤ n ∧ ∃ acc, acc.length ≤ i ∧ H D = some (.lst acc) ∧ Iv i acc H, ⟨n, by simp, Nat.zero_le _, [], Nat.le_refl _, upd_same, h0 _ (same_new nD) upd_same⟩, ?_⟩
  rintro i m H ⟨rfl, hi, acc, hacc, hD, p⟩
  have o := hl i acc H hi p
  rcases Nat.lt_or_ge i n with hlt | hge
  · exact .inr ⟨F.go i H hlt o, NxI D i Iv, fun H' p' => ⟨n - (i + 1), by omega, rfl, hlt, p'⟩, fun x H' y => hs i x acc H H' hlt hacc p hD (F.yl i H x H' hlt o y)⟩
  · obtain rfl : i = n := Nat.le_antisymm hi hge
    exact .inl ⟨F.st H o, hd acc H p hacc hD⟩
/-- a.join(l), within a comprehension -/
abbrev rJoin (K : PySem.W.Frag) : V → List V → Hp → VK → Prop := fun x xs H Q => ∃ a p, ∃ ys : List Str, x = .str a ∧ xs = [.ref p] ∧ (SqL K H p (ys.map V.str) ∨ SqT K H p (ys.map V.str)) ∧
      (ys.map (·.length)).sum + ys.length * a.length ≤ 16777216 ∧ Q (.str (Txt.join a ys)) H
/-- an if: what its test tells, whichever answer -/
theorem w_ifX {tt : TT} {t u : TS} {D : Ends} {σ : L2.St} {H : Hp} (I : Bool → Hp → Prop) (h : ∀ QB : Bool → Hp → Prop, (∀ b H', I b H' → QB b H') → tt σ H QB) (k : ∀ b H', I b H' → if b = true then t D σ H' else u D σ H') : tIfS tt t u D σ H := h _ k
theorem lrun_eq {ws us : List Str} (h : us ≠ []) : lrun ws us = runP ws us := by
  obtain ⟨u, ur, rfl⟩ : ∃ u ur, us = u :: ur := by
    cases us with
    | nil => exact absurd rfl h
    | cons u ur => exact ⟨u, ur, rfl⟩
  unfold lrun runP plc
  rw [List.filter_filter]
  refine List.filter_congr fun i hi => ?_
  rw [List.headD_cons]
  by_cases hp : (ws.drop i).take (u :: ur).length = u :: ur
  · have hm := runP_mem.mpr hp
    unfold runP at hm
    rw [List.mem_filter, List.headD_cons, plc_mem] at hm
    rw [decide_eq_true hp, decide_eq_true hm.1]
    rfl
  · rw [decide_eq_false hp]
    rfl
/-- plain data that fit, by reckoning -/
def fitB : Nat → PyData → Bool
  | _, .none => true
  | _, .bool _ => true
  | _, .int _ => true
  | _, .str x => decide (x.length ≤ 1000) && PyData.strOk x
  | n + 1, .tuple ds => decide (ds.length ≤ 1000) && ds.all (fitB n)
  | n + 1, .list ds => decide (ds.length ≤ 1000) && ds.all (fitB n)
  | _, _ => false
theorem fitB_ok : ∀ {n : Nat} {d : PyData}, fitB n d = true → Fit n d := by
  intro n
  induction n with
  | zero =>
    intro d h
    cases d with
    | none => exact .inl (.inl rfl)
    | bool b => exact .inl (.inr (.inl ⟨b, rfl⟩))
    | int i => exact .inl (.inr (.inr ⟨i, rfl⟩))
    | str x =>
      unfold fitB at h
      rw [Bool.and_eq_true] at h
      exact .inr ⟨x, rfl, of_decide_eq_true h.1, h.2⟩
    | _ => cases h
  | succ n ih =>
    intro d h
    cases d with
    | none => exact .inl (.inl (.inl rfl))
    | bool b => exact .inl (.inl (.inr (.inl ⟨b, rfl⟩)))
    | int i => exact .inl (.inl (.inr (.inr ⟨i, rfl⟩)))
    | str x =>
      unfold fitB at h
      rw [Bool.and_eq_true] at h
      exact .inl (.inr ⟨x, rfl, of_decide_eq_true h.1, h.2⟩)
    | tuple ds =>
      unfold fitB at h
      rw [Bool.and_eq_true, List.all_eq_true] at h
      exact .inr ⟨ds, .inl rfl, of_decide_eq_true h.1, fun e he => ih (h.2 e he)⟩
    | list ds =>
      unfold fitB at h
      rw [Bool.and_eq_true, List.all_eq_true] at h
      exact .inr ⟨ds, .inr rfl, of_decide_eq_true h.1, fun e he => ih (h.2 e he)⟩
    | _ => cases h
/-- the pairs of one place -/
def pairsAt (f : Nat) (a b : Str) (ws : List Str) (i e : Nat) : List (Nat × Nat) :=
  ((List.range' (i - f) e).filter fun j => decide (i ≠ j ∧ ws[i]? = some a ∧ ws[j]? = some b)).map fun j => (i, j)
def wide (f n i : Nat) : Nat := min n (i + f + 1) - (i - f)
def lpairs (f : Nat) (a b : Str) (ws : List Str) (e : Nat) : List (Nat × Nat) := ((List.range e).map fun i => pairsAt f a b ws i (wide f ws.length i)).flatten
theorem flat_filter {α β : Type} (p : α → Bool) (g : α → List β) (l : List α) : ((l.filter p).map g).flatten = (l.map fun i => if p i = true then g i else []).flatten := by
  induction l with
  | nil => rfl
  | cons x r ih =>
    rw [List.filter_cons]
    by_cases h : p x = true
    · rw [if_pos h, List.map_cons, List.flatten_cons, ih, List.map_cons, List.flatten_cons, if_pos h]
    · rw [if_neg h, ih, List.map_cons, List.flatten_cons, if_neg h, List.nil_append]
theorem filter_none {α : Type} {p : α → Bool} {l : List α} (h : ∀ x ∈ l, p x = false) : l.filter p = [] := by
  rw [List.filter_eq_nil_iff]
  intro x hx
  rw [h x hx]
  exact Bool.false_ne_true
/-- a window of the places -/
theorem win {p : Nat → Bool} {n lo hi : Nat} (h1 : lo ≤ hi) (h2 : hi ≤ n) (h : ∀ j, j < n → p j = true → lo ≤ j ∧ j < hi) : (List.range n).filter p = (List.range' lo (hi - lo)).filter p := by
  have e1 : List.range n = List.range' 0 lo ++ (List.range' lo (hi - lo) ++ List.range' hi (n - hi)) := by
    have z1 := List.range'_append_1 (s := lo) (m := hi - lo) (n := n - hi)
    rw [show lo + (hi - lo) = hi by omega] at z1
    have z2 := List.range'_append_1 (s := 0) (m := lo) (n := hi - lo + (n - hi))
    rw [Nat.zero_add] at z2
    rw [z1, z2, List.range_eq_range', show lo + (hi - lo + (n - hi)) = n by omega]
  rw [e1, List.filter_append, List.filter_append]
  rw [filter_none (l := List.range' 0 lo) (fun x hx => ?_), filter_none (l := List.range' hi (n - hi)) (fun x hx => ?_), List.nil_append, List.append_nil]
  · rw [List.mem_range'_1] at hx
    cases hp : p x with
    | false => rfl
    | true => have := h x (by omega) hp; omega
  · rw [List.mem_range'_1] at hx
    cases hp : p x with
    | false => rfl
    | true => have := h x (by omega) hp; omega
theorem lpairs_eq {f : Nat} {a b : Str} {ws : List Str} : lpairs f a b ws ws.length = nearP f a b ws := by
  unfold lpairs nearP plc
  rw [flat_filter]
  refine congrArg List.flatten (List.map_congr_left fun i hi => ?_)
  rw [List.mem_range] at hi
  unfold pairsAt wide
  by_cases ha : ws[i]? = some a
  · rw [if_pos (decide_eq_true ha)]
    congr 1
    rw [List.filter_filter, win (n := ws.length) (lo := i - f) (hi := min ws.length (i + f + 1)) (by omega) (by omega) (fun j hj hp => ?_)]
    · refine List.filter_congr fun j hj => ?_
      rw [List.mem_range'_1] at hj
      by_cases hb : ws[j]? = some b
      · rw [decide_eq_true hb, Bool.and_true]
        by_cases hij : i = j
        · rw [decide_eq_false (fun z => z.1 hij)]
          exact (decide_eq_false (fun z => by have := z.1; omega)).symm
        · rw [decide_eq_true ⟨hij, ha, hb⟩]
          exact (near_of (by omega) (by omega)).symm
      · rw [decide_eq_false hb, Bool.and_false, decide_eq_false (fun z => hb z.2.2)]
    · rw [Bool.and_eq_true] at hp
      have := near_inv hp.1
      omega
  · rw [if_neg (by rw [decide_eq_false ha]; exact Bool.false_ne_true), filter_none (fun j _ => decide_eq_false fun z => ha z.2.1)]
    rfl
end Bw

namespace CM
/-! codes of numbers, as lists of signs -/
def eIx (c : Nat) : Option Nat := if 97 ≤ c ∧ c ≤ 112 then some (c - 97) else none
def fIx (c : Nat) : Option Nat := if 65 ≤ c ∧ c ≤ 80 then some (c - 65) else none
theorem eIx_end {d : Nat} (h : d < 16) : eIx (97 + d) = some d := by
  unfold eIx
  rw [if_pos ⟨by omega, by omega⟩]
  congr 1
  omega
theorem eIx_fur {d : Nat} (h : d < 16) : eIx (65 + d) = none := by
  unfold eIx
  rw [if_neg (fun z => by omega)]
theorem fIx_fur {d : Nat} (h : d < 16) : fIx (65 + d) = some d := by
  unfold fIx
  rw [if_pos ⟨by omega, by omega⟩]
  congr 1
  omega
theorem eIx_some {c d : Nat} (h : eIx c = some d) : c = 97 + d ∧ d < 16 := by
  unfold eIx at h
  split at h
  · cases h
    omega
  · cases h
theorem fIx_some {c d : Nat} (h : fIx c = some d) : c = 65 + d ∧ d < 16 := by
  unfold fIx at h
  split at h
  · cases h
    omega
  · cases h
def codeL (n : Nat) : List Nat := if n < 16 then [97 + n] else (65 + n % 16) :: codeL (n / 16)
termination_by n
decreasing_by omega
theorem codeL_lt {n : Nat} (h : n < 16) : codeL n = [97 + n] := by rw [codeL, if_pos h]
theorem codeL_ge {n : Nat} (h : 16 ≤ n) : codeL n = (65 + n % 16) :: codeL (n / 16) := by rw [codeL, if_neg (by omega)]
theorem codeL_len {k : Nat} : ∀ {n : Nat}, n < 16 ^ (k + 1) → (codeL n).length ≤ k + 1 := by
  induction k with
  | zero => intro n h; rw [codeL_lt (by simpa using h)]; simp
  | succ k ih =>
    intro n h
    rcases Nat.lt_or_ge n 16 with h1 | h1
    · rw [codeL_lt h1]; simp
    · rw [codeL_ge h1, List.length_cons]
      have : n / 16 < 16 ^ (k + 1) := by
        rw [Nat.div_lt_iff_lt_mul (by decide)]
        rw [Nat.pow_succ] at h
        exact h
      have := ih this
      omega
theorem codeL_ne {n : Nat} : codeL n ≠ [] := by
  rw [codeL]
  split <;> simp
theorem codeL_signs : ∀ {n : Nat}, ∀ c ∈ codeL n, c < 128 := by
  intro n
  induction n using Nat.strongRecOn with
  | ind n ih =>
    intro c hc
    rcases Nat.lt_or_ge n 16 with h1 | h1
    · rw [codeL_lt h1] at hc
      simp at hc
      omega
    · rw [codeL_ge h1] at hc
      rcases List.mem_cons.mp hc with h | h
      · omega
      · exact ih _ (by omega) c h
/-- the digits, the least one first -/
def digs (n : Nat) : List Nat := if n < 16 then [n] else (n % 16) :: digs (n / 16)
termination_by n
decreasing_by omega
theorem digs_lt {n : Nat} (h : n < 16) : digs n = [n] := by rw [digs, if_pos h]
theorem digs_ge {n : Nat} (h : 16 ≤ n) : digs n = (n % 16) :: digs (n / 16) := by rw [digs, if_neg (by omega)]
theorem digs_ne {n : Nat} : digs n ≠ [] := by
  rw [digs]
  split <;> simp
theorem digs_16 : ∀ {n : Nat}, ∀ d ∈ digs n, d < 16 := by
  intro n
  induction n using Nat.strongRecOn with
  | ind n ih =>
    intro c hc
    rcases Nat.lt_or_ge n 16 with h1 | h1
    · rw [digs_lt h1] at hc
      simp at hc
      omega
    · rw [digs_ge h1] at hc
      rcases List.mem_cons.mp hc with h | h
      · omega
      · exact ih _ (by omega) c h
def finL : List Nat → List Nat
  | [] => []
  | [d] => [97 + d]
  | d :: e :: r => (65 + d) :: finL (e :: r)
theorem codeL_fin : ∀ {n : Nat}, codeL n = finL (digs n) := by
  intro n
  induction n using Nat.strongRecOn with
  | ind n ih =>
    rcases Nat.lt_or_ge n 16 with h1 | h1
    · rw [codeL_lt h1, digs_lt h1]
      rfl
    · rw [codeL_ge h1, digs_ge h1, ih _ (by omega)]
      cases h : digs (n / 16) with
      | nil => exact absurd h digs_ne
      | cons d r => rfl
theorem digs_len {n : Nat} : (digs n).length = (codeL n).length := by
  rw [codeL_fin]
  generalize digs n = l
  induction l with
  | nil => rfl
  | cons d r ih =>
    cases r with
    | nil => rfl
    | cons e s => simpa [finL] using ih
theorem finL_last : ∀ {ds : List Nat} {i d : Nat}, ds[i]? = some d → i + 1 = ds.length → finL ds = (ds.take i).map (65 + ·) ++ [97 + d]
  | [], i, d, h, _ => by simp at h
  | [x], i, d, h, hl => by
    have : i = 0 := by simp at hl; omega
    subst this
    simp at h
    subst h
    rfl
  | x :: y :: r, 0, d, h, hl => by simp at hl
  | x :: y :: r, i + 1, d, h, hl => by
    have := finL_last (ds := y :: r) (i := i) (d := d) (by simpa using h) (by simpa using hl)
    simp only [finL, this, List.take_succ_cons, List.map_cons, List.cons_append]
/-- a number's code is read; i: the place -/
def rdNum : List Nat → Nat → Nat → Nat → Bool → Except Nat (Nat × Nat)
  | [], i, _, _, _ => .error i
  | c :: r, i, told, scale, fst => match eIx c with
    | some d => if d = 0 ∧ fst = false then .error i else .ok (told + scale * d, i + 1)
    | none => match fIx c with
      | some d => rdNum r (i + 1) (told + scale * d) (scale * 16) false
      | none => .error i
/-- all codes of a text are read -/
def sc : List Nat → Nat → Nat → Nat → List Nat → Except Nat (List Nat)
  | [], i, _, scale, acc => if scale = 1 then .ok acc else .error i
  | c :: r, i, num, scale, acc => match eIx c with
    | some d => if d = 0 ∧ scale ≠ 1 then .error i else sc r (i + 1) 0 1 (acc ++ [num + scale * d])
    | none => match fIx c with
      | some d => sc r (i + 1) (num + scale * d) (scale * 16) acc
      | none => .error i
theorem sc_cons (c : Nat) (r : List Nat) (i num scale : Nat) (acc : List Nat) : sc (c :: r) i num scale acc = match eIx c with
    | some d => if d = 0 ∧ scale ≠ 1 then .error i else sc r (i + 1) 0 1 (acc ++ [num + scale * d])
    | none => match fIx c with
      | some d => sc r (i + 1) (num + scale * d) (scale * 16) acc
      | none => .error i := rfl
theorem rd_cons (c : Nat) (r : List Nat) (i told scale : Nat) (fst : Bool) : rdNum (c :: r) i told scale fst = match eIx c with
    | some d => if d = 0 ∧ fst = false then .error i else .ok (told + scale * d, i + 1)
    | none => match fIx c with
      | some d => rdNum r (i + 1) (told + scale * d) (scale * 16) false
      | none => .error i := rfl
theorem rd_le : ∀ {cs : List Nat} {i told scale : Nat} {fst : Bool} {n j : Nat}, rdNum cs i told scale fst = .ok (n, j) → i < j ∧ j ≤ i + cs.length
  | [], i, told, scale, fst, n, j, h => by simp [rdNum] at h
  | c :: r, i, told, scale, fst, n, j, h => by
    unfold rdNum at h
    split at h
    · split at h
      · cases h
      · cases h
        simp
    · split at h
      · have := rd_le h
        simp only [List.length_cons]
        omega
      · cases h
theorem drop_next {t : List Nat} {i : Nat} {c : Nat} {r : List Nat} (h : t.drop i = c :: r) : t.drop (i + 1) = r := by
  rw [← List.drop_drop, h]
  rfl
theorem sc_rd {t : List Nat} : ∀ {cs : List Nat} {i num scale : Nat} {fst : Bool} {acc : List Nat}, t.drop i = cs → 0 < scale → (fst = true ↔ scale = 1) → (cs ≠ [] ∨ fst = false) →
    sc cs i num scale acc = match rdNum cs i num scale fst with
      | .error k => .error k
      | .ok (n, j) => sc (t.drop j) j 0 1 (acc ++ [n])
  | [], i, num, scale, fst, acc, ht, hs, hf, hn => by
    have h : ¬ scale = 1 := fun z => by
      have := hf.mpr z
      rcases hn with h | h
      · exact h rfl
      · rw [h] at this
        cases this
    simp [sc, rdNum, h]
  | c :: r, i, num, scale, fst, acc, ht, hs, hf, hn => by
    rw [sc_cons, rd_cons]
    cases he : eIx c with
    | some d =>
      have e : (d = 0 ∧ scale ≠ 1) ↔ (d = 0 ∧ fst = false) := by
        constructor
        · intro ⟨a, b⟩
          refine ⟨a, ?_⟩
          cases fst with
          | true => exact absurd (hf.mp rfl) b
          | false => rfl
        · intro ⟨a, b⟩
          exact ⟨a, fun z => by rw [b] at hf; exact absurd (hf.mpr z) Bool.noConfusion⟩
      by_cases hd : d = 0 ∧ fst = false
      · simp only [if_pos hd, if_pos (e.mpr hd)]
      · simp only [if_neg hd, if_neg (fun z => hd (e.mp z)), drop_next ht]
    | none =>
      cases hfx : fIx c with
      | some d =>
        simp only
        exact sc_rd (drop_next ht) (by omega) ⟨fun h => Bool.noConfusion h, fun h => by omega⟩ (.inr rfl)
      | none => rfl
theorem sc_step {t : List Nat} {i : Nat} {acc : List Nat} (h : i < t.length) : sc (t.drop i) i 0 1 acc = match rdNum (t.drop i) i 0 1 true with
      | .error k => .error k
      | .ok (n, j) => sc (t.drop j) j 0 1 (acc ++ [n]) :=
  sc_rd rfl (by omega) (by simp) (.inl (fun z => by
    have := congrArg List.length z
    simp at this
    omega))
theorem sc_end {t : List Nat} {i : Nat} {acc : List Nat} (h : t.length ≤ i) : sc (t.drop i) i 0 1 acc = .ok acc := by
  rw [List.drop_eq_nil_of_le h]
  rfl
/-- a code ahead -/
theorem sc_code {rest : List Nat} : ∀ {n i num scale : Nat} {acc : List Nat}, 0 < scale → (scale = 1 ∨ 0 < n) → sc (codeL n ++ rest) i num scale acc = sc rest (i + (codeL n).length) 0 1 (acc ++ [num + scale * n]) := by
  intro n
  induction n using Nat.strongRecOn with
  | ind n ih =>
    intro i num scale acc hs hn
    rcases Nat.lt_or_ge n 16 with h1 | h1
    · rw [codeL_lt h1]
      show sc ((97 + n) :: rest) i num scale acc = _
      rw [sc_cons, eIx_end h1]
      have : ¬ (n = 0 ∧ scale ≠ 1) := fun z => by omega
      simp only [if_neg this]
      rfl
    · rw [codeL_ge h1]
      show sc ((65 + n % 16) :: (codeL (n / 16) ++ rest)) i num scale acc = _
      rw [sc_cons, eIx_fur (by omega), fIx_fur (by omega)]
      simp only
      rw [ih (n / 16) (by omega) (by omega) (.inr (by omega)), List.length_cons]
      have e1 : i + 1 + (codeL (n / 16)).length = i + ((codeL (n / 16)).length + 1) := by omega
      have e2 : num + scale * (n % 16) + scale * 16 * (n / 16) = num + scale * n := by
        have : scale * n = scale * (16 * (n / 16) + n % 16) := by rw [Nat.div_add_mod]
        rw [this, Nat.mul_add, Nat.mul_assoc]
        omega
      rw [e1, e2]
theorem sc_all : ∀ {ns : List Nat} {i : Nat} {acc : List Nat}, sc (ns.map codeL).flatten i 0 1 acc = .ok (acc ++ ns)
  | [], i, acc => by simp [sc]
  | n :: r, i, acc => by
    rw [List.map_cons, List.flatten_cons, sc_code (by decide) (.inl rfl), sc_all]
    simp
/-- what is read is the code of what was told: pre, the signs of the number under way -/
theorem sc_only : ∀ {cs : List Nat} {i num k : Nat} {pre acc ns : List Nat}, num < 16 ^ k → (∀ m, codeL (num + 16 ^ k * m) = pre ++ codeL m ∨ (m = 0 ∧ k ≠ 0)) → sc cs i num (16 ^ k) acc = .ok ns →
    (acc.map codeL).flatten ++ pre ++ cs = (ns.map codeL).flatten
  | [], i, num, k, pre, acc, ns, hk, hp, h => by
    unfold sc at h
    split at h
    · rename_i hs
      have k0 : k = 0 := by
        rcases Nat.eq_zero_or_pos k with h | h
        · exact h
        · have : 16 ^ 1 ≤ 16 ^ k := Nat.pow_le_pow_right (by decide) h
          omega
      subst k0
      have n0 : num = 0 := by simpa using hk
      subst n0
      cases h
      have := hp 1
      rcases this with h | h
      · simp at h
        have : pre = [] := by
          have := congrArg List.length h
          simp at this
          exact this
        simp [this]
      · omega
    · cases h
  | c :: r, i, num, k, pre, acc, ns, hk, hp, h => by
    rw [sc_cons] at h
    cases he : eIx c with
    | some d =>
      rw [he] at h
      obtain ⟨hc, hd⟩ := eIx_some he
      simp only at h
      split at h
      · cases h
      · rename_i hn
        have := sc_only (num := 0) (k := 0) (pre := []) (by simp) (fun m => .inl (by simp)) (by simpa using h)
        rw [← this]
        have hcode : codeL (num + 16 ^ k * d) = pre ++ [c] := by
          rcases hp d with h | h
          · rw [h, codeL_lt hd, hc]
          · exfalso
            refine hn ⟨h.1, fun z => ?_⟩
            have : 16 ^ 1 ≤ 16 ^ k := Nat.pow_le_pow_right (by decide) (by omega)
            omega
        simp [hcode]
    | none =>
      rw [he] at h
      cases hfx : fIx c with
      | none => rw [hfx] at h; cases h
      | some d =>
        rw [hfx] at h
        obtain ⟨hc, hd⟩ := fIx_some hfx
        simp only at h
        have e : 16 ^ k * 16 = 16 ^ (k + 1) := (Nat.pow_succ ..).symm
        rw [e] at h
        have hb : num + 16 ^ k * d < 16 ^ (k + 1) := by
          rw [← e]
          have : 16 ^ k * d ≤ 16 ^ k * 15 := Nat.mul_le_mul_left _ (by omega)
          omega
        have := sc_only (pre := pre ++ [c]) hb (fun m => ?_) h
        · rw [← this]
          simp
        · rcases Nat.eq_zero_or_pos m with h0 | h0
          · exact .inr ⟨h0, by omega⟩
          · refine .inl ?_
            have e2 : num + 16 ^ k * d + 16 ^ (k + 1) * m = num + 16 ^ k * (d + 16 * m) := by
              rw [← e, Nat.mul_add, Nat.mul_assoc]
              omega
            rw [e2]
            rcases hp (d + 16 * m) with h | h
            · rw [h, codeL_ge (by omega), hc]
              have e3 : (d + 16 * m) % 16 = d := by omega
              have e4 : (d + 16 * m) / 16 = m := by omega
              rw [e3, e4]
              simp
            · omega
theorem sc_unique {cs ns : List Nat} (h : sc cs 0 0 1 [] = .ok ns) : cs = (ns.map codeL).flatten := by
  have := sc_only (num := 0) (k := 0) (pre := []) (by simp) (fun m => .inl (by simp)) (by simpa using h)
  simpa using this
end CM

namespace CM
/-! rising lists and their gaps; b: the least number that may come -/
def gapsN : Nat → List Nat → List Nat
  | _, [] => []
  | b, n :: r => (n - b) :: gapsN (n + 1) r
def unGap : Nat → List Nat → List Nat
  | _, [] => []
  | b, g :: r => (b + g) :: unGap (b + g + 1) r
def Rising : Nat → List Nat → Prop
  | _, [] => True
  | b, n :: r => b ≤ n ∧ Rising (n + 1) r
theorem un_gaps : ∀ {b : Nat} {ns : List Nat}, Rising b ns → unGap b (gapsN b ns) = ns
  | _, [], _ => rfl
  | b, n :: r, h => by
    have e : b + (n - b) = n := by have := h.1; omega
    simp only [gapsN, unGap, e, un_gaps h.2]
theorem gaps_un : ∀ {b : Nat} {gs : List Nat}, gapsN b (unGap b gs) = gs
  | _, [] => rfl
  | b, g :: r => by
    have e : b + g - b = g := by omega
    simp only [unGap, gapsN, e, gaps_un]
theorem rising_un : ∀ {b : Nat} {gs : List Nat}, Rising b (unGap b gs)
  | _, [] => trivial
  | b, g :: r => ⟨by omega, rising_un⟩
theorem gaps_le : ∀ {b : Nat} {ns : List Nat} {c : Nat}, (∀ n ∈ ns, n < c) → ∀ g ∈ gapsN b ns, g < c
  | _, [], c, _, g, hg => by simp [gapsN] at hg
  | b, n :: r, c, h, g, hg => by
    rcases List.mem_cons.mp hg with rfl | hg
    · have := h n List.mem_cons_self
      omega
    · exact gaps_le (fun m hm => h m (List.mem_cons_of_mem _ hm)) g hg
theorem gaps_len : ∀ {b : Nat} {ns : List Nat}, (gapsN b ns).length = ns.length
  | _, [] => rfl
  | b, n :: r => by simp [gapsN, gaps_len]
theorem un_len : ∀ {b : Nat} {ns : List Nat}, (unGap b ns).length = ns.length
  | _, [] => rfl
  | b, n :: r => by simp [unGap, un_len]
/-- where the next one begins -/
def nextB (b : Nat) (l : List Nat) : Nat := match l.getLast? with
  | none => b
  | some n => n + 1
theorem nextB_snoc {b : Nat} {l : List Nat} {n : Nat} : nextB b (l ++ [n]) = n + 1 := by
  unfold nextB
  rw [List.getLast?_concat]
theorem nextB_cons {b n : Nat} {l : List Nat} : nextB b (n :: l) = nextB (n + 1) l := by
  unfold nextB
  cases l with
  | nil => rfl
  | cons m r => rw [List.getLast?_cons_cons]; cases h : (m :: r).getLast? with
    | none => simp at h
    | some x => rfl
theorem un_snoc : ∀ {b : Nat} {gs : List Nat} {g : Nat}, unGap b (gs ++ [g]) = unGap b gs ++ [nextB b (unGap b gs) + g]
  | b, [], g => by simp [unGap, nextB]
  | b, h :: r, g => by
    simp only [List.cons_append, unGap, un_snoc (gs := r), nextB_cons]
theorem gaps_snoc : ∀ {b : Nat} {ns : List Nat} {n : Nat}, gapsN b (ns ++ [n]) = gapsN b ns ++ [n - nextB b ns]
  | b, [], n => by simp [gapsN, nextB]
  | b, m :: r, n => by
    simp only [List.cons_append, gapsN, gaps_snoc (ns := r), nextB_cons]
theorem rising_snoc : ∀ {b : Nat} {ns : List Nat} {n : Nat}, Rising b ns → nextB b ns ≤ n → Rising b (ns ++ [n])
  | b, [], n, _, h => ⟨by simpa [nextB] using h, trivial⟩
  | b, m :: r, n, h, h2 => ⟨h.1, rising_snoc h.2 (by rwa [nextB_cons] at h2)⟩
theorem rising_take {b : Nat} : ∀ {ns : List Nat} {i : Nat}, Rising b ns → Rising b (ns.take i) := by
  intro ns
  induction ns generalizing b with
  | nil => intro i _; simp [Rising]
  | cons m r ih =>
    intro i h
    cases i with
    | zero => exact trivial
    | succ i => exact ⟨h.1, ih h.2⟩
theorem rising_at {b : Nat} : ∀ {ns : List Nat} {i n : Nat}, Rising b ns → ns[i]? = some n → nextB b (ns.take i) ≤ n := by
  intro ns
  induction ns generalizing b with
  | nil => intro i n _ h; simp at h
  | cons m r ih =>
    intro i n h hn
    cases i with
    | zero =>
      simp at hn
      subst hn
      exact h.1
    | succ i =>
      rw [List.take_succ_cons, nextB_cons]
      exact ih h.2 (by simpa using hn)
theorem nextB_at {b : Nat} {ns : List Nat} {j n : Nat} (h : ns[j]? = some n) : nextB b (ns.take (j + 1)) = n + 1 := by
  rw [List.take_add_one, h]
  exact nextB_snoc
theorem codeL_bound : ∀ {n : Nat}, n < 16 ^ (codeL n).length := by
  intro n
  induction n using Nat.strongRecOn with
  | ind n ih =>
    rcases Nat.lt_or_ge n 16 with h | h
    · rw [codeL_lt h]
      simpa using h
    · rw [codeL_ge h, List.length_cons, Nat.pow_succ]
      have := ih (n / 16) (by omega)
      omega
theorem len_flat {ns : List Nat} {n : Nat} (h : n ∈ ns) : (codeL n).length ≤ (ns.map codeL).flatten.length := by
  induction ns with
  | nil => cases h
  | cons m r ih =>
    simp only [List.map_cons, List.flatten_cons, List.length_append]
    rcases List.mem_cons.mp h with rfl | h
    · omega
    · have := ih h
      omega
theorem count_flat (ns : List Nat) : ns.length ≤ (ns.map codeL).flatten.length := by
  induction ns with
  | nil => simp
  | cons m r ih =>
    simp only [List.map_cons, List.flatten_cons, List.length_append, List.length_cons]
    have : 0 < (codeL m).length := List.length_pos_iff.mpr codeL_ne
    omega
end CM

/-! data that stay while one list changes; data of bounded width and depth; tuples put together, any -/
namespace Bw
open PySem PySem.Spec PyProof.Rows L2 LamX
/-- all but what S holds stays -/
def KS (S : Addr → Prop) (H H' : Hp) : Prop := ∀ c o, H c = some o → ¬ S c → H' c = some o
/-- S holds lists alone -/
def SL (S : Addr → Prop) (H : Hp) : Prop := ∀ c, S c → ∃ ys, H c = some (.lst ys)
/-- stands for d, whatever becomes of S -/
def RpX (S : Addr → Prop) (H : Hp) (v : V) (d : PyData) : Prop := ∀ H', KS S H H' → Rp H' v d
def RpsX (S : Addr → Prop) (H : Hp) (xs : List V) (ds : List PyData) : Prop := ∀ H', KS S H H' → RpAll H' xs ds
section
variable {S : Addr → Prop} {H H' : Hp}
theorem KS.refl : KS S H H := fun _ _ h _ => h
theorem KS.trans {H2 : Hp} (a : KS S H H') (b : KS S H' H2) : KS S H H2 := fun c o h n => b c o (a c o h n) n
theorem KS.of (s : Same H H') : KS S H H' := fun c o h _ => s c o h
theorem KS.kb {p : Addr} (hp : S p) (k : KB p H H') : KS S H H' := fun c o h n => k c o h (fun z => n (z ▸ hp))
theorem SL.same (h : SL S H) (s : Same H H') : SL S H' := fun c hc => by
  obtain ⟨ys, hy⟩ := h c hc
  exact ⟨ys, s _ _ hy⟩
theorem SL.kb {p : Addr} (h : SL S H) (k : KB p H H') (hp : ∃ ys, H' p = some (.lst ys)) : SL S H' := fun c hc => by
  by_cases z : c = p
  · rw [z]
    exact hp
  · obtain ⟨ys, hy⟩ := h c hc
    exact ⟨ys, k _ _ hy z⟩
theorem SL.notup {t : Addr} {xs : List V} (h : SL S H) (ht : H t = some (.tup xs)) : ¬ S t := fun z => by
  obtain ⟨ys, hy⟩ := h t z
  rw [ht] at hy
  cases hy
theorem SL.fresh {t : Addr} (h : SL S H) (ht : H t = none) : ¬ S t := fun z => by
  obtain ⟨ys, hy⟩ := h t z
  rw [ht] at hy
  cases hy
theorem RpX.rp {v : V} {d : PyData} (h : RpX S H v d) : Rp H v d := h H KS.refl
theorem RpX.ks {v : V} {d : PyData} (h : RpX S H v d) (k : KS S H H') : RpX S H' v d := fun H2 k2 => h H2 (k.trans k2)
theorem RpX.same {v : V} {d : PyData} (h : RpX S H v d) (k : Same H H') : RpX S H' v d := h.ks (KS.of k)
theorem RpsX.ks {v : List V} {d : List PyData} (h : RpsX S H v d) (k : KS S H H') : RpsX S H' v d := fun H2 k2 => h H2 (k.trans k2)
theorem RpsX.same {v : List V} {d : List PyData} (h : RpsX S H v d) (k : Same H H') : RpsX S H' v d := h.ks (KS.of k)
theorem RpsX.length {v : List V} {d : List PyData} (h : RpsX S H v d) : v.length = d.length := (h H KS.refl).length
theorem RpsX.at {vs : List V} {ds : List PyData} (h : RpsX S H vs ds) {i : Nat} {v : V} (hv : vs[i]? = some v) : ∃ d, ds[i]? = some d ∧ RpX S H v d := by
  obtain ⟨d, h1, _⟩ := (h H KS.refl).at hv
  refine ⟨d, h1, fun H' k => ?_⟩
  obtain ⟨d', h2, h3⟩ := (h H' k).at hv
  rw [h1] at h2
  cases h2
  exact h3
theorem RpsX.take {vs : List V} {ds : List PyData} (n : Nat) (h : RpsX S H vs ds) : RpsX S H (vs.take n) (ds.take n) := fun H' k => (h H' k).take n
theorem RpsX.drop {vs : List V} {ds : List PyData} (n : Nat) (h : RpsX S H vs ds) : RpsX S H (vs.drop n) (ds.drop n) := fun H' k => (h H' k).drop n
theorem RpsX.append {vs us : List V} {ds es : List PyData} (h : RpsX S H vs ds) (g : RpsX S H us es) : RpsX S H (vs ++ us) (ds ++ es) := fun H' k => (h H' k).append (g H' k)
theorem RpsX.nil : RpsX S H [] [] := fun _ _ => .nil
theorem RpsX.cons {v : V} {d : PyData} {vs : List V} {ds : List PyData} (h : RpX S H v d) (g : RpsX S H vs ds) : RpsX S H (v :: vs) (d :: ds) := fun H' k => .cons (h H' k) (g H' k)
theorem RpX.tup {t : Addr} {xs : List V} {ds : List PyData} (hS : SL S H) (ht : H t = some (.tup xs)) (h : RpsX S H xs ds) : RpX S H (.ref t) (.tuple ds) := fun H' k => .tup (k _ _ ht (hS.notup ht)) (h H' k)
theorem RpX.lst {t : Addr} {xs : List V} {ds : List PyData} (n : ¬ S t) (ht : H t = some (.lst xs)) (h : RpsX S H xs ds) : RpX S H (.ref t) (.list ds) := fun H' k => .lst (k _ _ ht n) (h H' k)
theorem RpX.str (x : Str) : RpX S H (.str x) (.str x) := fun _ _ => .str x
theorem RpX.int (x : Int) : RpX S H (.int x) (.int x) := fun _ _ => .int x
theorem RpX.bl (x : Bool) : RpX S H (.bl x) (.bool x) := fun _ _ => .bl x
theorem RpX.non : RpX S H .non .none := fun _ _ => .non
theorem RpX.of {v : V} {d : PyData} (hS : SL S H) (h : Rp H v d) (n : noL d = true) : RpX S H v d := fun H' k => h.tupk (fun a xs ha => k _ _ ha (hS.notup ha)) n
/-- one new list more -/
theorem RpX.more {v : V} {d : PyData} {l : Addr} (h : RpX S H v d) (n : H l = none) (s : Same H H') : RpX (fun c => S c ∨ c = l) H' v d := fun H2 k => h H2 fun c o hc nc => k c o (s _ _ hc) (fun z => z.elim nc (fun z => by rw [z, n] at hc; cases hc))
/-- the things of a tuple -/
theorem RpX.things {a : Addr} {ds : List PyData} (hS : SL S H) (h : RpX S H (.ref a) (.tuple ds)) : ∃ xs, H a = some (.tup xs) ∧ RpsX S H xs ds := by
  cases h.rp with
  | @tup _ xs _ ha r =>
    refine ⟨xs, ha, fun H' k => ?_⟩
    have h' := k _ _ ha (hS.notup ha)
    cases h H' k with
    | tup ha' r' =>
      rw [h'] at ha'
      cases ha'
      exact r'
/-- an if: what its test tells, what is behind it once -/
theorem w_ifXR {tt : TT} {t u : TS} {D : Ends} {σ : L2.St} {H : Hp} (I : Bool → Hp → Prop) (R : L2.St → Hp → Prop) (h : ∀ QB : Bool → Hp → Prop, (∀ b H', I b H' → QB b H') → tt σ H QB)
    (k1 : ∀ H', I true H' → (∀ σ' H2, R σ' H2 → D.nx σ' H2) → t D σ H') (k2 : ∀ H', I false H' → (∀ σ' H2, R σ' H2 → D.nx σ' H2) → u D σ H') (go : ∀ σ' H2, R σ' H2 → D.nx σ' H2) : tIfS tt t u D σ H :=
  w_ifX I h (fun b H' i => by
    cases b with
    | true => rw [if_pos rfl]; exact k1 H' i go
    | false => rw [if_neg Bool.false_ne_true]; exact k2 H' i go)
end
/-! ### bounded width and depth -/
def FlatD (d : PyData) : Prop := (d = .none ∨ (∃ b, d = .bool b) ∨ (∃ i, d = .int i)) ∨ ∃ x, d = .str x ∧ x.length ≤ 1000 ∧ PyData.strOk x = true
def Lim (l : Nat) : Nat → PyData → Prop
  | 0, d => FlatD d
  | n + 1, d => FlatD d ∨ ∃ ds : List PyData, (d = .tuple ds ∨ d = .list ds) ∧ ds.length ≤ l ∧ ∀ e ∈ ds, Lim l n e
theorem Lim.flat {l n : Nat} {d : PyData} (h : FlatD d) : Lim l n d := by
  cases n with
  | zero => exact h
  | succ n => exact .inl h
theorem Lim.wide {l k : Nat} (hl : l ≤ k) : ∀ {n : Nat} {d : PyData}, Lim l n d → Lim k n d
  | 0, _, h => h
  | n + 1, _, h => by
    rcases h with h | ⟨ds, h1, h2, h3⟩
    · exact .inl h
    · exact .inr ⟨ds, h1, Nat.le_trans h2 hl, fun e he => Lim.wide hl (h3 e he)⟩
theorem Lim.succ {l : Nat} : ∀ {n : Nat} {d : PyData}, Lim l n d → Lim l (n + 1) d
  | 0, _, h => .inl h
  | n + 1, _, h => by
    rcases h with h | ⟨ds, h1, h2, h3⟩
    · exact .inl h
    · exact .inr ⟨ds, h1, h2, fun e he => (h3 e he).succ⟩
theorem Lim.mono {l k n m : Nat} {d : PyData} (h : Lim l n d) (hl : l ≤ k) (hn : n ≤ m) : Lim k m d := by
  refine Lim.wide hl ?_
  clear hl
  induction hn with
  | refl => exact h
  | step _ ih => exact ih.succ
theorem Lim.fit {l : Nat} (hl : l ≤ 1000) : ∀ {n : Nat} {d : PyData}, Lim l n d → Fit n d
  | 0, _, h => h
  | n + 1, _, h => by
    rcases h with h | ⟨ds, h1, h2, h3⟩
    · exact .inl h
    · exact .inr ⟨ds, h1, Nat.le_trans h2 hl, fun e he => Lim.fit hl (h3 e he)⟩
theorem Lim.tuple {l n : Nat} {ds : List PyData} (h1 : ds.length ≤ l) (h : ∀ e ∈ ds, Lim l n e) : Lim l (n + 1) (.tuple ds) := .inr ⟨ds, .inl rfl, h1, h⟩
theorem Lim.list {l n : Nat} {ds : List PyData} (h1 : ds.length ≤ l) (h : ∀ e ∈ ds, Lim l n e) : Lim l (n + 1) (.list ds) := .inr ⟨ds, .inr rfl, h1, h⟩
theorem Lim.parts {l n : Nat} {ds : List PyData} (h : Lim l (n + 1) (.tuple ds)) : ds.length ≤ l ∧ ∀ e ∈ ds, Lim l n e := by
  rcases h with ((h | ⟨b, h⟩ | ⟨i, h⟩) | ⟨x, h, _⟩) | ⟨es, h | h, h1, h2⟩
  · cases h
  · cases h
  · cases h
  · cases h
  · cases h
    exact ⟨h1, h2⟩
  · cases h
theorem Lim.no0 {l : Nat} {ds : List PyData} (h : Lim l 0 (.tuple ds)) : False := by
  rcases h with (h | ⟨b, h⟩ | ⟨i, h⟩) | ⟨x, h, _⟩ <;> cases h
def flatB : PyData → Bool
  | .none => true
  | .bool _ => true
  | .int _ => true
  | .str x => decide (x.length ≤ 1000) && PyData.strOk x
  | _ => false
theorem flat_of {d : PyData} (h : flatB d = true) : FlatD d := by
  cases d with
  | none => exact .inl (.inl rfl)
  | bool b => exact .inl (.inr (.inl ⟨b, rfl⟩))
  | int i => exact .inl (.inr (.inr ⟨i, rfl⟩))
  | str x =>
    unfold flatB at h
    rw [Bool.and_eq_true] at h
    exact .inr ⟨x, rfl, of_decide_eq_true h.1, h.2⟩
  | _ => cases h
theorem flat_word {x : Str} (h : isW x = true) : FlatD (.str x) := .inr ⟨x, rfl, Nat.le_trans (isW_len h) (by decide), isW_strOk h⟩
theorem cnt_lim : ∀ {n : Nat} {d : PyData} {m : Nat}, cnt n d = some m → Lim 6 n d
  | 0, _, _, h => by cases h
  | n + 1, d, m, h => by
    have str : ∀ x ∈ (["word", "phrase", "near", "and", "or", "but"] : List Str), FlatD (.str x) := fun x hx => by
      simp only [List.mem_cons, List.not_mem_nil, or_false] at hx
      rcases hx with rfl | rfl | rfl | rfl | rfl | rfl <;> exact flat_of (by decide +kernel)
    cases cnt_inv h with
    | word hw => exact Lim.tuple (by simp) (fun e he => by
        simp only [List.mem_cons, List.not_mem_nil, or_false] at he
        rcases he with rfl | rfl
        · exact Lim.flat (str _ (by simp))
        · exact Lim.flat (flat_word hw))
    | @phrase ws h1 h2 h3 => exact Lim.tuple (by simp; omega) (fun e he => by
        rcases List.mem_cons.mp he with rfl | he
        · exact Lim.flat (str _ (by simp))
        · obtain ⟨w, hw, rfl⟩ := List.mem_map.mp he
          exact Lim.flat (flat_word (h3 w hw)))
    | near h1 h2 h3 h4 => exact Lim.tuple (by simp) (fun e he => by
        simp only [List.mem_cons, List.not_mem_nil, or_false] at he
        rcases he with rfl | rfl | rfl | rfl
        · exact Lim.flat (str _ (by simp))
        · exact Lim.flat (flat_of rfl)
        · exact Lim.flat (flat_word h3)
        · exact Lim.flat (flat_word h4))
    | @join k ps _ a b c =>
      obtain ⟨j1, j2, j3⟩ := join_some c
      refine Lim.tuple (by simp; omega) (fun e he => ?_)
      rcases List.mem_cons.mp he with rfl | he
      · refine Lim.flat (str _ ?_)
        rcases a with rfl | rfl | rfl <;> simp
      · obtain ⟨c', hc'⟩ := j3 e he
        exact cnt_lim hc'
section
variable {K : PySem.W.Frag} {H : Hp} {Q : VK}
/-- t + u, any -/
theorem w_catA {a b : Addr} {xs ys : List V} (ha : H a = some (.tup xs)) (hb : H b = some (.tup ys)) (hl : xs.length + ys.length ≤ 100000) (k : ∀ p H2, Same H H2 → H2 p = some (.tup (xs ++ ys)) → Q (.ref p) H2) : rCatA K (.ref a) (.ref b) H Q :=
  ⟨a, b, xs, ys, rfl, rfl, .of ha, .of hb, Nat.le_trans hl (by decide), fun e => k b H (.refl _) (by rw [e, List.nil_append]; exact hb), fun _ e => k a H (.refl _) (by rw [e, List.append_nil]; exact ha), fun _ _ p n => k p _ (same_new n) upd_same⟩
theorem w_slA {a : Addr} {xs : List V} {lo hi : Option Int} (h : H a = some (.tup xs)) (k : ∀ p H2, Same H H2 → H2 p = some (.tup (cutV xs lo hi)) → Q (.ref p) H2) : rSlA K (.ref a) lo hi H Q := by
  refine ⟨a, xs, rfl, .of h, fun e => k a H (.refl _) ?_, fun _ p n => k p _ (same_new n) upd_same⟩
  rw [h]
  unfold cutV
  rw [e.1, e.2, List.drop_zero, Nat.sub_zero, List.take_length]
/-- t[:i] -/
theorem w_slA1 {a : Addr} {xs : List V} {i : Nat} (h : H a = some (.tup xs)) (hi : i ≤ xs.length) (k : ∀ p H2, Same H H2 → H2 p = some (.tup (xs.take i)) → Q (.ref p) H2) : rSlA K (.ref a) none (some (i : Int)) H Q := w_slA h fun p H2 s h2 => k p H2 s (by rw [h2, cutV_take hi])
/-- t[i:] -/
theorem w_slA2 {a : Addr} {xs : List V} {i : Nat} (h : H a = some (.tup xs)) (hi : i ≤ xs.length) (k : ∀ p H2, Same H H2 → H2 p = some (.tup (xs.drop i)) → Q (.ref p) H2) : rSlA K (.ref a) (some (i : Int)) none H Q := w_slA h fun p H2 s h2 => k p H2 s (by rw [h2, cutV_drop hi])
end
/-- a count as the law tells it -/
def cntI : Option Nat → Int
  | some m => m
  | none => -1
end Bw

/-! tuple[::-1]; zip of two tuples; list += list -/
namespace HT
open PySem PySem.Spec PyProof.Rows L2
section
variable {prog : Program} {w : World} {A : Around} {E : Value → Shared → Prop} {s : Shared}
theorem adjust_rev (n : Nat) : Builtin.Slice.sliceAdjust none none (-1) (n : Int) = ((n : Int) - 1, -1) := by
  unfold Builtin.Slice.sliceAdjust
  simp
theorem places_rev (n : Nat) : Builtin.Slice.slicePlaces ((n : Int) - 1) (-1) (-1) = n := by
  unfold Builtin.Slice.slicePlaces
  simp
  try omega
theorem pick_rev (xs : List Value) : ((List.range xs.length).filterMap fun (m : Nat) => xs.toArray[(((xs.length : Nat) : Int) - 1 + (m : Int) * (-1)).toNat]?) = xs.reverse := by
  have e : ∀ m, m < xs.length → xs.toArray[(((xs.length : Nat) : Int) - 1 + (m : Int) * (-1)).toNat]? = xs.reverse[m]? := fun m hm => by
    have : (((xs.length : Nat) : Int) - 1 + (m : Int) * (-1)).toNat = xs.length - 1 - m := by omega
    rw [this, List.getElem?_reverse hm]
    simp
  have cg : ∀ (l : List Nat) (f g : Nat → Option Value), (∀ m ∈ l, f m = g m) → l.filterMap f = l.filterMap g := fun l f g hfg => by
    induction l with
    | nil => rfl
    | cons x r ih =>
      rw [List.filterMap_cons, List.filterMap_cons, hfg x List.mem_cons_self, ih fun m hm => hfg m (List.mem_cons_of_mem _ hm)]
  rw [cg _ _ (fun m => xs.reverse[m]?) (fun m hm => e m (List.mem_range.mp hm))]
  have : ∀ (l : List Value), (List.range l.length).filterMap (fun m => l[m]?) = l := fun l => by
    induction l with
    | nil => rfl
    | cons a r ih =>
      rw [List.length_cons, List.range_succ_eq_map, List.filterMap_cons]
      simp [List.filterMap_map]
      exact ih
  have h := this xs.reverse
  rw [List.length_reverse] at h
  exact h
theorem sliceApplied_rev {sl : Addr} {vl vu vs : Value} {n : Nat} {Q : Int × Int × Nat → Shared → Prop} (hs : s.heap.IsSliceOf sl vl vu vs) (pl : IsPart vl none) (pu : IsPart vu none) (ps : IsPart vs (some (-1)))
    (h : Q (((n : Int) - 1), -1, n) s) : wpAny (model prog w) A (Builtin.Slice.sliceApplied (.ref sl) (pure (n : Int))) Q E s := by
  obtain ⟨os, hos, hcs, hds⟩ := id hs
  unfold Builtin.Slice.sliceApplied Builtin.Slice.sliceFields
  refine wpAny_bind (wpAny_bind (wpAny_field hos hds (x := vl) rfl (wpAny_bind (wpAny_field hos hds (x := vu) rfl (wpAny_bind (wpAny_field hos hds (x := vs) rfl (wpAny_pure ?_)))))))
  refine wpAny_bind (slicePart_ ps ?_)
  show wpAny _ _ (if ((-1 : Int) == 0) = true then _ else _) _ _ s
  rw [if_neg (by decide)]
  refine wpAny_bind (slicePart_ pl (wpAny_bind (slicePart_ pu (wpAny_bind (wpAny_pure ?_)))))
  show wpAny _ _ (match Builtin.Slice.sliceAdjust none none (-1) (n : Int) with | (lo, hi) => pure (lo, (-1 : Int), Builtin.Slice.slicePlaces lo hi (-1))) _ _ s
  rw [adjust_rev]
  show wpAny _ _ (pure (((n : Int) - 1), (-1 : Int), Builtin.Slice.slicePlaces ((n : Int) - 1) (-1) (-1))) _ _ s
  rw [places_rev]
  exact wpAny_pure h
theorem getItem_tuple_rev {t sl : Addr} {its : List Value} {vl vu vs : Value} {Q : Value → Shared → Prop} (ht : IsTup s.heap t its.toArray) (hs : s.heap.IsSliceOf sl vl vu vs) (pl : IsPart vl none) (pu : IsPart vu none) (ps : IsPart vs (some (-1)))
    (h : Q (.ref s.heap.objs.size) { s with heap := s.heap.push { cls := .type "tuple", data := .seq its.reverse.toArray } })
    (hsz : its.length ≤ sizeLine) : wpAny (model prog w) A (getItem (.ref t) (.ref sl)) Q E s := by
  have htake : sizeOk (.seq its.reverse.toArray) := by
    show its.reverse.toArray.size ≤ sizeLine
    rw [List.size_toArray, List.length_reverse]
    exact hsz
  obtain ⟨os, hos, hcs, hds⟩ := id hs
  have hTs : s.TypeIs (.ref sl) "slice" := ⟨os, hos, hcs⟩
  unfold getItem
  try with_reducible refine wpAny_holding ?_
  first | refine wpAny_bind (wpAny_pure ?_) | skip
  refine wpAny_bind (wpAny_sequenceKey ht.typeIs (by decide) ?_)
  refine wpAny_bind (wpAny_callSpecial?_slot (name := Str.ofString "__getitem__") ht.typeIs PyProof.Rows.slot_tuple_getitem
    (wpAny_call_entry PyProof.Rows.slot_tuple_getitem ht.typeIs entry_tuple_getitem ?_ (args_tuple_getitem _ _)))
  show wpAny _ _ (Builtin.Tuple.tupleItemsOf (.ref t) >>= _) _ _ s
  refine wpAny_bind (tupleItemsOf_ ht ?_)
  refine wpAny_bind (wpAny_typeOf hTs ?_)
  rw [if_pos (by decide)]
  refine wpAny_bind (sliceApplied_rev hs pl pu ps ?_)
  have hno : ¬ ((((its.toArray.size : Nat) : Int) - 1 == 0 && (-1 : Int) == 1 && its.toArray.size == its.toArray.size) = true) := by
    intro q
    rw [Bool.and_eq_true, Bool.and_eq_true] at q
    exact absurd q.1.2 (by decide)
  show wpAny _ _ (if (((its.toArray.size : Nat) : Int) - 1 == 0 && (-1 : Int) == 1 && its.toArray.size == its.toArray.size) = true then _ else _) _ _ s
  have ep : ((List.range its.toArray.size).filterMap fun (m : Nat) => its.toArray[(((its.toArray.size : Nat) : Int) - 1 + (m : Int) * (-1)).toNat]?) = its.reverse := by
    rw [List.size_toArray]
    exact pick_rev its
  rw [if_neg hno, ep]
  first
    | exact wpAny_bind (m := Builtin.Tuple.tupleExact _) (wpAny_newObj_type (wpAny_pure ⟨_, rfl, wpAny_pure h⟩) htake)
    | exact wpAny_bind (m := Builtin.Tuple.tupleExact _) (wpAny_newObj_type (wpAny_bind (wpAny_pure (wpAny_pure ⟨_, rfl, wpAny_pure h⟩))) htake)
    | exact wpAny_bind (wpAny_bind (m := Builtin.Tuple.tupleExact _) (wpAny_newObj_type (wpAny_pure (wpAny_pure ⟨_, rfl, wpAny_pure h⟩)) htake))
    | exact wpAny_bind (wpAny_bind (m := Builtin.Tuple.tupleExact _) (wpAny_newObj_type (wpAny_pure ⟨_, rfl, wpAny_pure h⟩) htake))
end
end HT

namespace L2
open PySem PySem.Spec PyProof.Rows
section
variable {X : Cx}
def tRevT (K : PySem.W.Frag) (te : TE) : TE := fun σ H Q => te σ H fun x H1 => ∃ a xs, x = .ref a ∧ SqT K H1 a xs ∧ ∀ p, H1 p = none → Q (.ref p) (upd H1 p (.tup xs.reverse))
theorem pe_revT {e : Expr} {te : TE} {k : Nat} {p1 p2 p3 pos : Pos} (he : PE X e te) : PE X (.Subscript e (.Slice none none (some (.UnaryOp .USub (.Constant (.int 1) k p1) p2)) p3) pos) (tRevT X.K te) := by
  refine ⟨fun pins s σ H Q I h => ?_⟩
  refine Subscript_ (thn (he.run pins s σ H _ I h) fun v s1 ⟨x, H1, I1, r1, q1⟩ => ?_)
  obtain ⟨a, xs, ex, hx, q⟩ := q1
  subst ex
  cases r1
  have hst : PO X (some (.UnaryOp .USub (.Constant (.int 1) k p1) p2)) (tPart (tUn (rU fun i => .int (-i)) (tC (.int 1)))) := po_some (pe_un un_neg pe_int)
  refine wpAny_Slice (thn (po_none.run pins s1 σ H1 (fun o H2 => o = none ∧ H2 = H1) I1 ⟨rfl, rfl⟩) fun vl s2 ⟨l, H2, I2, pl, el, e2⟩ => ?_)
  subst el e2
  refine thn (po_none.run pins s2 σ H2 (fun o H3 => o = none ∧ H3 = H2) I2 ⟨rfl, rfl⟩) fun vu s3 ⟨u, H3, I3, pu, eu, e3⟩ => ?_
  subst eu e3
  refine thn (hst.run pins s3 σ H3 (fun o H4 => o = some (-1) ∧ H4 = H3) I3 ⟨1, rfl, -1, rfl, rfl, rfl⟩) fun vs s4 ⟨o, H4, I4, ps, eo, e4⟩ => ?_
  subst eo e4
  have I5 : Inv X pins σ H4 { s4 with heap := s4.heap.push { cls := .type "slice", data := .fields #[vl, vu, vs] } } := I4.kept (t' := s4.toks) fun b ob q => Heap.get?_push_of_some _ q
  obtain ⟨its, r, ht, hz⟩ := I5.tuple hx
  have hlen := r.length
  show wpAny (model X.prog X.w) X.A (subscriptTail e (.Slice none none (some (.UnaryOp .USub (.Constant (.int 1) k p1) p2)) p3) (.ref a) (.ref s4.heap.objs.size)) (EP X pins σ Q) X.xe { s4 with heap := s4.heap.push { cls := .type "slice", data := .fields #[vl, vu, vs] } }
  refine tail_any (ops := [.ref a, .ref s4.heap.objs.size]) ht.typeIs (PyProof.Rows.slot_tuple_getitem.lookup) ?_ (by with_unfolding_all rfl)
  refine HT.getItem_tuple_rev ht (Heap.IsSliceOf.new _ vl vu vs) pl pu ps ?_ (by omega)
  refine ⟨.ref _, _, I5.laid (t' := s4.toks) (o := .tup xs.reverse) (fun b ob q => Heap.get?_push_of_some _ q) (Nat.le_refl _) ?_, rfl, q _ (I5.hok.fresh (Nat.le_refl _))⟩
  exact ⟨by rw [List.length_reverse]; exact hz, _, r.reverse, IsTup.new _ _⟩
end
end L2

namespace Bw
open PySem PySem.Spec PyProof.Rows L2 LamX RZ
theorem ip_ext {X : Cx} : PIp X .Add rExt2 := fun pins s σ H x y v u Q I rx ry h => iop_ext pins s σ H x y v u Q I rx ry h
section
variable {K : PySem.W.Frag} {H : Hp} {Q : VK} {σ : L2.St}
theorem w_revTE {te : TE} (h : te σ H fun x H1 => ∃ a xs, x = .ref a ∧ SqT K H1 a xs ∧ ∀ p, H1 p = none → Q (.ref p) (upd H1 p (.tup xs.reverse))) : tRevT K te σ H Q := h
theorem w_revT {a : Addr} {xs : List V} (h : H a = some (.tup xs)) (k : ∀ p H2, H p = none → Same H H2 → H2 p = some (.tup xs.reverse) → Q (.ref p) H2) : ∃ a' xs, V.ref a = .ref a' ∧ SqT K H a' xs ∧ ∀ p, H p = none → Q (.ref p) (upd H p (.tup xs.reverse)) := ⟨a, xs, rfl, .of h, fun p n => k p _ n (same_new n) upd_same⟩
theorem w_ext2 {l b : Addr} {xs zs : List V} (h1 : H l = some (.lst xs)) (h2 : H b = some (.lst zs)) (hl : xs.length + zs.length ≤ 100000) (k : ∀ H2, KB l H H2 → H2 l = some (.lst (xs ++ zs)) → Q (.ref l) H2) : rExt2 (.ref l) (.ref b) H Q := ⟨l, b, xs, zs, rfl, rfl, h1, h2, Nat.le_trans hl (by decide), k _ kb_upd upd_same⟩
theorem w_zipA {ta : TA} {R : It → Hp → Prop} (h : ta σ H fun vs H1 => ∃ a b xs ys, vs = [.ref a, .ref b] ∧ ((SqL K H1 a xs ∧ SqL K H1 b ys ∧ R (Itz K a b) H1) ∨ (SqT K H1 a xs ∧ SqT K H1 b ys ∧ R (ItzT K a b) H1))) : iZipA K ta σ H R := h
theorem fin_zipT {a b : Addr} {xs ys : List V} (n : Nat) (hn : n = min xs.length ys.length) : Fini (ItzT K a b) n (fun H => SqT K H a xs ∧ SqT K H b ys) (fun i v H H' => ∃ T x y, v = .ref T ∧ H T = none ∧ Same H H' ∧ H' T = some (.tup [x, y]) ∧ xs[i]? = some x ∧ ys[i]? = some y) :=
  ⟨fun i H h o => ⟨xs, ys, xs[i]'(by omega), ys[i]'(by omega), o.1, o.2, List.getElem?_eq_getElem _, List.getElem?_eq_getElem _⟩, fun i H v H' h o y => by
    obtain ⟨T, x, z, e, n, e', q, r⟩ := y
    subst e'
    exact ⟨T, x, z, e, n, same_new n, upd_same, q xs o.1, r ys o.2⟩, fun H o => ⟨xs, ys, o.1, o.2, by omega⟩⟩
end
end Bw

/-! texts of queries, plainly -/
namespace Bw
open PySem PySem.Spec PyProof.Rows L2 LamX
theorem cl_intS {X : Cx} : CallR X (.type "int") (fun xs H Q => ∃ a n, xs = [.str a] ∧ PySem.intText? a = some n ∧ a.length ≤ 640 ∧ Q (.int n) H) := call_int_str
def sgnQ (k : Str) : Str := if k = "and" then " & " else if k = "or" then " | " else " - "
def wordT : List PyData → Str
  | [.str w] => w
  | _ => ""
def nearT : List PyData → Str
  | [.int f, .str a, .str b] => (((a ++ "~") ++ Str.ofString (toString f)) ++ "~") ++ b
  | _ => ""
def txS : Nat → PyData → Str
  | 0, _ => ""
  | n + 1, .tuple (.str k :: ps) =>
    if k = "word" then wordT ps else if k = "phrase" then ("\"" ++ Txt.join " " (ps.filterMap strD)) ++ "\""
    else if k = "near" then nearT ps else ("(" ++ Txt.join (sgnQ k) (ps.map (txS n))) ++ ")"
  | _, _ => ""
theorem tx_word {n : Nat} {w : Str} : txS (n + 1) (.tuple [.str "word", .str w]) = w := by rw [txS, if_pos rfl]; rfl
theorem tx_phrase {n : Nat} {ws : List Str} : txS (n + 1) (.tuple (.str "phrase" :: ws.map PyData.str)) = ("\"" ++ Txt.join " " ws) ++ "\"" := by
  rw [txS, if_neg (by decide +kernel), if_pos rfl, filt_str]
theorem tx_near {n : Nat} {f : Int} {a b : Str} : txS (n + 1) (.tuple [.str "near", .int f, .str a, .str b]) = (((a ++ "~") ++ Str.ofString (toString f)) ++ "~") ++ b := by
  rw [txS, if_neg (by decide +kernel), if_neg (by decide +kernel), if_pos rfl]
  rfl
theorem tx_join {n : Nat} {k : Str} {ps : List PyData} (h : k = "and" ∨ k = "or" ∨ k = "but") : txS (n + 1) (.tuple (.str k :: ps)) = ("(" ++ Txt.join (sgnQ k) (ps.map (txS n))) ++ ")" := by
  rcases h with rfl | rfl | rfl <;> rw [txS, if_neg (by decide +kernel), if_neg (by decide +kernel), if_neg (by decide +kernel)]
/-! ### as lists of signs -/
def jn (s : List Nat) : List (List Nat) → List Nat
  | [] => []
  | [a] => a
  | a :: b :: r => a ++ (s ++ jn s (b :: r))
theorem jn_join (y : Str) : ∀ ps : List Str, (Txt.join y ps).cps.toList = jn y.cps.toList (ps.map fun x => x.cps.toList)
  | [] => by rw [txt_join]; rfl
  | [a] => by rw [txt_join]; rfl
  | a :: b :: r => by
    have ih := jn_join y (b :: r)
    rw [txt_join] at ih ⊢
    have e : Str.join y (a :: b :: r) = (a ++ y) ++ Str.join y (b :: r) := by
      first | rfl | simp [Str.join]
    rw [e, cps_append, cps_append, ih]
    simp [jn]
def txL (n : Nat) (d : PyData) : List Nat := (txS n d).cps.toList
theorem txl_word {n : Nat} {w : Str} : txL (n + 1) (.tuple [.str "word", .str w]) = w.cps.toList := by unfold txL; rw [tx_word]
theorem txl_phrase {n : Nat} {ws : List Str} : txL (n + 1) (.tuple (.str "phrase" :: ws.map PyData.str)) = 34 :: (jn [32] (ws.map fun x => x.cps.toList) ++ [34]) := by
  unfold txL
  rw [tx_phrase, cps_append, cps_append, jn_join]
  rfl
theorem txl_near {n : Nat} {f : Int} {a b : Str} : txL (n + 1) (.tuple [.str "near", .int f, .str a, .str b]) = a.cps.toList ++ (126 :: ((Str.ofString (toString f)).cps.toList ++ (126 :: b.cps.toList))) := by
  unfold txL
  rw [tx_near, cps_append, cps_append, cps_append, cps_append]
  have e : ("~" : Str).cps.toList = [126] := rfl
  rw [e]
  simp
theorem txl_join {n : Nat} {k : Str} {ps : List PyData} (h : k = "and" ∨ k = "or" ∨ k = "but") : txL (n + 1) (.tuple (.str k :: ps)) = 40 :: (jn (sgnQ k).cps.toList (ps.map (txL n)) ++ [41]) := by
  unfold txL
  rw [tx_join h, cps_append, cps_append, jn_join, List.map_map]
  rfl
theorem jn_len {s : List Nat} : ∀ {l : List (List Nat)}, l ≠ [] → (jn s l).length + s.length = (l.map List.length).sum + l.length * s.length
  | [], h => absurd rfl h
  | [a], _ => by simp [jn]
  | a :: b :: r, _ => by
    have ih := jn_len (s := s) (l := b :: r) (by simp)
    rw [jn, List.length_append, List.length_append, List.map_cons, List.sum_cons, List.length_cons, Nat.succ_mul]
    omega
theorem sgnQ_len {k : Str} : (sgnQ k).cps.toList.length = 3 := by
  unfold sgnQ
  split
  · rfl
  · split <;> rfl
theorem far_len : ∀ f : Int, 1 ≤ f → f ≤ 20 → (Str.ofString (toString f)).cps.toList.length ≤ 2 := by
  intro f h1 h2
  have : ∀ n : Nat, n ≤ 20 → (Str.ofString (toString (n : Int))).cps.toList.length ≤ 2 := by decide +kernel
  obtain ⟨n, rfl⟩ := Int.eq_ofNat_of_zero_le (by omega : 0 ≤ f)
  exact this n (by omega)
theorem sum_cnt {n : Nat} : ∀ {ps : List PyData} {c : Nat}, (∀ p ∈ ps, ∃ m, cnt n p = some m ∧ (txL n p).length + 5 ≤ 30 * m) → ((ps.map (txL n)).map List.length).sum + 5 * ps.length ≤ 30 * ((ps.map (cnt n)).filterMap id).sum
  | [], _, _ => by simp
  | p :: r, c, h => by
    obtain ⟨m, hm, hl⟩ := h p List.mem_cons_self
    have ih := sum_cnt (c := c) fun q hq => h q (List.mem_cons_of_mem _ hq)
    rw [List.map_cons, List.map_cons, List.sum_cons, List.length_cons, List.map_cons, hm]
    simp only [List.filterMap_cons, id, List.sum_cons]
    omega
theorem tx_len : ∀ {n : Nat} {d : PyData} {m : Nat}, cnt n d = some m → (txL n d).length + 5 ≤ 30 * m
  | 0, _, _, h => by cases h
  | n + 1, d, m, h => by
    cases cnt_inv h with
    | @word w hw =>
      rw [txl_word]
      have := isW_len hw
      have e : w.cps.toList.length = w.length := rfl
      omega
    | @phrase ws h1 h2 h3 =>
      rw [txl_phrase]
      have hne : (ws.map fun x => x.cps.toList) ≠ [] := fun z => by
        rw [List.map_eq_nil_iff] at z
        rw [z] at h1
        simp at h1
      have e := jn_len (s := [32]) hne
      have hs : ((ws.map fun x => x.cps.toList).map List.length).sum ≤ ws.length * 12 := by
        have := sum_le (l := (ws.map fun x => x.cps.toList).map List.length) (c := 12) (fun y hy => by
          obtain ⟨z, hz, rfl⟩ := List.mem_map.mp hy
          obtain ⟨x, hx, rfl⟩ := List.mem_map.mp hz
          exact isW_len (h3 x hx))
        rwa [List.length_map, List.length_map] at this
      rw [List.length_map] at e
      have e32 : ([32] : List Nat).length = 1 := rfl
      rw [e32] at e
      rw [List.length_cons, List.length_append, List.length_singleton]
      omega
    | @near f a b h1 h2 h3 h4 =>
      rw [txl_near]
      have e1 := isW_len h3
      have e2 := isW_len h4
      have e3 := far_len f h1 h2
      have q1 : a.cps.toList.length = a.length := rfl
      have q2 : b.cps.toList.length = b.length := rfl
      rw [List.length_append, List.length_cons, List.length_append, List.length_cons]
      omega
    | @join k ps _ a b c =>
      obtain ⟨j1, j2, j3⟩ := join_some c
      have hk : k = "and" ∨ k = "or" ∨ k = "but" := a
      rw [txl_join hk]
      have hne : ps.map (txL n) ≠ [] := fun z => by
        rw [List.map_eq_nil_iff] at z
        rw [z] at j1
        simp at j1
      have e := jn_len (s := (sgnQ k).cps.toList) hne
      rw [sgnQ_len, List.length_map] at e
      have hs := sum_cnt (n := n) (c := 0) (ps := ps) (fun p hp => by
        obtain ⟨m', hm'⟩ := j3 p hp
        exact ⟨m', hm', tx_len hm'⟩)
      unfold joinC at c
      split at c
      · cases c
        rw [List.length_cons, List.length_append, List.length_singleton]
        omega
      · cases c
theorem join_sum (y : Str) (ps : List Str) : (ps.map (·.length)).sum ≤ (Txt.join y ps).length := by
  cases ps with
  | nil => simp
  | cons a l =>
    rw [txt_join, PyProof.Rows.len_join_cons]
    omega
end Bw

/-! a query's text tells the query -/
namespace Bw
open PySem PySem.Spec PyProof.Rows L2 LamX
/-- no letter stands first -/
def NoL0 (t : List Nat) : Prop := ∀ c u, t = c :: u → c < 97 ∨ 122 < c
def Fo (t : List Nat) : Prop := ∀ c u, t = c :: u → c = 32 ∨ c = 41
theorem Fo.nol {t : List Nat} (h : Fo t) : NoL0 t := fun c u e => by
  rcases h c u e with rfl | rfl <;> decide
theorem let_split : ∀ {a b t u : List Nat}, (∀ c ∈ a, 97 ≤ c ∧ c ≤ 122) → (∀ c ∈ b, 97 ≤ c ∧ c ≤ 122) → NoL0 t → NoL0 u → a ++ t = b ++ u → a = b ∧ t = u
  | [], [], _, _, _, _, _, _, e => ⟨rfl, e⟩
  | [], y :: b, t, u, _, hb, ht, _, e => by
    have h1 := hb y List.mem_cons_self
    have h2 := ht y (b ++ u) e
    omega
  | x :: a, [], t, u, ha, _, _, hu, e => by
    have h1 := ha x List.mem_cons_self
    have h2 := hu x (a ++ t) e.symm
    omega
  | x :: a, y :: b, t, u, ha, hb, ht, hu, e => by
    rw [List.cons_append, List.cons_append] at e
    injection e with e1 e2
    obtain ⟨q1, q2⟩ := let_split (fun c hc => ha c (List.mem_cons_of_mem _ hc)) (fun c hc => hb c (List.mem_cons_of_mem _ hc)) ht hu e2
    exact ⟨by rw [e1, q1], q2⟩
theorem wd_split {a b : Str} {t u : List Nat} (ha : isW a = true) (hb : isW b = true) (ht : NoL0 t) (hu : NoL0 u) (e : a.cps.toList ++ t = b.cps.toList ++ u) : a = b ∧ t = u := by
  obtain ⟨e1, e2⟩ := let_split (isW_signs ha) (isW_signs hb) ht hu e
  exact ⟨str_ext e1, e2⟩
theorem wd_cons {a : Str} (h : isW a = true) : ∃ c r, a.cps.toList = c :: r ∧ 97 ≤ c ∧ c ≤ 122 := by
  cases hc : a.cps.toList with
  | nil =>
    have : a.length = 0 := congrArg List.length hc
    unfold isW at h
    rw [this] at h
    simp at h
  | cons c r => exact ⟨c, r, rfl, isW_signs h c (by rw [hc]; exact List.mem_cons_self)⟩
/-- digits of numbers up to 20 -/
theorem dig_inj : ∀ {f g : Int}, 1 ≤ f → f ≤ 20 → 1 ≤ g → g ≤ 20 → ∀ {t u : List Nat}, (Str.ofString (toString f)).cps.toList ++ (126 :: t) = (Str.ofString (toString g)).cps.toList ++ (126 :: u) → f = g ∧ t = u := by
  intro f g f1 f2 g1 g2 t u e
  obtain ⟨n, rfl⟩ := Int.eq_ofNat_of_zero_le (by omega : 0 ≤ f)
  obtain ⟨m, rfl⟩ := Int.eq_ofNat_of_zero_le (by omega : 0 ≤ g)
  have hd : ∀ n : Nat, n ≤ 20 → ∀ c ∈ (Str.ofString (toString (n : Int))).cps.toList, c ≠ 126 := by decide +kernel
  have hi : ∀ n : Nat, n ≤ 20 → ∀ m : Nat, m ≤ 20 → (Str.ofString (toString (n : Int))).cps.toList = (Str.ofString (toString (m : Int))).cps.toList → n = m := by decide +kernel
  have sp : ∀ {a b : List Nat}, (∀ c ∈ a, c ≠ 126) → (∀ c ∈ b, c ≠ 126) → a ++ (126 :: t) = b ++ (126 :: u) → a = b ∧ t = u := by
    intro a
    induction a with
    | nil =>
      intro b _ hb e
      cases b with
      | nil => cases e; exact ⟨rfl, rfl⟩
      | cons y b =>
        injection e with e1 _
        exact absurd e1.symm (hb y List.mem_cons_self)
    | cons x a ih =>
      intro b ha hb e
      cases b with
      | nil =>
        injection e with e1 _
        exact absurd e1 (ha x List.mem_cons_self)
      | cons y b =>
        rw [List.cons_append, List.cons_append] at e
        injection e with e1 e2
        obtain ⟨q1, q2⟩ := ih (fun c hc => ha c (List.mem_cons_of_mem _ hc)) (fun c hc => hb c (List.mem_cons_of_mem _ hc)) e2
        exact ⟨by rw [e1, q1], q2⟩
  obtain ⟨q1, q2⟩ := sp (hd n (by omega)) (hd m (by omega)) e
  have := hi n (by omega) m (by omega) q1
  exact ⟨by rw [this], q2⟩
theorem jn_c {s : List Nat} {a : List Nat} {r : List (List Nat)} : jn s (a :: r) = a ++ (if r = [] then [] else s ++ jn s r) := by
  cases r with
  | nil => simp [jn]
  | cons b q => simp [jn]
/-- what stands behind the first of some parts -/
def beh (s : List Nat) (r : List (List Nat)) (z : Nat) (t : List Nat) : List Nat := (if r = [] then [] else s ++ jn s r) ++ (z :: t)
theorem jn_beh {s a : List Nat} {r : List (List Nat)} {z : Nat} {t : List Nat} : jn s (a :: r) ++ (z :: t) = a ++ beh s r z t := by
  unfold beh
  rw [jn_c, List.append_assoc]
theorem ws_inj : ∀ {us vs : List Str} {t u : List Nat}, us ≠ [] → vs ≠ [] → (∀ x ∈ us, isW x = true) → (∀ x ∈ vs, isW x = true) → jn [32] (us.map fun x => x.cps.toList) ++ (34 :: t) = jn [32] (vs.map fun x => x.cps.toList) ++ (34 :: u) → us = vs ∧ t = u
  | [], _, _, _, h, _, _, _, _ => absurd rfl h
  | _ :: _, [], _, _, _, h, _, _, _ => absurd rfl h
  | a :: us, b :: vs, t, u, _, _, ha, hb, e => by
    rw [List.map_cons, List.map_cons, jn_beh, jn_beh] at e
    have nb : ∀ (r : List (List Nat)) (t : List Nat), NoL0 (beh [32] r 34 t) := fun r t c u e => by
      unfold beh at e
      split at e
      · cases e
        decide
      · cases e
        decide
    obtain ⟨e1, e2⟩ := wd_split (ha a List.mem_cons_self) (hb b List.mem_cons_self) (nb _ _) (nb _ _) e
    subst e1
    unfold beh at e2
    cases us with
    | nil =>
      cases vs with
      | nil =>
        rw [List.map_nil, if_pos rfl] at e2
        cases e2
        exact ⟨rfl, rfl⟩
      | cons y ys =>
        rw [List.map_nil, if_pos rfl, if_neg (by simp)] at e2
        cases e2
    | cons x xs =>
      cases vs with
      | nil =>
        rw [List.map_nil, if_pos rfl, if_neg (by simp)] at e2
        cases e2
      | cons y ys =>
        rw [if_neg (by simp), if_neg (by simp)] at e2
        have e3 : jn [32] ((x :: xs).map fun x => x.cps.toList) ++ (34 :: t) = jn [32] ((y :: ys).map fun x => x.cps.toList) ++ (34 :: u) := by
          rw [List.append_assoc, List.append_assoc] at e2
          injection e2 with _ e2
        obtain ⟨q1, q2⟩ := ws_inj (by simp) (by simp) (fun z hz => ha z (List.mem_cons_of_mem _ hz)) (fun z hz => hb z (List.mem_cons_of_mem _ hz)) e3
        exact ⟨by rw [q1], q2⟩
theorem sgnQ_i {k k' : Str} (h : k = "and" ∨ k = "or" ∨ k = "but") (h' : k' = "and" ∨ k' = "or" ∨ k' = "but") : ∃ c c', (sgnQ k).cps.toList = [32, c, 32] ∧ (sgnQ k').cps.toList = [32, c', 32] ∧ (c = c' → k = k') := by
  rcases h with rfl | rfl | rfl <;> rcases h' with rfl | rfl | rfl <;> exact ⟨_, _, rfl, rfl, by decide +kernel⟩
theorem ps_inj {n : Nat} {k k' : Str} (hk : k = "and" ∨ k = "or" ∨ k = "but") (hk' : k' = "and" ∨ k' = "or" ∨ k' = "but") (ih : ∀ {d e : PyData} {m m' : Nat} {t u : List Nat}, cnt n d = some m → cnt n e = some m' → Fo t → Fo u → txL n d ++ t = txL n e ++ u → d = e ∧ t = u) :
    ∀ {ps qs : List PyData} {t u : List Nat}, ps ≠ [] → qs ≠ [] → (∀ p ∈ ps, ∃ c, cnt n p = some c) → (∀ p ∈ qs, ∃ c, cnt n p = some c) → jn (sgnQ k).cps.toList (ps.map (txL n)) ++ (41 :: t) = jn (sgnQ k').cps.toList (qs.map (txL n)) ++ (41 :: u) → ps = qs ∧ t = u ∧ (2 ≤ ps.length → k = k')
  | [], _, _, _, h, _, _, _, _ => absurd rfl h
  | _ :: _, [], _, _, _, h, _, _, _ => absurd rfl h
  | a :: us, b :: vs, t, u, _, _, ha, hb, e => by
    obtain ⟨c, c', ec, ec', hcc⟩ := sgnQ_i hk hk'
    rw [List.map_cons, List.map_cons, jn_beh, jn_beh] at e
    have nb : ∀ (s : List Nat) (z : Nat) (r : List (List Nat)) (t : List Nat), s = [32, z, 32] → Fo (beh s r 41 t) := fun s z r t hs c u e => by
      unfold beh at e
      rw [hs] at e
      split at e
      · cases e
        exact .inr rfl
      · cases e
        exact .inl rfl
    obtain ⟨ca, hca⟩ := ha a List.mem_cons_self
    obtain ⟨cb, hcb⟩ := hb b List.mem_cons_self
    obtain ⟨e1, e2⟩ := ih hca hcb (nb _ _ _ _ ec) (nb _ _ _ _ ec') e
    subst e1
    unfold beh at e2
    rw [ec, ec'] at e2
    cases us with
    | nil =>
      cases vs with
      | nil =>
        rw [List.map_nil, if_pos rfl] at e2
        cases e2
        exact ⟨rfl, rfl, fun h => by simp at h⟩
      | cons y ys =>
        rw [List.map_nil, if_pos rfl, if_neg (by simp)] at e2
        cases e2
    | cons x xs =>
      cases vs with
      | nil =>
        rw [List.map_nil, if_pos rfl, if_neg (by simp)] at e2
        cases e2
      | cons y ys =>
        rw [if_neg (by simp), if_neg (by simp)] at e2
        rw [List.append_assoc, List.append_assoc] at e2
        simp only [List.cons_append, List.nil_append] at e2
        injection e2 with _ e2
        injection e2 with ecc e2
        injection e2 with _ e2
        have kk := hcc ecc
        rw [← ec, ← ec'] at e2
        obtain ⟨q1, q2, _⟩ := ps_inj hk hk' ih (by simp) (by simp) (fun z hz => ha z (List.mem_cons_of_mem _ hz)) (fun z hz => hb z (List.mem_cons_of_mem _ hz)) e2
        exact ⟨by rw [q1], q2, fun _ => kk⟩
theorem tx_inj : ∀ {n : Nat} {d e : PyData} {m m' : Nat} {t u : List Nat}, cnt n d = some m → cnt n e = some m' → Fo t → Fo u → txL n d ++ t = txL n e ++ u → d = e ∧ t = u
  | 0, _, _, _, _, _, _, h, _, _, _, _ => by cases h
  | n + 1, d, e, m, m', t, u, hd, he, ht, hu, eq => by
    have n126 : ∀ {r : List Nat}, NoL0 (126 :: r) := fun c u e => by cases e; decide
    cases cnt_inv hd with
    | @word w hw =>
      rw [txl_word] at eq
      cases cnt_inv he with
      | @word w' hw' =>
        rw [txl_word] at eq
        obtain ⟨e1, e2⟩ := wd_split hw hw' ht.nol hu.nol eq
        exact ⟨by rw [e1], e2⟩
      | @phrase ws h1 h2 h3 =>
        rw [txl_phrase] at eq
        obtain ⟨c, r, ec, hc⟩ := wd_cons hw
        rw [ec] at eq
        injection eq with e1 _
        omega
      | @near f a b h1 h2 h3 h4 =>
        rw [txl_near, List.append_assoc] at eq
        obtain ⟨e1, e2⟩ := wd_split hw h3 ht.nol n126 eq
        rcases ht _ _ e2 with z | z <;> cases z
      | @join k ps _ a b c =>
        rw [txl_join a] at eq
        obtain ⟨c, r, ec, hc⟩ := wd_cons hw
        rw [ec] at eq
        injection eq with e1 _
        omega
    | @phrase ws h1 h2 h3 =>
      rw [txl_phrase] at eq
      cases cnt_inv he with
      | @word w' hw' =>
        rw [txl_word] at eq
        obtain ⟨c, r, ec, hc⟩ := wd_cons hw'
        rw [ec] at eq
        injection eq with e1 _
        omega
      | @phrase ws' h1' h2' h3' =>
        rw [txl_phrase, List.cons_append, List.cons_append] at eq
        injection eq with _ eq
        rw [List.append_assoc, List.append_assoc] at eq
        obtain ⟨e1, e2⟩ := ws_inj (fun z => by rw [z] at h1; simp at h1) (fun z => by rw [z] at h1'; simp at h1') h3 h3' eq
        exact ⟨by rw [e1], e2⟩
      | @near f a b h1 h2 h3 h4 =>
        rw [txl_near] at eq
        obtain ⟨c, r, ec, hc⟩ := wd_cons h3
        rw [ec] at eq
        injection eq with e1 _
        omega
      | @join k ps _ a b c =>
        rw [txl_join a] at eq
        injection eq with e1 _
        omega
    | @near f a b h1 h2 h3 h4 =>
      rw [txl_near] at eq
      cases cnt_inv he with
      | @word w' hw' =>
        rw [txl_word, List.append_assoc] at eq
        obtain ⟨e1, e2⟩ := wd_split h3 hw' n126 hu.nol eq
        rcases hu _ _ e2.symm with z | z <;> cases z
      | @phrase ws' h1' h2' h3' =>
        rw [txl_phrase] at eq
        obtain ⟨c, r, ec, hc⟩ := wd_cons h3
        rw [ec] at eq
        injection eq with e1 _
        omega
      | @near f' a' b' h1' h2' h3' h4' =>
        rw [txl_near, List.append_assoc, List.append_assoc] at eq
        obtain ⟨e1, e2⟩ := wd_split h3 h3' n126 n126 eq
        injection e2 with _ e2
        have e2' : ((Str.ofString (toString f)).cps.toList ++ (126 :: b.cps.toList)) ++ t = ((Str.ofString (toString f')).cps.toList ++ (126 :: b'.cps.toList)) ++ u := e2
        rw [List.append_assoc, List.append_assoc] at e2'
        have e2 := e2'
        obtain ⟨e3, e4⟩ := dig_inj h1 h2 h1' h2' e2
        obtain ⟨e5, e6⟩ := wd_split h4 h4' ht.nol hu.nol e4
        exact ⟨by rw [e1, e3, e5], e6⟩
      | @join k ps _ a b c =>
        rw [txl_join a] at eq
        obtain ⟨c, r, ec, hc⟩ := wd_cons h3
        rw [ec] at eq
        injection eq with e1 _
        omega
    | @join k ps _ a b c =>
      rw [txl_join a] at eq
      cases cnt_inv he with
      | @word w' hw' =>
        rw [txl_word] at eq
        obtain ⟨c, r, ec, hc⟩ := wd_cons hw'
        rw [ec] at eq
        injection eq with e1 _
        omega
      | @phrase ws' h1' h2' h3' =>
        rw [txl_phrase] at eq
        injection eq with e1 _
        omega
      | @near f' a' b' h1' h2' h3' h4' =>
        rw [txl_near] at eq
        obtain ⟨c, r, ec, hc⟩ := wd_cons h3'
        rw [ec] at eq
        injection eq with e1 _
        omega
      | @join k' ps' _ a' b' c' =>
        rw [txl_join a', List.cons_append, List.cons_append] at eq
        injection eq with _ eq
        rw [List.append_assoc, List.append_assoc] at eq
        obtain ⟨j1, j2, j3⟩ := join_some c
        obtain ⟨j1', j2', j3'⟩ := join_some c'
        obtain ⟨e1, e2, e3⟩ := ps_inj a a' tx_inj (fun z => by rw [z] at j1; simp at j1) (fun z => by rw [z] at j1'; simp at j1') j3 j3' eq
        exact ⟨by rw [e1, e3 j1], e2⟩
theorem txS_inj {n : Nat} {d e : PyData} {m m' : Nat} (hd : cnt n d = some m) (he : cnt n e = some m') (h : txS n d = txS n e) : d = e := by
  have h0 : Fo [] := fun c u e => by cases e
  refine (tx_inj hd he h0 h0 ?_).1
  unfold txL
  rw [h]
end Bw

open PySem PySem.Spec L2 Bw
local macro_rules | `(tactic| wtm_at "look") => `(tactic| first | assumption | with_reducible exact upd_same | ((with_reducible refine' same_at ?ws ?wt); (case ws => assumption); (case wt => wtm_at "look")) | ((with_reducible refine' kb_at ?ws ?wt ?wn); (case ws => assumption); (case wt => wtm_at "look"); (case wn => wtm_at "ne")))
local macro_rules | `(tactic| wtm_at "ne") => `(tactic| first | assumption | ((with_reducible refine Ne.symm ?ws); (case ws => assumption)) | ((with_reducible refine' ne_of_none ?wa ?wb); (case wb => assumption); (case wa => wtm_at "look")) | ((with_reducible refine' Ne.symm (ne_of_none ?wa ?wb)); (case wb => assumption); (case wa => wtm_at "look")))
local macro_rules | `(tactic| wtm_at "seq") => `(tactic| first | assumption | ((with_reducible refine' SqL.of ?ws); (case ws => wtm_at "look")) | ((with_reducible refine' SqT.of ?ws); (case ws => wtm_at "look")) | ((with_reducible refine' Same.seq ?ws ?wt); (case ws => assumption); (case wt => wtm_at "seq")) | ((with_reducible refine' same_t ?ws ?wt); (case ws => assumption); (case wt => wtm_at "seq")))
local macro_rules | `(tactic| wtm_at "ix") => `(tactic| first | assumption | exact atI_nat (j := 0) rfl | exact atI_nat (j := 1) rfl | exact atI_nat (j := 2) rfl | exact atI_nat (j := 3) rfl | exact atI_nat (j := 4) rfl)
local macro_rules | `(tactic| wtm_at "len") => `(tactic| first | (refine sz ?_; simp only [List.length_cons, List.length_nil]; omega) | (refine sz ?_; omega))
local macro_rules | `(tactic| wtm_at "fld") => `(tactic| first | assumption | exact lk_hit | ((with_reducible refine' lk_miss ?wa ?wb); (case wa => decide +kernel); (case wb => wtm_at "fld")) | rfl)
local macro_rules | `(tactic| wtm_at "tyx") => `(tactic| first | assumption | with_reducible exact tyx_int | with_reducible exact tyx_bl | with_reducible exact tyx_str | with_reducible exact tyx_non | ((with_reducible refine' tyx_lst ?wa); (case wa => wtm_at "look")) | ((with_reducible refine' tyx_tup ?wa); (case wa => wtm_at "look")))
local macro_rules | `(tactic| wtm_at "ixn") => `(tactic| first | assumption | exact Evl.ixN_nat (j := 0) (by simp) | exact Evl.ixN_nat (j := 1) (by simp) | exact Evl.ixN_nat (j := 2) (by simp) | rfl)
local macro_rules | `(tactic| wtm_at "cond") => `(tactic| first | assumption | (show (0 : Int) < _; omega) | exact mulL (by omega) | exact mulR (by omega) | exact divU (b := 64) (by omega) (by omega) (by decide) (by decide) | exact powU (a := 200) (by omega) (by decide) (by decide) (by decide))
local macro_rules | `(tactic| wtm_at "xd") => `(tactic| first | assumption | exact xdOk_none | ((with_reducible refine' XdOk.same ?wx ?ws); (case ws => assumption); (case wx => wtm_at "xd")) | ((with_reducible refine' xdOk_at ?wa); (case wa => wtm_at "look")))
local macro_rules | `(tactic| wtm_at "new") => `(tactic| (intro pN nN; generalize eN : upd _ pN _ = HN; have sN := same_gen nN eN; have hN := at_gen eN; clear eN))
local macro_rules | `(tactic| wtm_at "mut") => `(tactic| (generalize eM : upd _ _ _ = HM; have kM := kb_gen eM; have hM := at_gen eM; clear eM; (repeat (first | rw [pf_hit] at hM | rw [pf_nil] at hM | ((rw [pf_miss] at hM); rotate_left; decide +kernel)))))
local macro_rules | `(tactic| wtm_at "make") => `(tactic| (intro pR dR nR ndR neR; generalize eR : upd (upd _ dR _) pR _ = HR; have sR := same_make nR ndR eR; have hR := at_gen eR; clear eR neR))
local macro_rules | `(tactic| wtm_at "shp") => `(tactic| simp [SeqAt.shaped, PyData.canLay0, PyData.canLayAll0, PyData.depth, PyData.depthAll])
local macro_rules | `(tactic| wtm_at "kit") => `(tactic| first | exact kit_int_int | exact kit_int_bool | exact kit_int_str | exact kit_int_list | exact kit_int_tuple | exact kit_int_dict | exact kit_bool_int | exact kit_bool_bool | exact kit_bool_str | exact kit_bool_list | exact kit_bool_tuple | exact kit_bool_dict | exact kit_str_int | exact kit_str_bool | exact kit_str_str | exact kit_str_list | exact kit_str_tuple | exact kit_str_dict | exact kit_list_int | exact kit_list_bool | exact kit_list_str | exact kit_list_list | exact kit_list_tuple | exact kit_list_dict | exact kit_tuple_int | exact kit_tuple_bool | exact kit_tuple_str | exact kit_tuple_list | exact kit_tuple_tuple | exact kit_tuple_dict | exact kit_NoneType_int | exact kit_NoneType_bool | exact kit_NoneType_str | exact kit_NoneType_list | exact kit_NoneType_tuple | exact kit_NoneType_dict | exact kit_dict_int | exact kit_dict_bool | exact kit_dict_str | exact kit_dict_list | exact kit_dict_tuple | exact kit_dict_dict)
local macro_rules | `(tactic| wtm_at "w1") => `(tactic| first
  | with_reducible refine w_seq ?_
  | with_reducible refine w_next ?_
  | with_reducible refine w_set ?_
  | with_reducible refine w_asg ?_
  | with_reducible refine w_par ?_
  | with_reducible refine w_ret ?_
  | with_reducible refine w_drop ?_
  | with_reducible refine w_if ?_
  | with_reducible refine w_ifE ?_
  | ((with_reducible refine' w_var ?wv ?_); (case wv => rfl))
  | with_reducible refine w_c ?_
  | with_reducible refine w_op ?_
  | with_reducible refine w_un ?_
  | with_reducible refine w_I0 ?_
  | with_reducible refine w_U ?_
  | with_reducible refine w_pow10_5 ?_
  | with_reducible refine w_pow10_8 ?_
  | with_reducible refine w_pow10_9 ?_
  | with_reducible refine w_pow10_10 ?_
  | with_reducible refine w_pow10_11 ?_
  | with_reducible refine w_pow10_12 ?_
  | with_reducible refine w_pow10_18 ?_
  | ((with_reducible refine w_I ?wc ?_); (case' wc => try wtm_at "cond"))
  | ((with_reducible refine' w_setL ?wh ?wj ?_); (case wh => wtm_at "look"); (case wj => wtm_at "ixn"); intro hS kS eS; (try dsimp only [List.set_cons_zero, List.set_cons_succ] at eS))
  | ((with_reducible refine w_eq ?wh ?_); (case wh => rfl))
  | ((with_reducible refine w_ne ?wh ?_); (case wh => rfl))
  | with_reducible refine w_is0 ?_
  | with_reducible refine w_isnot0 ?_
  | with_reducible refine w_test ?_
  | with_reducible refine w_tB ?_
  | with_reducible refine w_bl ?_
  | ((with_reducible refine' w_isP ?wa ?wb ?wc ?_); (case wa => assumption); (case wb => assumption); (case wc => wtm_at "xd"))
  | ((with_reducible refine' w_isPt ?wa ?wb ?wc ?_); (case wa => assumption); (case wb => assumption); (case wc => wtm_at "xd"))
  | ((with_reducible refine' w_isPT ?wa ?wt ?wb ?wc ?_); (case wa => assumption); (case wt => wtm_at "look"); (case wb => assumption); (case wc => wtm_at "xd"))
  | with_reducible refine w_bmL ?_
  | with_reducible refine w_bm0 ?_
  | ((with_reducible refine' w_tyL ?wh ?_); (case wh => wtm_at "seq"))
  | with_reducible refine w_callP ?_
  | with_reducible refine w_lcE ?_
  | with_reducible refine w_lc2E ?_
  | with_reducible refine w_iStr ?_
  | with_reducible refine w_strE ?_
  | with_reducible refine w_iEnum ?_
  | ((with_reducible refine' w_enum ?wh ?_); (case wh => wtm_at "seq"))
  | with_reducible refine w_yes ?_
  | with_reducible refine w_m1 ?_
  | with_reducible refine w_sl ?_
  | with_reducible refine w_noPart ?_
  | with_reducible refine w_part ?_
  | with_reducible refine w_intE ?_
  | ((with_reducible refine' w_slS ?wh ?_); (case wh => wtm_at "len"))
  | ((with_reducible refine' w_slL ?wh ?_); (case wh => wtm_at "seq"); intro pC HC nC sC hC)
  | with_reducible refine w_m0 ?_
  | with_reducible refine w_isS ?_
  | with_reducible refine w_inS ?_
  | with_reducible refine w_notInS ?_
  | with_reducible refine w_xmk ?_
  | with_reducible refine w_xv ?_
  | with_reducible refine w_xv0 ?_
  | ((with_reducible refine' w_aug ?wv ?_); (case wv => rfl))
  | with_reducible refine w_ipI ?_
  | with_reducible refine w_rAdd ?_
  | with_reducible refine w_faug ?_
  | ((with_reducible refine' w_faug1 ?wh ?wc ?wn ?wl ?_); (case wh => wtm_at "look"); (case wc => assumption); (case wn => assumption); (case wl => wtm_at "fld"))
  | ((with_reducible refine' w_faug2 ?wh ?wl ?_); (case wh => wtm_at "look"); (case wl => (simp only [List.length_cons, List.length_nil]; omega)); wtm_at "mut")
  | with_reducible refine w_xfE ?_
  | ((with_reducible refine' w_xf ?wa ?wn ?wh ?wl ?_); (case wa => assumption); (case wn => assumption); (case wh => wtm_at "look"); (case wl => wtm_at "fld"))
  | ((with_reducible refine' w_cat ?wh ?wi ?wl ?_); (case wh => wtm_at "look"); (case wi => wtm_at "look"); (case wl => wtm_at "len"); intro pC HC nC sC hC; (try dsimp only [List.cons_append, List.nil_append] at hC))
  | with_reducible refine w_fmtE ?_
  | with_reducible refine w_joinE ?_
  | with_reducible refine w_js ?_
  | with_reducible refine w_jn ?_
  | ((with_reducible refine' w_jt ?wh ?_); (case wh => wtm_at "len"))
  | with_reducible refine w_isB ?_
  | with_reducible refine w_isnB ?_
  | with_reducible refine w_and ?_
  | with_reducible refine w_or ?_
  | with_reducible refine w_not ?_
  | with_reducible refine w_andV ?_
  | with_reducible refine w_orV ?_
  | with_reducible refine w_notV ?_
  | with_reducible refine w_chain ?_
  | with_reducible refine w_cons ?_
  | with_reducible refine w_nil ?_
  | with_reducible refine w_call ?_
  | with_reducible refine w_cb ?_
  | with_reducible refine w_tupE ?_
  | with_reducible refine w_lstE ?_
  | with_reducible refine w_abs ?_
  | with_reducible refine w_max ?_
  | with_reducible refine w_min ?_
  | with_reducible refine w_intI ?_
  | with_reducible refine w_intB ?_
  | ((with_reducible refine' w_lenL ?wh ?_); (case wh => wtm_at "seq"))
  | ((with_reducible refine' w_lenS ?wh ?_); (case wh => wtm_at "len"))
  | ((with_reducible refine' w_ixL ?wh ?wa ?_); (case wh => wtm_at "seq"); (case wa => wtm_at "ix"))
  | ((with_reducible refine' w_ixT ?wh ?wa ?_); (case wh => wtm_at "seq"); (case wa => wtm_at "ix"))
  | with_reducible refine w_gname ?_
  | with_reducible refine w_gsub ?_
  | with_reducible refine w_fldE ?_
  | ((with_reducible refine' w_fld ?wh ?wc ?wn ?wl ?_); (case wh => wtm_at "look"); (case wc => assumption); (case wn => assumption); (case wl => wtm_at "fld"))
  | with_reducible refine w_two ?_
  | with_reducible refine w_forE ?_
  | with_reducible refine w_iTup ?_
  | with_reducible refine w_iList ?_
  | with_reducible refine w_iRng1 ?_
  | with_reducible refine w_iRng2 ?_
  | ((with_reducible refine' w_itT ?wh ?_); (case wh => wtm_at "seq"))
  | ((with_reducible refine' w_itL ?wh ?_); (case wh => wtm_at "seq"))
  | with_reducible refine w_methE ?_
  | ((with_reducible refine' w_meth ?wh ?wl ?_); (case wh => wtm_at "look"); (case wl => wtm_at "fld"))
  | with_reducible refine w_makeE ?_
  | ((with_reducible refine makeG ?_); wtm_at "make")
  | ((with_reducible refine' w_isiB ?wt ?wk ?_); (case wt => wtm_at "tyx"); (case wk => wtm_at "kit"))
  | with_reducible refine w_sfld ?_
  | with_reducible refine w_gfldE ?_
  | ((with_reducible refine' w_st ?wh ?wc ?wn ?wl ?_); (case wh => wtm_at "look"); (case wc => assumption); (case wn => assumption); (case wl => (simp only [List.length_cons, List.length_nil]; omega)); wtm_at "mut")
  | ((with_reducible refine' w_gtup ?wh ?wn ?_); (case wh => wtm_at "seq"); (case wn => rfl))
  | with_reducible refine w_gcons ?_
  | with_reducible refine w_gnil ?_
  | with_reducible refine iteT ?_
  | with_reducible refine iteF ?_
  | ((with_reducible refine' iteT' ?wb ?_); (case wb => rfl))
  | ((with_reducible refine' iteF' ?wb ?_); (case wb => rfl))
  | ((with_reducible refine newL ?wl ?_); (case wl => wtm_at "len"); wtm_at "new"))
local macro_rules | `(tactic| wtm_at "w0") => `(tactic| dsimp only [cxOf, L2H.cxH, Cx.nox, Cx.wish, L2.start, List.map_cons, List.map_nil, List.length_cons, List.length_nil, List.cons_append, List.nil_append, List.replicate, Nat.reduceAdd, Nat.reduceSub])
local macro_rules | `(tactic| wtm_at "wp") => `(tactic| repeat (wtm_at "w1"))
local macro_rules | `(tactic| wtm_at "wq") => `(tactic| repeat ((fail_if_success (with_reducible refine w_if ?_)); wtm_at "w1"))

namespace K24
def topS (i : Nat) : Stmt := PySem.Challenge.pw_blocksearch_k24_queries_shown.main.body.getD i (.Pass ⟨0, 0, 0, 0⟩)
structure Txt (K : PySem.W.Frag) (mg : Str → Option Value) (Z : Zs) (C_QueryReader : Addr) : Prop where
  cl_QueryReader : Cls K C_QueryReader
  m_QueryReader : mg "QueryReader" = some (.ref C_QueryReader)
  na_QueryReader_text : NoAttr K C_QueryReader "text"
  na_QueryReader_at : NoAttr K C_QueryReader "at"
  na_QueryReader_least : NoAttr K C_QueryReader "least"
  c_LETTERS : ∃ t, mg "LETTERS" = some (.str "abcdefghijklmnopqrstuvwxyz" t)
  c_LONGEST : ∃ t, mg "LONGEST" = some (.int 12 t)
  c_DEEPEST : ∃ t, mg "DEEPEST" = some (.int 5 t)
  c_MOST_WORDS : ∃ t, mg "MOST_WORDS" = some (.int 12 t)
  c_FARTHEST : ∃ t, mg "FARTHEST" = some (.int 20 t)
  n_isinstance : mg "isinstance" = none
  n_bool : mg "bool" = none
  n_int : mg "int" = none
  n_str : mg "str" = none
  n_list : mg "list" = none
  n_tuple : mg "tuple" = none
  n_len : mg "len" = none
  n_all : mg "all" = none
  n_max : mg "max" = none
  n_min : mg "min" = none
  n_range : mg "range" = none
  n_abs : mg "abs" = none
  n_sum : mg "sum" = none
  n_zip : mg "zip" = none
  x_NoQuery : XpV K Z.NoQuery
  h_NoQuery : HowPl K Z Z.NoQuery 8
  m_Wrong : mg "Wrong" = some (.ref Z.Wrong)
  m_NoWord : mg "NoWord" = some (.ref Z.NoWord)
  m_NoText : mg "NoText" = some (.ref Z.NoText)
  m_NoNumber : mg "NoNumber" = some (.ref Z.NoNumber)
  m_NoSize : mg "NoSize" = some (.ref Z.NoSize)
  m_NoLengths : mg "NoLengths" = some (.ref Z.NoLengths)
  m_NoQuery : mg "NoQuery" = some (.ref Z.NoQuery)
  m_NoCode : mg "NoCode" = some (.ref Z.NoCode)
  m_NoRow : mg "NoRow" = some (.ref Z.NoRow)
  m_NoEntries : mg "NoEntries" = some (.ref Z.NoEntries)
  m_NoQueryText : mg "NoQueryText" = some (.ref Z.NoQueryText)
  m_NoPages : mg "NoPages" = some (.ref Z.NoPages)
  m_NoName : mg "NoName" = some (.ref Z.NoName)
  m_NoQueries : mg "NoQueries" = some (.ref Z.NoQueries)
  m_NoShelf : mg "NoShelf" = some (.ref Z.NoShelf)
  m_NoDeed : mg "NoDeed" = some (.ref Z.NoDeed)
  m_Taken : mg "Taken" = some (.ref Z.Taken)
  m_NoPlace : mg "NoPlace" = some (.ref Z.NoPlace)
  m_NoSlot : mg "NoSlot" = some (.ref Z.NoSlot)
  n_ValueError : mg "ValueError" = none
  n_IndexError : mg "IndexError" = none
abbrev s_law_kind : Stmt := topS 57
theorem sc_law_kind : FnScope ["_law_e", "_law_names", "_law_some"] ["_law_e"] (defScope s_law_kind) := ⟨rfl, rfl, rfl, by decide +kernel, rfl, by decide +kernel, by decide +kernel⟩
abbrev s_law_how : Stmt := topS 58
theorem sc_law_how : FnScope ["_law_deed", "_law_e"] ["_law_deed"] (defScope s_law_how) := ⟨rfl, rfl, rfl, by decide +kernel, rfl, by decide +kernel, by decide +kernel⟩
section
variable {P : Program} {w : World} {K : PySem.W.Frag} {mg : Str → Option Value} {base : Heap} {Z : Zs} {C_QueryReader : Addr}
theorem ok_kind {f : Addr} {fd : FuncData} (F : Fun K "_law_kind" "_law_kind" s_law_kind f fd) (T : Txt K mg Z C_QueryReader) : FnP0 P w K mg base 1 f fd ["_law_e"] (spKind K Z) := by
  refine Fun.okP F sc_law_kind (fun p vs H Q h => ?_) (fun cdv A outer s H vs Q p hr h => ?_)
  · obtain ⟨D, d, i, nm, rfl, _⟩ := h
    rfl
  · obtain ⟨a, oe⟩ := p
    obtain ⟨D, d, i, nm, rfl, hz, hf, hk, hx, hn, k⟩ := h
    have hE := hk.ex
    have k0 := hk.is 0 _ rfl
    have k1 := hk.is 1 _ rfl
    have k2 := hk.is 2 _ rfl
    have k3 := hk.is 3 _ rfl
    have k4 := hk.is 4 _ rfl
    have k5 := hk.is 5 _ rfl
    have k6 := hk.is 6 _ rfl
    have k7 := hk.is 7 _ rfl
    have k8 := hk.is 8 _ rfl
    have k9 := hk.is 9 _ rfl
    have k10 := hk.is 10 _ rfl
    have k11 := hk.is 11 _ rfl
    have k12 := hk.is 12 _ rfl
    have k13 := hk.is 13 _ rfl
    have k14 := hk.is 14 _ rfl
    have k15 := hk.is 15 _ rfl
    have kv := hk.ve
    have kx := hk.ix
    have hi : i < 16 := (List.getElem?_eq_some_iff.mp hn).1
    refine ⟨_, (pss_cons (ps_set (i := 1) sc_law_kind.nd rfl (.inl rfl) (pe_lst (pa_cons pe_str (pa_cons pe_str (pa_cons pe_str (pa_cons pe_str (pa_cons pe_str (pa_cons pe_str (pa_cons pe_str (pa_cons pe_str (pa_cons pe_str pa_nil)))))))))))
 (pss_cons (ps_set (i := 1) sc_law_kind.nd rfl (.inl rfl) (pe_op op_cat (pv 1) (pe_lst (pa_cons pe_str (pa_cons pe_str (pa_cons pe_str (pa_cons pe_str (pa_cons pe_str (pa_cons pe_str (pa_cons pe_str pa_nil))))))))))
 (pss_cons (ps_set (i := 2) sc_law_kind.nd rfl (.inl rfl) (pe_lst (pa_cons (pe_callB (call_isP (a := a) (oe := oe) List.mem_cons_self hz hf) (by rfl) T.n_isinstance PyProof.Rows.boot_isinstance (pa_cons (pv 0) (pa_cons (pe_gcls T.m_NoCode rfl) pa_nil))) (pa_cons (pe_callB (call_isP (a := a) (oe := oe) List.mem_cons_self hz hf) (by rfl) T.n_isinstance PyProof.Rows.boot_isinstance (pa_cons (pv 0) (pa_cons (pe_gcls T.m_NoDeed rfl) pa_nil))) (pa_cons (pe_callB (call_isP (a := a) (oe := oe) List.mem_cons_self hz hf) (by rfl) T.n_isinstance PyProof.Rows.boot_isinstance (pa_cons (pv 0) (pa_cons (pe_gcls T.m_NoEntries rfl) pa_nil))) (pa_cons (pe_callB (call_isP (a := a) (oe := oe) List.mem_cons_self hz hf) (by rfl) T.n_isinstance PyProof.Rows.boot_isinstance (pa_cons (pv 0) (pa_cons (pe_gcls T.m_NoLengths rfl) pa_nil))) pa_nil))))))
 (pss_cons (ps_set (i := 2) sc_law_kind.nd rfl (.inl rfl) (pe_op op_cat (pv 2) (pe_lst (pa_cons (pe_callB (call_isP (a := a) (oe := oe) List.mem_cons_self hz hf) (by rfl) T.n_isinstance PyProof.Rows.boot_isinstance (pa_cons (pv 0) (pa_cons (pe_gcls T.m_NoName rfl) pa_nil))) (pa_cons (pe_callB (call_isP (a := a) (oe := oe) List.mem_cons_self hz hf) (by rfl) T.n_isinstance PyProof.Rows.boot_isinstance (pa_cons (pv 0) (pa_cons (pe_gcls T.m_NoNumber rfl) pa_nil))) (pa_cons (pe_callB (call_isP (a := a) (oe := oe) List.mem_cons_self hz hf) (by rfl) T.n_isinstance PyProof.Rows.boot_isinstance (pa_cons (pv 0) (pa_cons (pe_gcls T.m_NoPages rfl) pa_nil))) (pa_cons (pe_callB (call_isP (a := a) (oe := oe) List.mem_cons_self hz hf) (by rfl) T.n_isinstance PyProof.Rows.boot_isinstance (pa_cons (pv 0) (pa_cons (pe_gcls T.m_NoQueries rfl) pa_nil))) pa_nil)))))))
 (pss_cons (ps_set (i := 2) sc_law_kind.nd rfl (.inl rfl) (pe_op op_cat (pv 2) (pe_lst (pa_cons (pe_callB (call_isP (a := a) (oe := oe) List.mem_cons_self hz hf) (by rfl) T.n_isinstance PyProof.Rows.boot_isinstance (pa_cons (pv 0) (pa_cons (pe_gcls T.m_NoQuery rfl) pa_nil))) (pa_cons (pe_callB (call_isP (a := a) (oe := oe) List.mem_cons_self hz hf) (by rfl) T.n_isinstance PyProof.Rows.boot_isinstance (pa_cons (pv 0) (pa_cons (pe_gcls T.m_NoQueryText rfl) pa_nil))) (pa_cons (pe_callB (call_isP (a := a) (oe := oe) List.mem_cons_self hz hf) (by rfl) T.n_isinstance PyProof.Rows.boot_isinstance (pa_cons (pv 0) (pa_cons (pe_gcls T.m_NoRow rfl) pa_nil))) (pa_cons (pe_callB (call_isP (a := a) (oe := oe) List.mem_cons_self hz hf) (by rfl) T.n_isinstance PyProof.Rows.boot_isinstance (pa_cons (pv 0) (pa_cons (pe_gcls T.m_NoShelf rfl) pa_nil))) pa_nil)))))))
 (pss_cons (ps_set (i := 2) sc_law_kind.nd rfl (.inl rfl) (pe_op op_cat (pv 2) (pe_lst (pa_cons (pe_callB (call_isP (a := a) (oe := oe) List.mem_cons_self hz hf) (by rfl) T.n_isinstance PyProof.Rows.boot_isinstance (pa_cons (pv 0) (pa_cons (pe_gcls T.m_NoSize rfl) pa_nil))) (pa_cons (pe_callB (call_isP (a := a) (oe := oe) List.mem_cons_self hz hf) (by rfl) T.n_isinstance PyProof.Rows.boot_isinstance (pa_cons (pv 0) (pa_cons (pe_gcls T.m_NoText rfl) pa_nil))) (pa_cons (pe_callB (call_isP (a := a) (oe := oe) List.mem_cons_self hz hf) (by rfl) T.n_isinstance PyProof.Rows.boot_isinstance (pa_cons (pv 0) (pa_cons (pe_gcls T.m_NoWord rfl) pa_nil))) (pa_cons (pe_callB (call_isP (a := a) (oe := oe) List.mem_cons_self hz hf) (by rfl) T.n_isinstance PyProof.Rows.boot_isinstance (pa_cons (pv 0) (pa_cons (pe_gcls T.m_Taken rfl) pa_nil))) pa_nil)))))))
 (pss_cons (ps_if (PW.pt (pw_or (pt_cmpR op_ne (pe_bm PySem.F.plainAttrs_list PySem.F.slot_list_count PySem.F.type_list_count (mt_countD (huH hr)) (pv 2) (pa_cons pe_bl pa_nil)) pe_int (nomark _)) (pw_or (pt_not (pt_val (pe_callB (call_isP (a := a) (oe := oe) List.mem_cons_self hz hf) (by rfl) T.n_isinstance PyProof.Rows.boot_isinstance (pa_cons (pv 0) (pa_cons (pe_bltn (v := .ty "ValueError") (by rfl) T.n_ValueError PyProof.Rows.Boot.«ValueError» rfl) pa_nil))))) (pw_or1 (pt_val (pe_callB (call_isPT (a := a) (oe := oe) List.mem_cons_self hz hf) (by rfl) T.n_isinstance PyProof.Rows.boot_isinstance (pa_cons (pv 0) (pa_cons (pe_tup (pa_cons (pe_gcls T.m_NoPlace rfl) (pa_cons (pe_gcls T.m_NoSlot rfl) pa_nil))) pa_nil))))))))
 (pss_one (ps_ret pe_str))
 pss_nil)
 (pss_one (ps_ret (pe_ix ix_list (pv 1) (pe_bm PySem.F.plainAttrs_list PySem.F.slot_list_index PySem.F.type_list_index (mt_indexD (huH hr)) (pv 2) (pa_cons pe_bl pa_nil)) (fun _ _ => rfl))))))))))), ?_⟩
    wtm_at "w0"
    wtm_at "wp"
    rename_i p1 n1 H1 s1 h1 p2 n2 H2 s2 h2 p3 H3 n3 s3 h3 p4 n4 H4 s4 h4 p5 n5 H5 s5 h5 p6 H6 n6 s6 h6 p7 n7 H7 s7 h7 p8 H8 n8 s8 h8 p9 n9 H9 s9 h9 p10 H10 n10 s10 h10
    refine w_countT (n := 1) [decide (0 = i), decide (1 = i), decide (2 = i), decide (3 = i), decide (4 = i), decide (5 = i), decide (6 = i), decide (7 = i), decide (8 = i), decide (9 = i), decide (10 = i), decide (11 = i), decide (12 = i), decide (13 = i), decide (14 = i), decide (15 = i)] rfl (.of h10) (cnt16 hi) ?_
    wtm_at "wp"
    rename_i p11 n11 H11 s11 h11
    have hS : SqL K H11 p10 _ := .of (s11 _ _ h10)
    refine w_indexT (j := i) [decide (0 = i), decide (1 = i), decide (2 = i), decide (3 = i), decide (4 = i), decide (5 = i), decide (6 = i), decide (7 = i), decide (8 = i), decide (9 = i), decide (10 = i), decide (11 = i), decide (12 = i), decide (13 = i), decide (14 = i), decide (15 = i)] rfl hS (idx16 hi) (fun m hm => bef16 hi m hm) ?_
    have hN : SqL K H11 p3 (kindNames.map V.str) := .of (s11 _ _ (s10 _ _ (s9 _ _ (s8 _ _ (s7 _ _ (s6 _ _ (s5 _ _ (s4 _ _ h3))))))))
    refine w_ixL hN (nam16 hn) ?_
    exact k _ (s1.trans (s2.trans (s3.trans (s4.trans (s5.trans (s6.trans (s7.trans (s8.trans (s9.trans (s10.trans s11))))))))))
theorem how_gives {X : Cx} {Z : Zs} {C_QueryReader : Addr} (T : Txt X.K X.mg Z C_QueryReader) (f__law_kind : FnP X.prog X.w X.K X.mg X.base "_law_kind" 1 ["_law_e"] (spKind X.K Z)) (hr : Room 2 X.A) {g : Addr} {cdg : Value} {q : Str} :
    LamX.GivesTo X ["_law_deed", "_law_e"] "_law_how" (defScope s_law_how) g cdg (defBody s_law_how) "_law_deed" q (TTHow X.K Z) := by
  intro f c' s H Q tl act hc h
  have hrH : ∀ a : Addr, L2H.RoomH 1 ((X.A.deeper (PyProof.Rows.envOfC "_law_how" (defScope s_law_how) s.heap.objs.size g cdg)).mark (some (.ref a))) := fun a => roomH_mark (hr.deeper _)
  refine ⟨_, pss_cons (ps_try_mas (X := (cxOf C8.CX0 X.prog X.w X.K X.mg X.base ["_law_deed", "_law_e"] "_law_how" (defScope s_law_how) g cdg X.A X.stack s H C8.E0).nox)
      (tb := fun W D σ H => ∃ Ech : XK, (∀ cls d (σ' : L2.St) H', σ'.length = 2 → Ech cls d H' → W cls d σ' H') ∧ σ[0]? = some (some (.ref f)) ∧ H c' = some (LamX.CodeO c' q) ∧ tl Ech H (fun _ H' => D.nx σ H'))
      rfl rfl (show List.Nodup _ from sc_law_how.nd) takes0 ?hsz (fun W pn xe tk _ => ?hb)
      (.cons (.tup (.cons ⟨rfl, by decide, .inl T.m_NoCode⟩ (.cons ⟨rfl, by decide, .inl T.m_NoEntries⟩ (.cons ⟨rfl, by decide, .inl T.m_NoPages⟩ (.cons ⟨rfl, by decide, .inl T.m_NoQueryText⟩ (.cons ⟨rfl, by decide, .inl T.m_NoRow⟩ .nil)))))) (i := 1) rfl rfl
        pss_any
      (.cons (.one ⟨rfl, by decide, .inl T.m_Wrong⟩) (i := 1) rfl rfl
        pss_any
      (.cons (.tup (.cons ⟨rfl, by decide, .inl T.m_NoPlace⟩ (.cons ⟨rfl, by decide, .inl T.m_NoSlot⟩ .nil))) (i := 1) rfl rfl
        pss_any .nil)))) (pss_one (ps_ret pe_str)), ?_⟩
  case hsz =>
    intro x hx
    simp only [List.mem_cons, List.not_mem_nil, or_false] at hx
    rcases hx with rfl | rfl | rfl <;> simp
  case hb =>
    refine ⟨fun pins s' σ H' D I h' => ?_⟩
    obtain ⟨Ech, hW, h1, h2, h3⟩ := h'
    exact (pss_one (ps_expr (act _ pn xe Ech _ _ (takes_len tk) (fun cls d σ' H' e hl => hW cls d σ' H' hl e)))).run pins s' σ H' D I ⟨h1, h2, h3⟩
  · refine ⟨howE X.K Z Q, fun cls d σ' H' hl hw => ?_, rfl, hc, h⟩
    obtain ⟨x0, x1, rfl⟩ := two_of hl
    obtain ⟨D, rfl, hw | hw | hw⟩ := hw
    · obtain ⟨i, nm, hp, hn, hx, k⟩ := hw
      refine ⟨false, hp.c1, fun z => Bool.noConfusion z, fun _ => ⟨true, hp.c2, fun _ a na => fun oe pn hz hf => ⟨_, (pss_one (ps_ret (pe_fp (a := a) (oe := oe) f__law_kind List.mem_cons_self hz hf (hrH _) rfl (pa_cons (pv 1) pa_nil)))), ?_⟩, fun z => Bool.noConfusion z⟩⟩
      wtm_at "w0"
      wtm_at "wp"
      intro oe hz hf
      exact ⟨D, d, i, nm, rfl, hz, hf, hp.k, hx, hn, k⟩
    · obtain ⟨i, nm, dd, v, tv, hp, hn, rfl, hd, ht, hb, k⟩ := hw
      have hE := hp.k.ex
      have hno := hp.no
      refine ⟨true, hp.c1, fun _ a na => fun oe pn hz hf => ⟨_, (pss_cons (ps_if (pt_val (pe_callB call_isi (by rfl) T.n_isinstance PyProof.Rows.boot_isinstance (pa_cons (pe_xfc (a := a) (oe := oe) List.mem_cons_self hz hf (pv 1)) (pa_cons (pe_bltn (v := .ty "bool") (by rfl) T.n_bool PyProof.Rows.boot_bool rfl) pa_nil))))
 (pss_one (ps_ret pe_str))
 pss_nil)
 (pss_one (ps_ret (pe_tup (pa_cons (pe_fp (a := a) (oe := oe) f__law_kind List.mem_cons_self hz hf (hrH _) rfl (pa_cons (pv 1) pa_nil)) (pa_cons (pe_xfc (a := a) (oe := oe) List.mem_cons_self hz hf (pv 1)) pa_nil)))))), ?_⟩, fun z => Bool.noConfusion z⟩
      wtm_at "w0"
      wtm_at "wp"
      refine w_isiB ht hb ?_
      wtm_at "wp"
      intro oe hz hf
      refine ⟨D, _, i, nm, rfl, hz, hf, hp.k, xdOk_at hd, hn, fun H1 s1 => ?_⟩
      have hd1 := s1 _ _ hd
      wtm_at "wp"
      rename_i p n2 H2 s2 h2
      exact k p H2 (same_free s1 n2) (s1.trans s2) h2
    · obtain ⟨b, hp, hx, k⟩ := hw
      have hE := hp.ex
      have h1 := hp.ie
      have h2 := hp.np
      have h3 := hp.ns
      refine ⟨false, hp.c1, fun z => Bool.noConfusion z, fun _ => ⟨false, hp.c2, fun z => Bool.noConfusion z, fun _ => ⟨true, hp.c3, fun _ a na => fun oe pn hz hf => ⟨_, (pss_cons (ps_if (PW.pt (pw_or (pt_not (pt_val (pe_callB (call_isP (a := a) (oe := oe) List.mem_cons_self hz hf) (by rfl) T.n_isinstance PyProof.Rows.boot_isinstance (pa_cons (pv 1) (pa_cons (pe_bltn (v := .ty "IndexError") (by rfl) T.n_IndexError PyProof.Rows.Boot.«IndexError» rfl) pa_nil))))) (pw_or1 (pt_cmpR op_eq (pe_callB (call_isP (a := a) (oe := oe) List.mem_cons_self hz hf) (by rfl) T.n_isinstance PyProof.Rows.boot_isinstance (pa_cons (pv 1) (pa_cons (pe_gcls T.m_NoPlace rfl) pa_nil))) (pe_callB (call_isP (a := a) (oe := oe) List.mem_cons_self hz hf) (by rfl) T.n_isinstance PyProof.Rows.boot_isinstance (pa_cons (pv 1) (pa_cons (pe_gcls T.m_NoSlot rfl) pa_nil))) (nomark _)))))
 (pss_one (ps_ret pe_str))
 pss_nil)
 (pss_one (ps_ret (pe_ix ix_list (pe_lst (pa_cons pe_str (pa_cons pe_str pa_nil))) (pe_callTy cl_int (by rfl) T.n_int PyProof.Rows.boot_int (pa_cons (pe_callB (call_isP (a := a) (oe := oe) List.mem_cons_self hz hf) (by rfl) T.n_isinstance PyProof.Rows.boot_isinstance (pa_cons (pv 1) (pa_cons (pe_gcls T.m_NoPlace rfl) pa_nil))) pa_nil)) (fun _ _ => rfl))))), ?_⟩, fun z => Bool.noConfusion z⟩⟩⟩
      wtm_at "w0"
      cases b <;> (wtm_at "wp"; exact k _ (by assumption))
theorem how_asks {g : Addr} {fd : FuncData} (T : Txt K mg Z C_QueryReader) (F : Fun K "_law_how" "_law_how" s_law_how g fd) (hm : mg "_law_how" = some (.ref g)) (hb : L2.Binds K fd ["_law_deed"] []) (f__law_kind : FnP P w K mg base "_law_kind" 1 ["_law_e"] (spKind K Z)) :
    Asks P w K mg base "_law_how" "_law_deed" ["_law_deed", "_law_e"] s_law_how 2 (TTHow K Z) := by
  refine ⟨⟨g, fd, F, hm, hb⟩, sc_law_how, rfl, .inl rfl, fun X e1 e2 e3 e4 e5 hr g cdg q => ?_⟩
  subst e1 e2 e3 e4 e5
  exact how_gives T f__law_kind hr
end

section
variable {P : Program} {w : World} {K : PySem.W.Frag} {mg : Str → Option Value} {base : Heap} {Z : Zs} {C_QueryReader : Addr}
abbrev s_is_whole : Stmt := topS 23
theorem sc_is_whole : FnScope ["thing"] ["thing"] (defScope s_is_whole) := ⟨rfl, rfl, rfl, by decide +kernel, rfl, by decide +kernel, by decide +kernel⟩
abbrev s_is_word : Stmt := topS 24
theorem sc_is_word : FnScope ["thing", "sign"] ["thing"] (defScope s_is_word) := ⟨rfl, rfl, rfl, by decide +kernel, rfl, by decide +kernel, by decide +kernel⟩
/-! ### words: nothing is refused here -/
def spWord (K : PySem.W.Frag) : Sp := fun vs H Q _ => ∃ v, vs = [v] ∧ TxtV H v ∧ ∀ H', Same H H' → Q (.bl (isWV v)) H'
theorem ok_is_word {f : Addr} {fd : FuncData} (F : Fun K "is_word" "is_word" s_is_word f fd) (T : Txt K mg Z C_QueryReader) : FnOk P w K mg base CX0 1 f fd ["thing"] (spWord K) := by
  refine F.ok sc_is_word (fun vs H Q E h => ?_) (fun cdv A outer s H vs Q E hr h => ?_)
  · obtain ⟨v, rfl, _⟩ := h
    rfl
  · obtain ⟨v, rfl, hv, k⟩ := h
    have k' : ∀ {b : Bool}, isWV v = b → ∀ H', Same H H' → Q (.bl b) H' := fun e H' s => e ▸ k H' s
    refine ⟨_, (pss_one (ps_ret (pe_and (pe_callB call_isi (by rfl) T.n_isinstance PyProof.Rows.boot_isinstance (pa_cons (pv 0) (pa_cons (pe_bltn (v := .ty "str") (by rfl) T.n_str PyProof.Rows.boot_str rfl) pa_nil))) (pe_and (pe_chain op_le op_le pe_int (pe_callB cl_len (by rfl) T.n_len PySem.boot_len (pa_cons (pv 0) pa_nil)) (pe_gint T.c_LONGEST rfl)) (pe_one (pe_callB (cr_all rfl) (by rfl) T.n_all PyProof.Rows.boot_all (pa_cons (pe_lc (own := [("sign", 1)]) (g := gName 1) (tt := tYes) rfl sc_is_word.nd (pi_str (pv 0)) (blkOk_by (own := [("sign", 1)]) (N := ["thing", "sign"]) (sc := defScope s_is_word) (by decide +kernel)) (fun _ _ _ _ _ => pg_name (i := 1) sc_is_word.nd rfl (Or.inl rfl)) (fun _ _ _ _ _ => pts_nil) (fun _ _ _ _ _ => (pe_cmpR op_inS (pv 1) (pe_gstr T.c_LETTERS rfl) (by rfl)))) pa_nil))))))), ?_⟩
    wtm_at "w0"
    rcases hv with ⟨x, rfl, hx⟩ | ho
    · wtm_at "wp"
      have e0 : isWV (.str x) = (decide (1 ≤ x.length ∧ x.length ≤ 12) && x.cps.toList.all fun c => decide (c ∈ abc.cps.toList)) := rfl
      refine w_dec (fun h1 => ?_) (fun h1 => ?_)
      · wtm_at "wp"
        refine w_dec (fun h2 => ?_) (fun h2 => ?_)
        · wtm_at "wp"
          dsimp only
          refine lc_fin fin_str (fun i acc H' => Same H H' ∧ acc = ((x.cps.toList.take i).map fun c => decide (c ∈ abc.cps.toList)).map V.bl) (fun D H2 nD s2 hD => ⟨s2, rfl⟩) (fun _ _ _ _ _ => trivial) ?_ ?_
          · rintro D i v acc H3 H4 nD hi ha ⟨s3, e3⟩ hD ⟨rfl, c, hc, rfl⟩
            wtm_at "wp"
            refine ⟨rfl, ?_⟩
            wtm_at "wp"
            refine w_acc hD ha hi (sz (by have : x.cps.size = x.length := rfl; omega)) (fun H5 k5 h5 => ⟨k5.same s3 nD, ?_⟩)
            rw [e3, take_succ hc]
            simp
            try rfl
          · rintro D acc H3 nD ⟨s3, e3⟩ ha hD
            wtm_at "wp"
            refine w_all e3 (.of hD) (k' ?_ _ s3)
            rw [e0, decide_eq_true ⟨by omega, by omega⟩, Bool.true_and, take_size, List.all_map]
            rfl
        · wtm_at "wp"
          refine k' ?_ _ (.refl _)
          rw [e0, decide_eq_false (fun z => by omega), Bool.false_and]
      · wtm_at "wp"
        refine k' ?_ _ (.refl _)
        rw [e0, decide_eq_false (fun z => by omega), Bool.false_and]
    · obtain ⟨nx, tv, ht, hk⟩ := ho.ty (K := K)
      wtm_at "wp"
      refine w_isiB ht hk ?_
      wtm_at "wp"
      have e0 : isWV v = false := by
        cases v <;> first | rfl | exact absurd rfl (nx _)
      rw [e0] at k
      exact k _ (.refl _)
def isInt : V → Bool
  | .int _ => true
  | _ => false
def spWhole : Sp := fun vs H Q _ => ∃ v, vs = [v] ∧ Thg H v ∧ Q (.bl (isInt v)) H
theorem ok_whole {f : Addr} {fd : FuncData} (F : Fun K "is_whole" "is_whole" s_is_whole f fd) (T : Txt K mg Z C_QueryReader) : FnOk P w K mg base CX0 1 f fd ["thing"] spWhole := by
  refine F.ok sc_is_whole (fun vs H Q E h => ?_) (fun cdv A outer s H vs Q E hr h => ?_)
  · obtain ⟨v, rfl, _⟩ := h
    rfl
  · obtain ⟨v, rfl, hv, k⟩ := h
    refine ⟨_, (pss_one (ps_ret (pe_and (pe_callB call_isi (by rfl) T.n_isinstance PyProof.Rows.boot_isinstance (pa_cons (pv 0) (pa_cons (pe_bltn (v := .ty "int") (by rfl) T.n_int PyProof.Rows.boot_int rfl) pa_nil))) (pe_one (pe_not (pe_callB call_isi (by rfl) T.n_isinstance PyProof.Rows.boot_isinstance (pa_cons (pv 0) (pa_cons (pe_bltn (v := .ty "bool") (by rfl) T.n_bool PyProof.Rows.boot_bool rfl) pa_nil)))))))), ?_⟩
    wtm_at "w0"
    cases hv <;> (wtm_at "wp"; exact k)

end
end K24

namespace K24
section
variable {P : Program} {w : World} {K : PySem.W.Frag} {mg : Str → Option Value} {base : Heap} {Z : Zs} {C_QueryReader : Addr}
abbrev s_count_word : Stmt := topS 29
theorem sc_count_word : FnScope ["parts", "deep"] ["parts", "deep"] (defScope s_count_word) := ⟨rfl, rfl, rfl, by decide +kernel, rfl, by decide +kernel, by decide +kernel⟩
abbrev s_count_phrase : Stmt := topS 30
theorem sc_count_phrase : FnScope ["parts", "deep", "part"] ["parts", "deep"] (defScope s_count_phrase) := ⟨rfl, rfl, rfl, by decide +kernel, rfl, by decide +kernel, by decide +kernel⟩
abbrev s_count_near : Stmt := topS 31
theorem sc_count_near : FnScope ["parts", "deep", "far", "words", "word"] ["parts", "deep"] (defScope s_count_near) := ⟨rfl, rfl, rfl, by decide +kernel, rfl, by decide +kernel, by decide +kernel⟩
abbrev s_count_joined : Stmt := topS 32
theorem sc_count_joined : FnScope ["parts", "deep", "counts", "part"] ["parts", "deep"] (defScope s_count_joined) := ⟨rfl, rfl, rfl, by decide +kernel, rfl, by decide +kernel, by decide +kernel⟩
abbrev s_count_but : Stmt := topS 33
theorem sc_count_but : FnScope ["parts", "deep"] ["parts", "deep"] (defScope s_count_but) := ⟨rfl, rfl, rfl, by decide +kernel, rfl, by decide +kernel, by decide +kernel⟩
abbrev s_count_words : Stmt := topS 35
theorem sc_count_words : FnScope ["thing", "deep", "kind", "parts", "count"] ["thing", "deep"] (defScope s_count_words) := ⟨rfl, rfl, rfl, by decide +kernel, rfl, by decide +kernel, by decide +kernel⟩
abbrev s_is_query : Stmt := topS 36
theorem sc_is_query : FnScope ["thing", "many"] ["thing"] (defScope s_is_query) := ⟨rfl, rfl, rfl, by decide +kernel, rfl, by decide +kernel, by decide +kernel⟩
/-! ### queries -/
def spPart (K : PySem.W.Frag) (N : Nat) (g : Nat → List PyData → Option Nat) : Sp := fun vs H Q _ => ∃ (a : Addr) (n L : Nat) (xs : List V) (ds : List PyData), vs = [.ref a, .int ((n + 1 : Nat) : Int)] ∧ n ≤ N ∧ H a = some (.lst xs) ∧ RpAll H xs ds ∧ (∀ d ∈ ds, Fit L d) ∧ L ≤ 50 ∧ xs.length ≤ 1000 ∧ ∀ H', Same H H' → Q (cntV (g n ds)) H'
def spCnt (K : PySem.W.Frag) (N : Nat) : Sp := fun vs H Q _ => ∃ (v : V) (n L : Nat) (d : PyData), vs = [v, .int (n : Nat)] ∧ n ≤ N ∧ Rp H v d ∧ Fit L d ∧ L ≤ 50 ∧ ∀ H', Same H H' → Q (cntV (cnt n d)) H'
theorem at_rp {H : Hp} {xs : List V} {ds : List PyData} (h : RpAll H xs ds) {i : Nat} (hi : i < xs.length) : ∃ v d, xs[i]? = some v ∧ ds[i]? = some d ∧ Rp H v d := by
  obtain ⟨d, h1, h2⟩ := h.at (List.getElem?_eq_getElem hi)
  exact ⟨_, d, List.getElem?_eq_getElem hi, h1, h2⟩
theorem ok_cword {N : Nat} {f : Addr} {fd : FuncData} (F : Fun K "count_word" "count_word" s_count_word f fd) (T : Txt K mg Z C_QueryReader) (f_is_word : Fn P w K mg base "is_word" 1 ["thing"] (spWord K)) : FnOk P w K mg base CX0 2 f fd ["parts", "deep"] (spPart K N fun _ => wordC) := by
  refine F.ok sc_count_word (fun vs H Q E h => ?_) (fun cdv A outer s H vs Q E hr h => ?_)
  · obtain ⟨a, n, L, xs, ds, rfl, _⟩ := h
    rfl
  · obtain ⟨a, n, L, xs, ds, rfl, hn, ha, hR, hF, hL, hl, k⟩ := h
    have hlen := hR.length
    have k' : ∀ {o : Option Nat}, wordC ds = o → ∀ H', Same H H' → Q (cntV o) H' := fun e H' s => e ▸ k H' s
    refine ⟨_, (pss_one (ps_ret (pe_ifExp (PW.pt (pw_and (pt_cmpR op_eq (pe_callB cl_len (by rfl) T.n_len PySem.boot_len (pa_cons (pv 0) pa_nil)) pe_int (nomark _)) (pw_and1 (pt_val (pe_fn f_is_word (hr.mono (by omega)) rfl (pa_cons (pe_ix ix_list (pv 0) pe_int (fun _ _ => rfl)) pa_nil)))))) pe_int pe_non))), ?_⟩
    wtm_at "w0"
    wtm_at "wp"
    refine w_dec (fun h1 => ?_) (fun h1 => ?_)
    · have h1' : xs.length = 1 := by have := V.int.inj h1; omega
      obtain ⟨v, d, g1, g2, g3⟩ := at_rp hR (i := 0) (by omega)
      wtm_at "wp"
      refine w_ixL (.of ha) (atI_nat g1) ?_
      wtm_at "wp"
      refine ⟨v, rfl, g3.txt (hF d (List.mem_of_getElem? g2)), fun H1 s1 => ?_⟩
      have e0 : ds = [d] := by
        match ds, hlen, g2 with
        | [d'], _, g2 => cases g2; rfl
        | [], hl, g2 => cases g2
        | _ :: _ :: _, hl, _ => simp at hl; omega
      rw [isWD_of g3]
      wtm_at "wp"
      cases hw : isWD d with
      | true =>
        wtm_at "wp"
        exact k' (o := some 1) (by rw [e0]; unfold wordC; rw [if_pos ⟨rfl, by simp [hw]⟩]) _ s1
      | false =>
        wtm_at "wp"
        exact k' (o := none) (by rw [e0]; unfold wordC; rw [if_neg (fun z => by simp [hw] at z)]) _ s1
    · wtm_at "wp"
      exact k' (o := none) (by unfold wordC; rw [if_neg (fun z => h1 (by rw [hlen, z.1]; rfl))]) _ (.refl _)
/-- is each a word? -/
theorem all_words {H : Hp} : True := trivial
theorem ok_cphrase {N : Nat} {f : Addr} {fd : FuncData} (F : Fun K "count_phrase" "count_phrase" s_count_phrase f fd) (T : Txt K mg Z C_QueryReader) (f_is_word : Fn P w K mg base "is_word" 1 ["thing"] (spWord K)) : FnOk P w K mg base CX0 2 f fd ["parts", "deep"] (spPart K N fun _ => phraseC) := by
  refine F.ok sc_count_phrase (fun vs H Q E h => ?_) (fun cdv A outer s H vs Q E hr h => ?_)
  · obtain ⟨a, n, L, xs, ds, rfl, _⟩ := h
    rfl
  · obtain ⟨a, n, L, xs, ds, rfl, hn, ha, hR, hF, hL, hl, k⟩ := h
    have hlen := hR.length
    have k' : ∀ {o : Option Nat}, phraseC ds = o → ∀ H', Same H H' → Q (cntV o) H' := fun e H' s => e ▸ k H' s
    refine ⟨_, (pss_one (ps_ret (pe_ifExp (PW.pt (pw_and (pt_chain op_le op_le pe_int (pe_callB cl_len (by rfl) T.n_len PySem.boot_len (pa_cons (pv 0) pa_nil)) pe_int) (pw_and1 (pt_val (pe_callB (cr_all rfl) (by rfl) T.n_all PyProof.Rows.boot_all (pa_cons (pe_lc (own := [("part", 2)]) (g := gName 2) (tt := tYes) rfl sc_count_phrase.nd (show PI _ _ _ (iList K _) from (pi_list (pv 0))) (blkOk_by (own := [("part", 2)]) (N := ["parts", "deep", "part"]) (sc := defScope s_count_phrase) (by decide +kernel)) (fun _ _ _ _ _ => pg_name (i := 2) sc_count_phrase.nd rfl (Or.inl rfl)) (fun _ _ _ _ _ => pts_nil) (fun _ _ _ _ _ => (pe_fn f_is_word (hr.mono (by omega)) rfl (pa_cons (pv 2) pa_nil)))) pa_nil)))))) (pe_callB cl_len (by rfl) T.n_len PySem.boot_len (pa_cons (pv 0) pa_nil)) pe_non))), ?_⟩
    wtm_at "w0"
    wtm_at "wp"
    refine w_dec (fun h1 => ?_) (fun h1 => ?_)
    · wtm_at "wp"
      refine w_dec (fun h2 => ?_) (fun h2 => ?_)
      · wtm_at "wp"
        refine lc_fin (fin_list (xs := xs)) (fun i acc H' => Same H H' ∧ acc = ((ds.take i).map isWD).map V.bl) (fun D H2 nD s2 hD => ⟨s2, rfl⟩) (fun i acc H2 _ h => .of (h.1 _ _ ha)) ?_ ?_
        · rintro D i v acc H3 H4 nD hi hac ⟨s3, e3⟩ hD ⟨rfl, hv⟩
          obtain ⟨d, g1, g2⟩ := hR.at hv
          wtm_at "wp"
          refine ⟨rfl, ?_⟩
          wtm_at "wp"
          refine ⟨v, rfl, (g2.same s3).txt (hF d (List.mem_of_getElem? g1)), fun H5 s5 => ?_⟩
          refine w_acc (s5 _ _ hD) hac hi (sz (by omega)) (fun H6 k6 h6 => ⟨k6.same (s3.trans s5) nD, ?_⟩)
          rw [e3, take_succL g1, isWD_of g2]
          simp
        · rintro D acc H3 nD ⟨s3, e3⟩ hac hD
          rw [hlen, List.take_length] at e3
          wtm_at "wp"
          refine w_all e3 (.of hD) ?_
          have ea : ((ds.map isWD).all id) = ds.all isWD := by
            rw [List.all_map]
            rfl
          rw [ea]
          wtm_at "wp"
          cases hb : ds.all isWD with
          | true =>
            have ha3 := s3 _ _ ha
            wtm_at "wp"
            rw [hlen]
            exact k' (o := some ds.length) (by unfold phraseC; rw [if_pos ⟨by omega, by omega, hb⟩]) _ s3
          | false =>
            wtm_at "wp"
            exact k' (o := none) (by unfold phraseC; rw [if_neg (fun z => by rw [hb] at z; exact absurd z.2.2 Bool.false_ne_true)]) _ s3
      · wtm_at "wp"
        exact k' (o := none) (by unfold phraseC; rw [if_neg (fun z => by omega)]) _ (.refl _)
    · wtm_at "wp"
      exact k' (o := none) (by unfold phraseC; rw [if_neg (fun z => by omega)]) _ (.refl _)
theorem ok_cnear {N : Nat} {f : Addr} {fd : FuncData} (F : Fun K "count_near" "count_near" s_count_near f fd) (T : Txt K mg Z C_QueryReader) (f_is_word : Fn P w K mg base "is_word" 1 ["thing"] (spWord K)) (f_is_whole : Fn P w K mg base "is_whole" 1 ["thing"] spWhole) : FnOk P w K mg base CX0 2 f fd ["parts", "deep"] (spPart K N fun _ => nearC) := by
  refine F.ok sc_count_near (fun vs H Q E h => ?_) (fun cdv A outer s H vs Q E hr h => ?_)
  · obtain ⟨a, n, L, xs, ds, rfl, _⟩ := h
    rfl
  · obtain ⟨a, n, L, xs, ds, rfl, hn, ha, hR, hF, hL, hl, k⟩ := h
    have hlen := hR.length
    have k' : ∀ {o : Option Nat}, nearC ds = o → ∀ H', Same H H' → Q (cntV o) H' := fun e H' s => e ▸ k H' s
    refine ⟨_, (pss_cons (ps_if (pt_cmpR op_ne (pe_callB cl_len (by rfl) T.n_len PySem.boot_len (pa_cons (pv 0) pa_nil)) pe_int (nomark _))
 (pss_one (ps_ret pe_non))
 pss_nil)
 (pss_cons (ps_asg (pv 0) (pg_star (k := 1) (after := 0) rfl (pgs_cons (pg_name (i := 2) sc_count_near.nd rfl (.inl rfl)) (pgs_star (pg_name (i := 3) sc_count_near.nd rfl (.inl rfl)) pgs_nil))))
 (pss_cons (ps_if (PW.pt (pw_or (pt_not (pt_val (pe_fn f_is_whole (hr.mono (by omega)) rfl (pa_cons (pv 2) pa_nil)))) (pw_or (pt_not (pt_chain op_le op_le pe_int (pv 2) (pe_gint T.c_FARTHEST rfl))) (pw_or1 (pt_not (pt_val (pe_callB (cr_all rfl) (by rfl) T.n_all PyProof.Rows.boot_all (pa_cons (pe_lc (own := [("word", 4)]) (g := gName 4) (tt := tYes) rfl sc_count_near.nd (show PI _ _ _ (iList K _) from (pi_list (pv 3))) (blkOk_by (own := [("word", 4)]) (N := ["parts", "deep", "far", "words", "word"]) (sc := defScope s_count_near) (by decide +kernel)) (fun _ _ _ _ _ => pg_name (i := 4) sc_count_near.nd rfl (Or.inl rfl)) (fun _ _ _ _ _ => pts_nil) (fun _ _ _ _ _ => (pe_fn f_is_word (hr.mono (by omega)) rfl (pa_cons (pv 4) pa_nil)))) pa_nil))))))))
 (pss_one (ps_ret pe_non))
 pss_nil)
 (pss_one (ps_ret pe_int))))), ?_⟩
    wtm_at "w0"
    wtm_at "wp"
    refine w_decN (fun h1 => ?_) (fun h1 => ?_)
    · have h3 : xs.length = 3 := by have := V.int.inj h1; omega
      obtain ⟨x, y, z, rfl⟩ : ∃ x y z, xs = [x, y, z] := by
        match xs, h3 with
        | [x, y, z], _ => exact ⟨x, y, z, rfl⟩
      obtain ⟨d1, d2, d3, rfl⟩ : ∃ d1 d2 d3, ds = [d1, d2, d3] := by
        have h3' : ds.length = 3 := by omega
        match ds, h3' with
        | [x, y, z], _ => exact ⟨x, y, z, rfl⟩
      obtain ⟨_, e1, r1⟩ := hR.at (i := 0) rfl
      obtain ⟨_, e2, r2⟩ := hR.at (i := 1) rfl
      obtain ⟨_, e3, r3⟩ := hR.at (i := 2) rfl
      cases e1
      cases e2
      cases e3
      wtm_at "wp"
      refine ⟨a, _, rfl, .inr (.of ha), by simp, fun p1 n1 => ?_⟩
      generalize eN : upd H p1 _ = H1
      have s1 := same_gen n1 eN
      have hp1 := at_gen eN
      clear eN
      have hp1' : H1 p1 = some (.lst [y, z]) := hp1
      simp only [List.length_cons, List.length_nil, List.take_succ_cons, List.take_zero, List.drop_succ_cons, List.drop_zero, Nat.reduceAdd, Nat.reduceSub, List.cons_append, List.nil_append, List.drop_nil]
      wtm_at "wp"
      refine ⟨x, rfl, r1.thg.same s1, ?_⟩
      have bad : (∀ f, d1 ≠ .int f) → ∀ H', Same H H' → Q .non H' := fun hb => k' (o := none) (by
        unfold nearC
        split
        · rename_i f a b heq
          cases heq
          exact absurd rfl (hb f)
        · rfl)
      cases r1 with
      | non => wtm_at "wp"; exact bad (fun f z => by cases z) _ s1
      | bl b => wtm_at "wp"; exact bad (fun f z => by cases z) _ s1
      | str b => wtm_at "wp"; exact bad (fun f z => by cases z) _ s1
      | lst h r => wtm_at "wp"; exact bad (fun f z => by cases z) _ s1
      | tup h r => wtm_at "wp"; exact bad (fun f z => by cases z) _ s1
      | int i =>
        wtm_at "wp"
        refine w_dec (fun g1 => ?_) (fun g1 => ?_)
        · wtm_at "wp"
          by_cases g2 : i ≤ 20
          · refine iteF' (by rw [decide_eq_true g2]; rfl) ?_
            wtm_at "wp"
            refine lc_fin (fin_list (xs := [y, z])) (fun i acc H' => Same H1 H' ∧ acc = (([d2, d3].take i).map isWD).map V.bl) (fun D H2 nD s2 hD => ⟨s2, rfl⟩) (fun i acc H2 _ h => .of (h.1 _ _ hp1')) ?_ ?_
            · rintro D j v acc H3 H4 nD hj hac ⟨s3, e3⟩ hD ⟨rfl, hv⟩
              have hvd : ∃ d, [d2, d3][j]? = some d ∧ Rp H v d ∧ Fit L d := by
                match j, hj with
                | 0, _ => cases hv; exact ⟨d2, rfl, r2, hF d2 (by simp)⟩
                | 1, _ => cases hv; exact ⟨d3, rfl, r3, hF d3 (by simp)⟩
              obtain ⟨d, g1', g2', g3'⟩ := hvd
              wtm_at "wp"
              refine ⟨rfl, ?_⟩
              wtm_at "wp"
              refine ⟨v, rfl, ((g2'.same s1).same s3).txt g3', fun H5 s5 => ?_⟩
              refine w_acc (s5 _ _ hD) hac hj (sz (by simp)) (fun H6 k6 h6 => ⟨k6.same (s3.trans s5) nD, ?_⟩)
              rw [e3, take_succL g1', isWD_of g2']
              simp
            · rintro D acc H3 nD ⟨s3, e3⟩ hac hD
              wtm_at "wp"
              refine w_all (bs := [isWD d2, isWD d3]) e3 (.of hD) ?_
              wtm_at "wp"
              have ea : ([isWD d2, isWD d3].all id) = (isWD d2 && isWD d3) := by simp
              rw [ea]
              cases hb : (isWD d2 && isWD d3) with
              | true =>
                rw [Bool.and_eq_true] at hb
                wtm_at "wp"
                exact k' (o := some 2) (by unfold nearC; simp only; rw [if_pos ⟨by omega, g2, hb.1, hb.2⟩]) _ (s1.trans s3)
              | false =>
                wtm_at "wp"
                exact k' (o := none) (by unfold nearC; simp only; rw [if_neg (fun z => by rw [z.2.2.1, z.2.2.2] at hb; cases hb)]) _ (s1.trans s3)
          · refine iteT' (by rw [decide_eq_false g2]; rfl) ?_
            wtm_at "wp"
            exact k' (o := none) (by unfold nearC; simp only; rw [if_neg (fun z => g2 z.2.1)]) _ s1
        · wtm_at "wp"
          exact k' (o := none) (by unfold nearC; simp only; rw [if_neg (fun z => g1 z.1)]) _ s1
    · wtm_at "wp"
      refine k' (o := none) ?_ _ (.refl _)
      unfold nearC
      split
      · rename_i f a b
        exact absurd (by rw [hlen]; rfl) h1
      · rfl
theorem ok_cjoin {N : Nat} {f : Addr} {fd : FuncData} (F : Fun K "count_joined" "count_joined" s_count_joined f fd) (T : Txt K mg Z C_QueryReader) (f_count_words : Fn P w K mg base "count_words" (4 * N + 3) ["thing", "deep"] (spCnt K N)) : FnOk P w K mg base CX0 (4 * N + 4) f fd ["parts", "deep"] (spPart K N fun n ds => joinC (ds.map (cnt n))) := by
  refine F.ok sc_count_joined (fun vs H Q E h => ?_) (fun cdv A outer s H vs Q E hr h => ?_)
  · obtain ⟨a, n, L, xs, ds, rfl, _⟩ := h
    rfl
  · obtain ⟨a, n, L, xs, ds, rfl, hn, ha, hR, hF, hL, hl, k⟩ := h
    have hlen := hR.length
    have k' : ∀ {o : Option Nat}, joinC (ds.map (cnt n)) = o → ∀ H', Same H H' → Q (cntV o) H' := fun e H' s => e ▸ k H' s
    refine ⟨_, (pss_cons (ps_setLc (i := 2) (own := [("part", 3)]) (g := gName 3) (tt := tYes) rfl sc_count_joined.nd rfl rfl (sw_true rfl rfl rfl (by decide +kernel)) (show PI _ _ _ (iList K _) from (pi_list (pv 0))) (blkOk_by (own := [("part", 3)]) (N := ["parts", "deep", "counts", "part"]) (sc := defScope s_count_joined) (by decide +kernel)) (fun _ _ _ _ _ => pg_name (i := 3) sc_count_joined.nd rfl (Or.inl rfl)) (fun _ _ _ _ _ => pts_nil) (fun _ _ _ _ _ => (pe_fn f_count_words (hr.mono (by omega)) rfl (pa_cons (pv 3) (pa_cons (pe_op op_sub (pv 1) pe_int) pa_nil)))))
 (pss_cons (ps_if (PW.pt (pw_or (pt_not (pt_chain op_le op_le pe_int (pe_callB cl_len (by rfl) T.n_len PySem.boot_len (pa_cons (pv 0) pa_nil)) pe_int)) (pw_or1 (pt_cmpR op_in_seq pe_non (pv 2) (by rfl)))))
 (pss_one (ps_ret pe_non))
 pss_nil)
 (pss_one (ps_ret (pe_callB (cr_sum rfl) (by rfl) T.n_sum PyProof.Rows.boot_sum (pa_cons (pv 2) pa_nil)))))), ?_⟩
    wtm_at "w0"
    wtm_at "wp"
    refine lc_fin (fin_list (xs := xs)) (fun i acc H' => Same H H' ∧ acc = ((ds.take i).map (cnt n)).map cntV) (fun D H2 nD s2 hD => ⟨s2, rfl⟩) (fun i acc H2 _ h => .of (h.1 _ _ ha)) ?_ ?_
    · rintro D i v acc H3 H4 nD hi hac ⟨s3, e3⟩ hD ⟨rfl, hv⟩
      obtain ⟨d, g1, g2⟩ := hR.at hv
      wtm_at "wp"
      refine ⟨rfl, ?_⟩
      wtm_at "wp"
      have en : (((n + 1 : Nat) : Int) - 1) = ((n : Nat) : Int) := by omega
      rw [en]
      refine ⟨v, n, L, d, rfl, hn, g2.same s3, hF d (List.mem_of_getElem? g1), hL, fun H5 s5 => ?_⟩
      refine w_acc (s5 _ _ hD) hac hi (sz (by omega)) (fun H6 k6 h6 => ⟨k6.same (s3.trans s5) nD, ?_⟩)
      rw [e3, take_succL g1]
      simp
    · rintro D acc H3 nD ⟨s3, e3⟩ hac hD
      rw [hlen, List.take_length] at e3
      subst e3
      have ha3 := s3 _ _ ha
      generalize hcs : ds.map (cnt n) = cs at *
      have hcl : cs.length = ds.length := by rw [← hcs, List.length_map]
      wtm_at "wp"
      have fin : cs.all (·.isSome) = true ∨ cs.all (·.isSome) = false := by cases cs.all (·.isSome) <;> simp
      refine w_dec (fun h1 => ?_) (fun h1 => ?_)
      · wtm_at "wp"
        by_cases h2 : (xs.length : Int) ≤ 4
        · refine iteF' (by rw [decide_eq_true h2]; rfl) ?_
          wtm_at "wp"
          refine w_inV (.inl (.of hD)) rfl (cnt_flat cs) ?_
          rw [cnt_none cs]
          wtm_at "wp"
          rcases fin with hs | hs
          · rw [hs]
            wtm_at "wp"
            obtain ⟨ms, rfl⟩ := cnt_all hs
            refine ⟨D, ms.map fun m : Nat => (m : Int), rfl, .of (by rw [hD]; simp [cntV]), ?_⟩
            have es : (ms.map fun m : Nat => (m : Int)).sum = ((ms.sum : Nat) : Int) := sum_cast ms
            rw [es]
            refine k' (o := some ms.sum) ?_ _ s3
            unfold joinC
            rw [if_pos ⟨by omega, by omega, hs⟩]
            simp
          · rw [hs]
            wtm_at "wp"
            exact k' (o := none) (by unfold joinC; rw [if_neg (fun z => by rw [hs] at z; exact absurd z.2.2 Bool.false_ne_true)]) _ s3
        · refine iteT' (by rw [decide_eq_false h2]; rfl) ?_
          wtm_at "wp"
          exact k' (o := none) (by unfold joinC; rw [if_neg (fun z => by omega)]) _ s3
      · wtm_at "wp"
        exact k' (o := none) (by unfold joinC; rw [if_neg (fun z => by omega)]) _ s3
theorem ok_cbut {N : Nat} {f : Addr} {fd : FuncData} (F : Fun K "count_but" "count_but" s_count_but f fd) (T : Txt K mg Z C_QueryReader) (f_count_joined : Fn P w K mg base "count_joined" (4 * N + 4) ["parts", "deep"] (spPart K N fun n ds => joinC (ds.map (cnt n)))) : FnOk P w K mg base CX0 (4 * N + 5) f fd ["parts", "deep"] (spPart K N fun n ds => butC (ds.map (cnt n))) := by
  refine F.ok sc_count_but (fun vs H Q E h => ?_) (fun cdv A outer s H vs Q E hr h => ?_)
  · obtain ⟨a, n, L, xs, ds, rfl, _⟩ := h
    rfl
  · obtain ⟨a, n, L, xs, ds, rfl, hn, ha, hR, hF, hL, hl, k⟩ := h
    have hlen := hR.length
    have k' : ∀ {o : Option Nat}, butC (ds.map (cnt n)) = o → ∀ H', Same H H' → Q (cntV o) H' := fun e H' s => e ▸ k H' s
    refine ⟨_, (pss_one (ps_ret (pe_ifExp (pt_cmpR op_eq (pe_callB cl_len (by rfl) T.n_len PySem.boot_len (pa_cons (pv 0) pa_nil)) pe_int (nomark _)) (pe_fn f_count_joined (hr.mono (by omega)) rfl (pa_cons (pv 0) (pa_cons (pv 1) pa_nil))) pe_non))), ?_⟩
    wtm_at "w0"
    wtm_at "wp"
    refine w_dec (fun h1 => ?_) (fun h1 => ?_)
    · wtm_at "wp"
      refine ⟨a, n, L, xs, ds, rfl, hn, ha, hR, hF, hL, hl, fun H1 s1 => ?_⟩
      refine k' ?_ _ s1
      unfold butC
      rw [List.length_map, if_pos (by have := V.int.inj h1; omega)]
    · wtm_at "wp"
      exact k' (o := none) (by unfold butC; rw [List.length_map, if_neg (fun z => h1 (by rw [hlen, z]; rfl))]) _ (.refl _)

theorem ok_cnt0 {f : Addr} {fd : FuncData} {D : Addr} {es : Array DictEntry} {n0 : Nat} (F : Fun K "count_words" "count_words" s_count_words f fd) (T : Txt K mg Z C_QueryReader) (kc_KINDS_queries : mg "KINDS_queries" = some (.ref D)) (kd_KINDS_queries : KDict K w D es n0) : FnOk P w K mg base CX0 3 f fd ["thing", "deep"] (spCnt K 0) := by
  refine F.ok sc_count_words (fun vs H Q E h => ?_) (fun cdv A outer s H vs Q E hr h => ?_)
  · obtain ⟨v, n, L, d, rfl, _⟩ := h
    rfl
  · obtain ⟨v, n, L, d, rfl, hn, hR, hF, hL, k⟩ := h
    have hn0 : n = 0 := by omega
    subst hn0
    have hA : ∀ (f : Addr) (sp : Sp), (fun _ => none : Addr → Option Sp) f = some sp → L2.Held P w K mg base 0 f sp := fun f sp z => by cases z
    refine ⟨_, (pss_cons (ps_if (PW.pt (pw_or (pt_cmpR op_eq (pv 1) pe_int (nomark _)) (pw_or (pt_not (pt_val (pe_callB call_isi (by rfl) T.n_isinstance PyProof.Rows.boot_isinstance (pa_cons (pv 0) (pa_cons (pe_bltn (v := .ty "tuple") (by rfl) T.n_tuple PyProof.Rows.boot_tuple rfl) pa_nil))))) (pw_or (pt_cmpR (op_eqD hr.units) (pv 0) (pe_tup pa_nil) (nomark _)) (pw_or1 (pt_not (pt_val (pe_callB call_isi (by rfl) T.n_isinstance PyProof.Rows.boot_isinstance (pa_cons (pe_ix ix_tup (pv 0) pe_int (fun _ _ => rfl)) (pa_cons (pe_bltn (v := .ty "str") (by rfl) T.n_str PyProof.Rows.boot_str rfl) pa_nil))))))))))
 (pss_one (ps_ret pe_non))
 pss_nil)
 (pss_cons (ps_asg (pv 0) (pg_star (k := 1) (after := 0) rfl (pgs_cons (pg_name (i := 2) sc_count_words.nd rfl (.inl rfl)) (pgs_star (pg_name (i := 3) sc_count_words.nd rfl (.inl rfl)) pgs_nil))))
 (pss_cons (ps_if (pt_cmpR (op_notIn_kd kd_KINDS_queries) (pv 2) (pe_gcls kc_KINDS_queries rfl) (by rfl))
 (pss_one (ps_ret pe_non))
 pss_nil)
 (pss_cons (ps_set (i := 4) sc_count_words.nd rfl (.inl rfl) (pe_ix ix_kdict (pe_gcls kc_KINDS_queries rfl) (pv 2) (fun _ _ => rfl)))
 (pss_one (ps_ret (pe_callA (i := 4) hA (hr.mono (by omega)) rfl (.inl rfl) (pa_cons (pv 3) (pa_cons (pv 1) pa_nil))))))))), ?_⟩
    wtm_at "w0"
    wtm_at "wp"
    exact k _ (.refl _)
theorem ok_cntS {N : Nat} {f : Addr} {fd : FuncData} {D : Addr} {es : Array DictEntry} {n0 : Nat} (F : Fun K "count_words" "count_words" s_count_words f fd) (T : Txt K mg Z C_QueryReader) (kc_KINDS_queries : mg "KINDS_queries" = some (.ref D)) (kd_KINDS_queries : KDict K w D es n0)
    (KK : ∀ k : Str, (∃ fk g, PySem.W.nsIn K D k = some (some (.ref fk)) ∧ L2.Held P w K mg base (4 * N + 5) fk (spPart K N g) ∧ ∀ n ps, cnt (n + 1) (.tuple (.str k :: ps)) = g n ps) ∨ (PySem.W.nsIn K D k = some none ∧ ∀ n ps, cnt (n + 1) (.tuple (.str k :: ps)) = none)) : FnOk P w K mg base CX0 (4 * N + 7) f fd ["thing", "deep"] (spCnt K (N + 1)) := by
  refine F.ok sc_count_words (fun vs H Q E h => ?_) (fun cdv A outer s H vs Q E hr h => ?_)
  · obtain ⟨v, n, L, d, rfl, _⟩ := h
    rfl
  · obtain ⟨v, n, L, d, rfl, hn, hR, hF, hL, k⟩ := h
    have hS : ∃ S : Addr → Option Sp, (∀ f sp, S f = some sp → L2.Held P w K mg base (4 * N + 5) f sp) ∧ ∀ kk ps, d = .tuple (.str kk :: ps) → (∃ fk g, PySem.W.nsIn K D kk = some (some (.ref fk)) ∧ S fk = some (spPart K N g) ∧ ∀ n, cnt (n + 1) d = g n ps) ∨ (PySem.W.nsIn K D kk = some none ∧ ∀ n, cnt (n + 1) d = none) := by
      by_cases hd : ∃ kk ps, d = .tuple (.str kk :: ps)
      · obtain ⟨kk, ps, rfl⟩ := hd
        rcases KK kk with ⟨fk, g, h1, h2, h3⟩ | ⟨h1, h2⟩
        · refine ⟨fun f => if f = fk then some (spPart K N g) else none, fun f sp z => ?_, fun k2 p2 e => .inl ⟨fk, g, ?_, if_pos rfl, ?_⟩⟩
          · dsimp only at z
            split at z
            · rename_i hf
              cases z
              rw [hf]
              exact h2
            · cases z
          · cases e
            exact h1
          · cases e
            exact fun n => h3 n ps
        · refine ⟨fun _ => none, fun f sp z => (by cases z), fun k2 p2 e => .inr ⟨?_, ?_⟩⟩
          · cases e
            exact h1
          · cases e
            exact fun n => h2 n ps
      · exact ⟨fun _ => none, fun f sp z => (by cases z), fun kk ps e => absurd ⟨kk, ps, e⟩ hd⟩
    obtain ⟨S, hA, hS⟩ := hS
    have k' : ∀ {o : Option Nat}, cnt n d = o → ∀ H', Same H H' → Q (cntV o) H' := fun e H' s => e ▸ k H' s
    refine ⟨_, (pss_cons (ps_if (PW.pt (pw_or (pt_cmpR op_eq (pv 1) pe_int (nomark _)) (pw_or (pt_not (pt_val (pe_callB call_isi (by rfl) T.n_isinstance PyProof.Rows.boot_isinstance (pa_cons (pv 0) (pa_cons (pe_bltn (v := .ty "tuple") (by rfl) T.n_tuple PyProof.Rows.boot_tuple rfl) pa_nil))))) (pw_or (pt_cmpR (op_eqD hr.units) (pv 0) (pe_tup pa_nil) (nomark _)) (pw_or1 (pt_not (pt_val (pe_callB call_isi (by rfl) T.n_isinstance PyProof.Rows.boot_isinstance (pa_cons (pe_ix ix_tup (pv 0) pe_int (fun _ _ => rfl)) (pa_cons (pe_bltn (v := .ty "str") (by rfl) T.n_str PyProof.Rows.boot_str rfl) pa_nil))))))))))
 (pss_one (ps_ret pe_non))
 pss_nil)
 (pss_cons (ps_asg (pv 0) (pg_star (k := 1) (after := 0) rfl (pgs_cons (pg_name (i := 2) sc_count_words.nd rfl (.inl rfl)) (pgs_star (pg_name (i := 3) sc_count_words.nd rfl (.inl rfl)) pgs_nil))))
 (pss_cons (ps_if (pt_cmpR (op_notIn_kd kd_KINDS_queries) (pv 2) (pe_gcls kc_KINDS_queries rfl) (by rfl))
 (pss_one (ps_ret pe_non))
 pss_nil)
 (pss_cons (ps_set (i := 4) sc_count_words.nd rfl (.inl rfl) (pe_ix ix_kdict (pe_gcls kc_KINDS_queries rfl) (pv 2) (fun _ _ => rfl)))
 (pss_one (ps_ret (pe_callA (i := 4) hA (hr.mono (by omega)) rfl (.inl rfl) (pa_cons (pv 3) (pa_cons (pv 1) pa_nil))))))))), ?_⟩
    wtm_at "w0"
    wtm_at "wp"
    refine w_dec (fun h1 => ?_) (fun h1 => ?_)
    · have hn0 : n = 0 := by have := V.int.inj h1; omega
      subst hn0
      wtm_at "wp"
      exact k' (o := none) rfl _ (.refl _)
    · obtain ⟨m, rfl⟩ : ∃ m, n = m + 1 := ⟨n - 1, by
        have : n ≠ 0 := fun z => h1 (by rw [z]; rfl)
        omega⟩
      cases hR with
      | non => wtm_at "wp"; exact k' (o := none) rfl _ (.refl _)
      | bl b => wtm_at "wp"; exact k' (o := none) rfl _ (.refl _)
      | int i => wtm_at "wp"; exact k' (o := none) rfl _ (.refl _)
      | str x => wtm_at "wp"; exact k' (o := none) rfl _ (.refl _)
      | lst h r => wtm_at "wp"; exact k' (o := none) rfl _ (.refl _)
      | @tup a xs ds ha hr' =>
        have hlen := hr'.length
        have hdp : Dp K H (.ref a) (.tuple ds) := (Rp.tup ha hr').dp
        have hg := hF.good
        wtm_at "wp"
        rename_i q1 n1 H1 s1 h1'
        refine w_eqD (same_dp s1 hdp) (.tup (.of h1') .nil) (hg.shaped (by omega)) (by simp [SeqAt.shaped, PyData.canLay0, PyData.canLayAll0, PyData.depth, PyData.depthAll]) (k := ds.isEmpty) (by cases ds <;> simp [PyData.eqv, PyData.eqvAll]) ?_
        have ha1 := s1 _ _ ha
        wtm_at "wp"
        match xs, ds, ha, hr', hlen with
        | [], [], _, _, _ =>
          wtm_at "wp"
          exact k' (o := none) rfl _ s1
        | x :: xr, dd :: dr, ha, .cons rx rr, hlen =>
          have ha1 := s1 _ _ ha
          have hxl : (x :: xr).length ≤ 1000 := by
            have : 0 < L := by
              cases L with
              | zero => rcases hF with (h | ⟨b, h⟩ | ⟨i, h⟩) | ⟨y, h, _⟩ <;> cases h
              | succ L => omega
            obtain ⟨L', rfl⟩ : ∃ L', L = L' + 1 := ⟨L - 1, by omega⟩
            rw [hlen]
            exact hF.tup.1
          have hfit : ∀ e ∈ dd :: dr, Fit (L - 1) e := by
            cases L with
            | zero => rcases hF with (h | ⟨b, h⟩ | ⟨i, h⟩) | ⟨y, h, _⟩ <;> cases h
            | succ L' => exact hF.tup.2
          refine iteF' rfl ?_
          wtm_at "wp"
          have e0 : cnt (m + 1) (.tuple (dd :: dr)) = none ∨ ∃ kk, dd = .str kk := by
            cases dd with
            | str kk => exact .inr ⟨kk, rfl⟩
            | _ => exact .inl rfl
          cases rx with
          | non => wtm_at "wp"; exact k' (o := none) rfl _ s1
          | bl b => wtm_at "wp"; exact k' (o := none) rfl _ s1
          | int i => wtm_at "wp"; exact k' (o := none) rfl _ s1
          | lst h r => have h := s1 _ _ h; wtm_at "wp"; exact k' (o := none) rfl _ s1
          | tup h r => have h := s1 _ _ h; wtm_at "wp"; exact k' (o := none) rfl _ s1
          | str kk =>
            wtm_at "wp"
            refine ⟨a, _, rfl, .inl (.of ha1), by simp, fun p2 n2 => ?_⟩
            generalize eN : upd H1 p2 _ = H2
            have s2 := same_gen n2 eN
            have hp2 := at_gen eN
            clear eN
            simp only [List.length_cons, List.take_succ_cons, List.take_zero, List.drop_succ_cons, List.drop_zero, List.cons_append, List.nil_append, Nat.add_sub_cancel, Nat.sub_zero] at hp2 ⊢
            rw [List.drop_of_length_le (Nat.le_refl _)]
            rw [List.take_of_length_le (Nat.le_refl _)] at hp2
            wtm_at "wp"
            rcases hS kk dr rfl with ⟨fk, g, g1, g2, g3⟩ | ⟨g1, g2⟩
            · refine ⟨kk, _, rfl, rfl, g1, ?_⟩
              wtm_at "wp"
              refine ⟨D, kk, .ref fk, rfl, rfl, ⟨es, n0, _, kd_KINDS_queries.at_, kd_KINDS_queries.lit, g1, rfl⟩, ?_⟩
              wtm_at "wp"
              refine ⟨fk, _, rfl, g2, ?_⟩
              wtm_at "wp"
              refine ⟨p2, m, L - 1, xr, dr, rfl, by omega, hp2, (rr.same s1).same s2, fun e he => hfit e (List.mem_cons_of_mem _ he), by omega, by simp at hxl; omega, fun H3 s3 => ?_⟩
              rw [← g3 m]
              exact k _ (s1.trans (s2.trans s3))
            · refine ⟨kk, _, rfl, rfl, g1, ?_⟩
              wtm_at "wp"
              exact k' (o := none) (g2 m) _ (s1.trans s2)
def spIsQ (K : PySem.W.Frag) : Sp := fun vs H Q _ => ∃ (v : V) (L : Nat) (d : PyData), vs = [v] ∧ Rp H v d ∧ Fit L d ∧ L ≤ 50 ∧ ∀ H', Same H H' → Q (.bl (isQ d)) H'
theorem ok_isq {f : Addr} {fd : FuncData} (F : Fun K "is_query" "is_query" s_is_query f fd) (T : Txt K mg Z C_QueryReader) (f_count_words : Fn P w K mg base "count_words" 23 ["thing", "deep"] (spCnt K 5)) : FnOk P w K mg base CX0 24 f fd ["thing"] (spIsQ K) := by
  refine F.ok sc_is_query (fun vs H Q E h => ?_) (fun cdv A outer s H vs Q E hr h => ?_)
  · obtain ⟨v, L, d, rfl, _⟩ := h
    rfl
  · obtain ⟨v, L, d, rfl, hR, hF, hL, k⟩ := h
    refine ⟨_, (pss_cons (ps_set (i := 1) sc_is_query.nd rfl (.inl rfl) (pe_fn f_count_words (hr.mono (by omega)) rfl (pa_cons (pv 0) (pa_cons (pe_gint T.c_DEEPEST rfl) pa_nil))))
 (pss_one (ps_ret (pe_and (pe_cmpR op_isnot0 (pv 1) pe_non (nomark _)) (pe_one (pe_cmpR op_le (pv 1) (pe_gint T.c_MOST_WORDS rfl) (nomark _))))))), ?_⟩
    wtm_at "w0"
    wtm_at "wp"
    refine ⟨v, 5, L, d, rfl, Nat.le_refl _, hR, hF, hL, fun H1 s1 => ?_⟩
    have k1 := k H1 s1
    unfold isQ at k1
    wtm_at "wp"
    cases hc : cnt 5 d with
    | none =>
      rw [hc] at k1
      refine iteF' rfl ?_
      exact k1
    | some m =>
      rw [hc] at k1
      refine iteT' rfl ?_
      dsimp only [cntV]
      wtm_at "wp"
      have e : decide ((m : Int) ≤ 12) = decide (m ≤ 12) := by
        rw [decide_eq_decide]
        omega
      rw [e]
      exact k1
abbrev s_look_query : Stmt := topS 37
theorem sc_look_query : FnScope ["thing"] ["thing"] (defScope s_look_query) := ⟨rfl, rfl, rfl, by decide +kernel, rfl, by decide +kernel, by decide +kernel⟩
def spLookQX (K : PySem.W.Frag) (Z : Zs) : Sp := fun vs H Q E => ∃ (v : V) (L : Nat) (d : PyData), vs = [v] ∧ Rp H v d ∧ Fit L d ∧ L ≤ 50 ∧ (isQ d = true → ∀ H', Same H H' → Q .non H') ∧ (isQ d = false → ∀ H', Same H H' → E (.ref Z.NoQuery) none H')
theorem ok_lookqX {f : Addr} {fd : FuncData} (F : Fun K "look_query" "look_query" s_look_query f fd) (T : Txt K mg Z C_QueryReader) (f_is_query : Fn P w K mg base "is_query" 24 ["thing"] (spIsQ K)) : FnOk P w K mg base (L2.CX P w) 25 f fd ["thing"] (spLookQX K Z) := by
  refine F.okX sc_look_query (fun vs H Q E h => ?_) (fun cdv A outer s H vs Q E hr h => ?_)
  · obtain ⟨v, L, d, rfl, _⟩ := h
    rfl
  · obtain ⟨v, L, d, rfl, hR, hF, hL, k, ke⟩ := h
    refine ⟨_, (pss_one (ps_if (pt_not (pt_val (pe_fn f_is_query (hr.mono (by omega)) rfl (pa_cons (pv 0) pa_nil))))
 (pss_one (ps_raise rfl takesX (pmk_ownV T.x_NoQuery T.m_NoQuery rfl)))
 pss_nil)), ?_⟩
    wtm_at "w0"
    wtm_at "wp"
    refine ⟨v, L, d, rfl, hR, hF, hL, fun H1 s1 => ?_⟩
    cases hq : isQ d with
    | true =>
      wtm_at "wp"
      exact k hq _ s1
    | false =>
      wtm_at "wp"
      exact ke hq _ s1

end
end K24

namespace K24
section
variable {P : Program} {w : World} {K : PySem.W.Frag} {mg : Str → Option Value} {base : Heap} {Z : Zs} {C_QueryReader : Addr}
abbrev s_law_pool : Stmt := topS 46
theorem sc_law_pool : FnScope ["_law_script", "_law_at", "_law_cell", "_law_far"] ["_law_script", "_law_at"] (defScope s_law_pool) := ⟨rfl, rfl, rfl, by decide +kernel, rfl, by decide +kernel, by decide +kernel⟩
abbrev s_law_take : Stmt := topS 47
theorem sc_law_take : FnScope ["_law_pool_here", "_law_many_here", "_law_digit", "_law_turn", "_law_one", "_law_other"] ["_law_pool_here", "_law_many_here"] (defScope s_law_take) := ⟨rfl, rfl, rfl, by decide +kernel, rfl, by decide +kernel, by decide +kernel⟩
/-! ### draws -/
/-- a pool at p: three numbers -/
def Pool (H : Hp) (p : Addr) (n : Nat) : Prop := ∃ a b c : Int, H p = some (.lst [.int a, .int b, .int c]) ∧ 0 ≤ a ∧ 0 ≤ b ∧ b < 10 ^ 30 ∧ 0 ≤ c ∧ c ≤ n
theorem Pool.mono {H H' : Hp} {p : Addr} {n n' : Nat} (h : Pool H p n) (e : Same H H') (hn : n ≤ n') : Pool H' p n' := by
  obtain ⟨a, b, c, h, h1, h2, h3, h4, h5⟩ := h
  exact ⟨a, b, c, e _ _ h, h1, h2, h3, h4, by omega⟩
theorem Pool.ext {H H' : Hp} {p : Addr} {n n' : Nat} (h : Pool H p n) (e : LamX.ExtN H H') (hn : n ≤ n') : Pool H' p n' := by
  obtain ⟨a, b, c, h, h1, h2, h3, h4, h5⟩ := h
  exact ⟨a, b, c, e _ _ h (fun _ z => by cases z), h1, h2, h3, h4, by omega⟩
theorem Pool.at {H : Hp} {p : Addr} {n : Nat} (h : Pool H p n) : ∃ xs, H p = some (.lst xs) := by
  obtain ⟨a, b, c, h, _⟩ := h
  exact ⟨_, h⟩
def spTake : Sp := fun vs H Q _ => ∃ (p : Addr) (m : Int) (n : Nat), vs = [.ref p, .int m] ∧ Pool H p n ∧ n ≤ 10 ^ 9 ∧ 0 < m ∧ m ≤ 10 ^ 30 ∧
  ∀ (d : Int) H', 0 ≤ d → d < m → KB p H H' → Pool H' p (n + 1) → Q (.int d) H'
theorem ok_take {f : Addr} {fd : FuncData} (F : Fun K "_law_take" "_law_take" s_law_take f fd) : FnOk P w K mg base CX0 1 f fd ["_law_pool_here", "_law_many_here"] spTake := by
  refine F.ok sc_law_take (fun vs H Q E h => ?_) (fun cdv A outer s H vs Q E hr h => ?_)
  · obtain ⟨p, m, n, rfl, _⟩ := h
    rfl
  · obtain ⟨p, m, n, rfl, ⟨a, b, c, hp, ha, hb, hb2, hc, hc2⟩, hn, hm, hm2, k⟩ := h
    have hb2' : b < 1000000000000000000000000000000 := hb2
    have hn' : n ≤ 1000000000 := hn
    have hm2' : m ≤ 1000000000000000000000000000000 := hm2
    have hdv : CDivU a m := divU (b := 128) (by omega) (by omega) (by decide) (by decide)
    have hcc : (c + 1) * (c + 1) ≤ 1000000001 * 1000000001 := Int.mul_le_mul (by omega) (by omega) (by omega) (by omega)
    have hcc0 : 0 ≤ (c + 1) * (c + 1) := Int.mul_nonneg (by omega) (by omega)
    refine ⟨_, (pss_cons (ps_if (pt_cmpR op_gt (pe_ix ix_list (pv 0) pe_int (fun _ _ => rfl)) pe_int (nomark _))
 (pss_cons (ps_set (i := 2) sc_law_take.nd rfl (.inl rfl) (pe_op op_mod (pe_ix ix_list (pv 0) pe_int (fun _ _ => rfl)) (pv 1)))
 (pss_cons (ps_asg (pe_op op_fdivU (pe_ix ix_list (pv 0) pe_int (fun _ _ => rfl)) (pv 1)) (pg_sub (pv 0) pe_int set_list))
 (pss_one (ps_ret (pv 2)))))
 pss_nil)
 (pss_cons (ps_asg (pe_op op_add (pe_ix ix_list (pv 0) pe_int (fun _ _ => rfl)) pe_int) (pg_sub (pv 0) pe_int set_list))
 (pss_cons (ps_set (i := 3) sc_law_take.nd rfl (.inl rfl) (pe_ix ix_list (pv 0) pe_int (fun _ _ => rfl)))
 (pss_cons (ps_set (i := 4) sc_law_take.nd rfl (.inl rfl) (pe_op op_mod (pe_op op_powU (pe_op op_add (pe_op op_add (pe_ix ix_list (pv 0) pe_int (fun _ _ => rfl)) (pe_op op_mulU (pe_op op_mulU pe_int (pv 3)) (pv 3))) pe_int) pe_int) pe_int))
 (pss_cons (ps_set (i := 5) sc_law_take.nd rfl (.inl rfl) (pe_op op_mod (pe_op op_add (pe_op op_powU (pv 4) pe_int) (pe_op op_mulU pe_int (pv 3))) pe_int))
 (pss_one (ps_ret (pe_op op_mod (pe_op op_fdivU (pe_op op_add (pe_op op_mulU (pv 4) pe_int) (pe_op op_mulU (pv 5) (pv 5))) pe_int) (pv 1))))))))), ?_⟩
    wtm_at "w0"
    wtm_at "wp"
    refine w_dec (fun h0 => ?_) (fun h0 => ?_)
    · wtm_at "wp"
      rename_i H1 k1 e1
      refine k _ _ (Int.emod_nonneg _ (by omega)) (Int.emod_lt_of_pos _ hm) k1 ⟨_, _, _, e1, ?_, hb, hb2, hc, by omega⟩
      rw [Int.fdiv_eq_ediv_of_nonneg _ (Int.le_of_lt hm)]
      exact Int.ediv_nonneg ha (Int.le_of_lt hm)
    · wtm_at "wp"
      · refine powU (a := 200) ?_ (by decide) (by decide) (by decide)
        rw [Int.mul_assoc]
        omega
      rename_i H1 k1 e1
      generalize (b + 69621 * (c + 1) * (c + 1) + 3) ^ Int.toNat 3 = x3
      have o1 := Int.emod_nonneg x3 (show (2147483629 : Int) ≠ 0 by decide)
      have o2 := Int.emod_lt_of_pos x3 (show (0 : Int) < 2147483629 by decide)
      iterate 4 wtm_at "w1"
      generalize x3 % 2147483629 = one at o1 o2 ⊢
      wtm_at "wp"
      generalize one ^ Int.toNat 3 + 30011 * (c + 1) = y3
      have q1 := Int.emod_nonneg y3 (show (998244353 : Int) ≠ 0 by decide)
      have q2 := Int.emod_lt_of_pos y3 (show (0 : Int) < 998244353 by decide)
      generalize y3 % 998244353 = other at q1 q2 ⊢
      wtm_at "wp"
      exact k _ _ (Int.emod_nonneg _ (by omega)) (Int.emod_lt_of_pos _ hm) k1 ⟨_, _, _, e1, ha, hb, hb2, by omega, by omega⟩
def spPool (K : PySem.W.Frag) : Sp := fun vs H Q _ => ∃ (a : Addr) (ns : List Int) (j : Nat), vs = [.ref a, .int j] ∧ SqL K H a (ns.map V.int) ∧ j ≤ 63 ∧
  ∀ p H', H p = none → Same H H' → Pool H' p 0 → Q (.ref p) H'
theorem pool_num {c : Int} {j : Nat} (hj : j ≤ 63) : 0 ≤ c % 2147483647 * 48271 + 7919 * j + 31 ∧ c % 2147483647 * 48271 + 7919 * j + 31 < 10 ^ 30 := by
  have h1 := Int.emod_nonneg c (show (2147483647 : Int) ≠ 0 by decide)
  have h2 := Int.emod_lt_of_pos c (show (0 : Int) < 2147483647 by decide)
  constructor <;> omega
theorem ok_pool {f : Addr} {fd : FuncData} (F : Fun K "_law_pool" "_law_pool" s_law_pool f fd) (T : Txt K mg Z C_QueryReader) : FnOk P w K mg base CX0 1 f fd ["_law_script", "_law_at"] (spPool K) := by
  refine F.ok sc_law_pool (fun vs H Q E h => ?_) (fun cdv A outer s H vs Q E hr h => ?_)
  · obtain ⟨a, ns, j, rfl, _⟩ := h
    rfl
  · obtain ⟨a, ns, j, rfl, hS, hj, k⟩ := h
    refine ⟨_, (pss_cons (ps_set (i := 2) sc_law_pool.nd rfl (.inl rfl) pe_int)
 (pss_cons (ps_if (pt_cmpR op_lt (pv 1) (pe_callB cl_len (by rfl) T.n_len PySem.boot_len (pa_cons (pv 0) pa_nil)) (nomark _))
 (pss_one (ps_set (i := 2) sc_law_pool.nd rfl (.inl rfl) (pe_ix ix_list (pv 0) (pv 1) (fun _ _ => rfl))))
 pss_nil)
 (pss_cons (ps_set (i := 3) sc_law_pool.nd rfl (.inl rfl) (pe_callB cl_abs (by rfl) T.n_abs PyProof.Rows.boot_abs (pa_cons (pv 2) pa_nil)))
 (pss_one (ps_ret (pe_lst (pa_cons (pe_op op_mulU (pv 3) (pe_callTy cl_int (by rfl) T.n_int PyProof.Rows.boot_int (pa_cons (pe_cmpR op_ge (pv 3) (pe_op op_powU pe_int pe_int) (nomark _)) pa_nil))) (pa_cons (pe_op op_add (pe_op op_add (pe_op op_mulU (pe_op op_mod (pv 2) pe_int) pe_int) (pe_op op_mulU pe_int (pv 1))) pe_int) (pa_cons pe_int pa_nil))))))))), ?_⟩
    wtm_at "w0"
    wtm_at "wp"
    refine w_dec (fun h0 => ?_) (fun h0 => ?_)
    · have hl : j < ns.length := by
        rw [List.length_map] at h0
        omega
      have hx : atI (ns.map V.int) (j : Int) = some (.int ns[j]) := atI_nat (by rw [List.getElem?_map, List.getElem?_eq_getElem hl]; rfl)
      wtm_at "wp"
      rename_i p np H1 s1 hp
      exact k _ _ np s1 ⟨_, _, _, hp, Int.mul_nonneg (by omega) (by split <;> omega), (pool_num hj).1, (pool_num hj).2, by omega, by omega⟩
    · wtm_at "wp"
      rename_i p np H1 s1 hp
      exact k _ _ np s1 ⟨_, _, _, hp, Int.mul_nonneg (by omega) (by split <;> omega), (pool_num hj).1, (pool_num hj).2, by omega, by omega⟩

abbrev s_law_kinds : Stmt := topS 50
theorem sc_law_kinds : FnScope ["_law_pool_here", "_law_some", "_law_start"] ["_law_pool_here"] (defScope s_law_kinds) := ⟨rfl, rfl, rfl, by decide +kernel, rfl, by decide +kernel, by decide +kernel⟩
/-! ### kinds of words, and words of these kinds -/
theorem Pool.kb {p D : Addr} {H4 H5 : Hp} {n : Nat} (h : Pool H4 p n) (b : KB D H4 H5) (ne : p ≠ D) : Pool H5 p n := by
  obtain ⟨x, y, z, h, r⟩ := h
  exact ⟨x, y, z, b _ _ h ne, r⟩
theorem Pool.le {p : Addr} {H : Hp} {n m : Nat} (h : Pool H p n) (l : n ≤ m) : Pool H p m := h.mono (.refl _) l
def nine : List Str := ["a", "b", "ab", "ba", "aa", "bab", "abcdefghijkl", "z", "aab"]
def cutK (s d : Nat) : List Str := ((nine ++ nine).drop s).take (1 + d)
theorem cutK_ok : ∀ s < 9, ∀ d < 5, (cutK s d).length = 1 + d ∧ (cutK s d).all isW = true ∧ (cutK s d).Nodup := by decide +kernel
theorem cutV_kinds {s d : Int} (hs : 0 ≤ s) (hs9 : s < 9) (hd : 0 ≤ d) (hd5 : d < 5) : cutV ((nine ++ nine).map V.str) (some s) (some (s + 1 + d)) = (cutK s.toNat d.toNat).map V.str := by
  obtain ⟨m, rfl⟩ := Int.eq_ofNat_of_zero_le hs
  obtain ⟨n, rfl⟩ := Int.eq_ofNat_of_zero_le hd
  have hl : ((nine ++ nine).map V.str).length = 18 := rfl
  have h1 : HT.sIx 18 0 (some (m : Int)) = m := by
    unfold HT.sIx
    simp only
    split <;> omega
  have h2 : HT.sIx 18 18 (some ((m : Int) + 1 + n)) = m + 1 + n := by
    unfold HT.sIx
    simp only
    split <;> omega
  unfold cutV cutK
  rw [hl, h1, h2, Int.toNat_natCast, Int.toNat_natCast, ← List.map_drop, ← List.map_take]
  congr 2
  omega
/-- one to five unlike words -/
def spKinds : Sp := fun vs H Q _ => ∃ (p : Addr) (n : Nat), vs = [.ref p] ∧ Pool H p n ∧ n ≤ 10 ^ 8 ∧
  ∀ (q : Addr) (ws : List Str) H', H q = none → KB p H H' → Pool H' p (n + 2) → H' q = some (.lst (ws.map V.str)) → 1 ≤ ws.length → ws.length ≤ 5 → (∀ x ∈ ws, isW x = true) → ws.Nodup → Q (.ref q) H'
theorem ok_kinds {f : Addr} {fd : FuncData} (F : Fun K "_law_kinds" "_law_kinds" s_law_kinds f fd) (T : Txt K mg Z C_QueryReader) (f__law_take : Fn P w K mg base "_law_take" 1 ["_law_pool_here", "_law_many_here"] spTake) : FnOk P w K mg base CX0 2 f fd ["_law_pool_here"] spKinds := by
  refine F.ok sc_law_kinds (fun vs H Q E h => ?_) (fun cdv A outer s H vs Q E hr h => ?_)
  · obtain ⟨p, n, rfl, _⟩ := h
    rfl
  · obtain ⟨p, n, rfl, hp, hn, k⟩ := h
    have hn' : n ≤ 100000000 := hn
    obtain ⟨xs, hpx⟩ := hp.at
    refine ⟨_, (pss_cons (ps_set (i := 1) sc_law_kinds.nd rfl (.inl rfl) (pe_lst (pa_cons pe_str (pa_cons pe_str (pa_cons pe_str (pa_cons pe_str (pa_cons pe_str (pa_cons pe_str (pa_cons pe_str (pa_cons pe_str (pa_cons pe_str pa_nil)))))))))))
 (pss_cons (ps_set (i := 2) sc_law_kinds.nd rfl (.inl rfl) (pe_fn f__law_take (hr.mono (by omega)) rfl (pa_cons (pv 0) (pa_cons pe_int pa_nil))))
 (pss_one (ps_ret (pe_slice sl_list (pe_op op_cat (pv 1) (pv 1)) (po_some (pv 2)) (po_some (pe_op op_add (pe_op op_add (pv 2) pe_int) (pe_fn f__law_take (hr.mono (by omega)) rfl (pa_cons (pv 0) (pa_cons pe_int pa_nil)))))))))), ?_⟩
    wtm_at "w0"
    wtm_at "wp"
    rename_i q nq H1 s1 hq
    refine ⟨p, 9, n, rfl, hp.mono s1 (Nat.le_refl _), by omega, by decide, by decide, fun d H2 d0 d9 k2 hp2 => ?_⟩
    have npq : p ≠ q := ne_of_none hpx nq
    have hq2 := k2 _ _ hq npq.symm
    wtm_at "wp"
    rename_i r H3 nr s3 hr3
    refine ⟨p, 5, _, rfl, hp2.mono s3 (Nat.le_refl _), by omega, by decide, by decide, fun e H4 e0 e5 k4 hp4 => ?_⟩
    have hp2x := hp2.at.choose_spec
    have npr : p ≠ r := ne_of_none hp2x nr
    have hr4 := k4 _ _ hr3 npr.symm
    wtm_at "wp"
    rename_i u H5 nu s5 hu5
    have kk : KB p H H4 := ((KB.of s1).trans k2).trans ((KB.of s3).trans k4)
    have e1 := cutV_kinds d0 d9 e0 e5
    obtain ⟨c1, c2, c3⟩ := cutK_ok d.toNat (by omega) e.toNat (by omega)
    have hu5' : H5 u = some (.lst ((cutK d.toNat e.toNat).map V.str)) := hu5.trans (congrArg (fun z => some (HO.lst z)) e1)
    exact k u _ H5 (kb_newD kk hp4.at.choose_spec nu) (kk.trans (KB.of s5)) (hp4.mono s5 (by omega)) hu5' (by omega) (by omega) (fun x hx => List.all_eq_true.mp c2 x hx) c3

abbrev s_law_many : Stmt := topS 53
theorem sc_law_many : FnScope ["_law_query_here", "_law_part"] ["_law_query_here"] (defScope s_law_many) := ⟨rfl, rfl, rfl, by decide +kernel, rfl, by decide +kernel, by decide +kernel⟩
abbrev s_law_query : Stmt := topS 52
theorem sc_law_query : FnScope ["_law_pool_here", "_law_kinds_here", "_law_deep", "_law_most", "_law_sort", "_law_words", "_law_many_here", "_law_kind_here", "_law_parts", "_law_k", "_law_room", "_law_part"] ["_law_pool_here", "_law_kinds_here", "_law_deep", "_law_most"] (defScope s_law_query) := ⟨rfl, rfl, rfl, by decide +kernel, rfl, by decide +kernel, by decide +kernel⟩
/-! ### queries, drawn -/
theorem head_str {H : Hp} {a : Addr} {d : PyData} {n m : Nat} (hR : Rp H (.ref a) d) (hc : cnt n d = some m) : ∃ (kk : Str) (ps : List PyData) (xr : List V), d = .tuple (.str kk :: ps) ∧ H a = some (.tup (.str kk :: xr)) ∧ RpAll H xr ps ∧ ps.length ≤ 5 ∧ 1 ≤ ps.length := by
  obtain ⟨n, rfl⟩ : ∃ j, n = j + 1 := ⟨n - 1, by
    have : n ≠ 0 := fun z => by rw [z] at hc; cases hc
    omega⟩
  have hd : ∃ kk ps, d = .tuple (.str kk :: ps) ∧ ps.length ≤ 5 ∧ 1 ≤ ps.length := by
    cases cnt_inv hc with
    | word => exact ⟨_, _, rfl, by simp, by simp⟩
    | phrase h1 h2 => exact ⟨_, _, rfl, by simp; omega, by simp; omega⟩
    | near => exact ⟨_, _, rfl, by simp, by simp⟩
    | join h1 h2 h3 => exact ⟨_, _, rfl, by have := join_some h3; omega, by have := join_some h3; omega⟩
  obtain ⟨kk, ps, rfl, h1, h2⟩ := hd
  cases hR with
  | tup ha hr =>
    cases hr with
    | @cons x _ xr _ rx rr =>
      cases rx
      exact ⟨kk, ps, xr, rfl, ha, rr, h1, h2⟩
theorem rp_ref {H : Hp} {v : V} {d : PyData} {n m : Nat} (hR : Rp H v d) (hc : cnt n d = some m) : ∃ a, v = .ref a := by
  obtain ⟨n, rfl⟩ : ∃ j, n = j + 1 := ⟨n - 1, by
    have : n ≠ 0 := fun z => by rw [z] at hc; cases hc
    omega⟩
  cases cnt_inv hc <;> cases hR <;> exact ⟨_, rfl⟩
theorem Pool.ne_strs {H : Hp} {p q : Addr} {n : Nat} {ws : List Str} (h : Pool H p n) (hq : H q = some (.lst (ws.map V.str))) : q ≠ p := fun z => by
  obtain ⟨a, b, c, h, _⟩ := h
  rw [z, h] at hq
  have e := HO.lst.inj (Option.some.inj hq)
  cases ws with
  | nil => cases e
  | cons y r => cases e
theorem Pool.tupk {H H' : Hp} {p : Addr} {n : Nat} (h : Pool H p n) (k : KB p H H') : TupK H H' := TupK.kb k h.at.choose_spec

def spMany (K : PySem.W.Frag) (N : Nat) : Sp := fun vs H Q _ => ∃ (v : V) (n m : Nat) (d : PyData), vs = [v] ∧ n ≤ N ∧ Rp H v d ∧ cnt n d = some m ∧ ∀ H', Same H H' → Q (.int m) H'
theorem ok_manyS {N k0 : Nat} {f : Addr} {fd : FuncData} (F : Fun K "_law_many" "_law_many" s_law_many f fd) (T : Txt K mg Z C_QueryReader) (f__law_many : Fn P w K mg base "_law_many" k0 ["_law_query_here"] (spMany K N)) : FnOk P w K mg base CX0 (k0 + 1) f fd ["_law_query_here"] (spMany K (N + 1)) := by
  refine F.ok sc_law_many (fun vs H Q E h => ?_) (fun cdv A outer s H vs Q E hr h => ?_)
  · obtain ⟨v, n, m, d, rfl, _⟩ := h
    rfl
  · obtain ⟨v, n, m, d, rfl, hn, hR, hc, k⟩ := h
    obtain ⟨a, rfl⟩ := rp_ref hR hc
    obtain ⟨kk, ps, xr, rfl, ha, rr, hps, hps1⟩ := head_str hR hc
    have hn0 : n ≠ 0 := fun z => by rw [z] at hc; cases hc
    obtain ⟨n, rfl⟩ : ∃ j, n = j + 1 := ⟨n - 1, by omega⟩
    have hlen := rr.length
    refine ⟨_, (pss_cons (ps_if (pt_cmpR op_eq (pe_ix ix_tup (pv 0) pe_int (fun _ _ => rfl)) pe_str (nomark _))
 (pss_one (ps_ret pe_int))
 pss_nil)
 (pss_cons (ps_if (pt_cmpR op_eq (pe_ix ix_tup (pv 0) pe_int (fun _ _ => rfl)) pe_str (nomark _))
 (pss_one (ps_ret (pe_op op_sub (pe_callB cl_len (by rfl) T.n_len PySem.boot_len (pa_cons (pv 0) pa_nil)) pe_int)))
 pss_nil)
 (pss_cons (ps_if (pt_cmpR op_eq (pe_ix ix_tup (pv 0) pe_int (fun _ _ => rfl)) pe_str (nomark _))
 (pss_one (ps_ret pe_int))
 pss_nil)
 (pss_one (ps_ret (pe_callB (cr_sum rfl) (by rfl) T.n_sum PyProof.Rows.boot_sum (pa_cons (pe_lc (own := [("_law_part", 1)]) (g := gName 1) (tt := tYes) rfl sc_law_many.nd (show PI _ _ _ (iTup K _) from (pi_tup (pe_slice (show SlR _ (rSlT K) from sl_tup) (pv 0) (po_some pe_int) po_none))) (blkOk_by (own := [("_law_part", 1)]) (N := ["_law_query_here", "_law_part"]) (sc := defScope s_law_many) (by decide +kernel)) (fun _ _ _ _ _ => pg_name (i := 1) sc_law_many.nd rfl (Or.inl rfl)) (fun _ _ _ _ _ => pts_nil) (fun _ _ _ _ _ => (pe_fn f__law_many (hr.mono (by omega)) rfl (pa_cons (pv 1) pa_nil)))) pa_nil))))))), ?_⟩
    wtm_at "w0"
    wtm_at "wp"
    refine w_dec (fun h1 => ?_) (fun h1 => ?_)
    · have e : kk = "word" := V.str.inj h1
      subst e
      wtm_at "wp"
      cases cnt_inv hc with
      | word => exact k _ (.refl _)
      | join h1 h2 h3 => rcases h1 with h | h | h <;> exact absurd h (by decide +kernel)
    wtm_at "wp"
    refine w_dec (fun h2 => ?_) (fun h2 => ?_)
    · have e : kk = "phrase" := V.str.inj h2
      subst e
      wtm_at "wp"
      refine w_lenT (.of ha) ?_
      wtm_at "wp"
      cases cnt_inv hc with
      | @phrase ws g1 g2 g3 =>
        have : (((V.str "phrase" :: xr).length : Nat) : Int) - 1 = (ws.length : Int) := by
          rw [List.length_cons, hlen, List.length_map]
          omega
        rw [this]
        exact k _ (.refl _)
      | join h1 h2 h3 => rcases h1 with h | h | h <;> exact absurd h (by decide +kernel)
    wtm_at "wp"
    refine w_dec (fun h3 => ?_) (fun h3 => ?_)
    · have e : kk = "near" := V.str.inj h3
      subst e
      wtm_at "wp"
      cases cnt_inv hc with
      | near => exact k _ (.refl _)
      | join h1 h2 h3 => rcases h1 with h | h | h <;> exact absurd h (by decide +kernel)
    wtm_at "wp"
    have hj : joinC (ps.map (cnt n)) = some m := by
      cases cnt_inv hc with
      | word => exact absurd rfl h1
      | phrase => exact absurd rfl h2
      | near => exact absurd rfl h3
      | join _ _ h => exact h
    obtain ⟨j1, j2, j3⟩ := join_some hj
    refine w_slTd (i := 1) (.of ha) (by decide) (by simp) (fun p4 H4 n4 s4 h4 => ?_)
    have h4' : H4 p4 = some (.tup xr) := h4
    have rr4 := rr.same s4
    refine ⟨p4, rfl, ⟨xr, .of h4'⟩, ?_⟩
    refine lc_fin (fin_tup (xs := xr)) (fun i acc H' => Same H4 H' ∧ acc = ((ps.take i).map (cnt n)).map cntV) (fun D H2 nD s2 hD => ⟨s2, rfl⟩) (fun i acc H2 _ h => .of (h.1 _ _ h4')) ?_ ?_
    · rintro D i v acc H5 H6 nD hi hac ⟨s5, e5⟩ hD ⟨rfl, hv⟩
      obtain ⟨d, g1, g2⟩ := rr4.at hv
      obtain ⟨c, hc'⟩ := j3 d (List.mem_of_getElem? g1)
      wtm_at "wp"
      refine ⟨rfl, ?_⟩
      wtm_at "wp"
      refine ⟨v, n, c, d, rfl, by omega, g2.same s5, hc', fun H7 s7 => ?_⟩
      refine w_acc (s7 _ _ hD) hac hi (sz (by omega)) (fun H8 k8 h8 => ⟨k8.same (s5.trans s7) nD, ?_⟩)
      rw [e5, take_succL g1, List.map_append, List.map_append]
      simp [hc', cntV]
    · rintro D acc H5 nD ⟨s5, e5⟩ hac hD
      rw [hlen, List.take_length] at e5
      subst e5
      wtm_at "wp"
      unfold joinC at hj
      split at hj
      · rename_i hcond
        obtain ⟨ms, ems⟩ := cnt_all hcond.2.2
        rw [ems] at hD hj
        refine ⟨D, ms.map fun m : Nat => (m : Int), rfl, .of (by rw [hD]; simp [cntV]), ?_⟩
        rw [sum_cast]
        have : ms.sum = m := by
          have := Option.some.inj hj
          simpa using this
        rw [this]
        exact k _ (s4.trans s5)
      · cases hj
def spQy (K : PySem.W.Frag) (N : Nat) : Sp := fun vs H Q _ => ∃ (p q : Addr) (n deep most : Nat) (ws : List Str), vs = [.ref p, .ref q, .int deep, .int most] ∧ 1 ≤ deep ∧ deep ≤ N ∧ 1 ≤ most ∧ most ≤ 100 ∧ Pool H p n ∧ n + 10 * 5 ^ N ≤ 10 ^ 7 ∧ H q = some (.lst (ws.map V.str)) ∧ 1 ≤ ws.length ∧ ws.length ≤ 100 ∧ (∀ x ∈ ws, isW x = true) ∧
  ∀ (o : Addr) (d : PyData) (m : Nat) H', Rp H' (.ref o) d → cnt deep d = some m → m ≤ most → KB p H H' → Pool H' p (n + 10 * 5 ^ N) → Q (.ref o) H'
theorem at5 {α : Type} {a b c d e : α} {i : Int} (h0 : 0 ≤ i) (h1 : i < 5) : ∃ j : Nat, i = j ∧ j < 5 ∧ ∃ x, [a, b, c, d, e][j]? = some x := by
  obtain ⟨j, rfl⟩ := Int.eq_ofNat_of_zero_le h0
  have hj : j < 5 := by omega
  exact ⟨j, rfl, hj, _, List.getElem?_eq_getElem (by simpa using hj)⟩

end
end K24

namespace K24
section
variable {P : Program} {w : World} {K : PySem.W.Frag} {mg : Str → Option Value} {base : Heap} {Z : Zs} {C_QueryReader : Addr}
theorem cnt_list {n : Nat} {ds : List PyData} (h : ∀ d ∈ ds, ∃ c, cnt n d = some c) : ∃ ms : List Nat, ds.map (cnt n) = ms.map some := by
  induction ds with
  | nil => exact ⟨[], rfl⟩
  | cons d r ih =>
    obtain ⟨c, hc⟩ := h d List.mem_cons_self
    obtain ⟨ms, e⟩ := ih fun x hx => h x (List.mem_cons_of_mem _ hx)
    exact ⟨c :: ms, by simp [hc, e]⟩
theorem noLs_cnt {n : Nat} {ds : List PyData} (h : ∀ d ∈ ds, ∃ c, cnt n d = some c) : noLs ds = true := noLs_all fun d hd => by
  obtain ⟨c, hc⟩ := h d hd
  exact cnt_noL hc
theorem ok_queryS {N k0 : Nat} {f : Addr} {fd : FuncData} (hk0 : 8 ≤ k0) (F : Fun K "_law_query" "_law_query" s_law_query f fd) (T : Txt K mg Z C_QueryReader) (f__law_take : Fn P w K mg base "_law_take" 1 ["_law_pool_here", "_law_many_here"] spTake) (f__law_many : Fn P w K mg base "_law_many" 7 ["_law_query_here"] (spMany K 5)) (hN : N ≤ 5) (f__law_query : Fn P w K mg base "_law_query" k0 ["_law_pool_here", "_law_kinds_here", "_law_deep", "_law_most"] (spQy K N)) : FnOk P w K mg base CX0 (k0 + 1) f fd ["_law_pool_here", "_law_kinds_here", "_law_deep", "_law_most"] (spQy K (N + 1)) := by
  refine F.ok sc_law_query (fun vs H Q E h => ?_) (fun cdv A outer s H vs Q E hr h => ?_)
  · obtain ⟨p, q, n, deep, most, ws, rfl, _⟩ := h
    rfl
  · obtain ⟨p, q, n, deep, most, ws, rfl, hd1, hdN, hm1, hm12, hp, hn, hq, hw1, hw100, hwW, k⟩ := h
    have hpow : 10 * 5 ^ (N + 1) = 50 * 5 ^ N := by rw [Nat.pow_succ]; omega
    have hpos : 1 ≤ 5 ^ N := Nat.one_le_pow _ _ (by decide)
    rw [hpow] at hn k
    generalize h5 : 5 ^ N = five at *
    have hn7 : n + 50 * five ≤ 10000000 := hn
    have npq := hp.ne_strs hq
    have hlenw : (ws.map V.str).length = ws.length := List.length_map ..
    refine ⟨_, (pss_cons (ps_set (i := 4) sc_law_query.nd rfl (.inl rfl) (pe_fn f__law_take (hr.mono (by omega)) rfl (pa_cons (pv 0) (pa_cons pe_int pa_nil))))
 (pss_cons (ps_setLc (i := 5) (own := [("_law_k", 9)]) (g := gName 9) (tt := tYes) rfl sc_law_query.nd rfl rfl (sw_true rfl rfl rfl (by decide +kernel)) (pi_range1 (by rfl) T.n_range (pa_cons pe_int pa_nil)) (blkOk_by (own := [("_law_k", 9)]) (N := ["_law_pool_here", "_law_kinds_here", "_law_deep", "_law_most", "_law_sort", "_law_words", "_law_many_here", "_law_kind_here", "_law_parts", "_law_k", "_law_room", "_law_part"]) (sc := defScope s_law_query) (by decide +kernel)) (fun _ _ _ _ _ => pg_name (i := 9) sc_law_query.nd rfl (Or.inl rfl)) (fun _ _ _ _ _ => pts_nil) (fun _ _ _ _ _ => (pe_ix (show IxR _ (rIxL K) from ix_list) (pv 1) (pe_fn f__law_take (hr.mono (by omega)) rfl (pa_cons (pv 0) (pa_cons (pe_callB (show CallR _ _ (Bw.rLen K) from cl_len) (by rfl) T.n_len PySem.boot_len (pa_cons (pv 1) pa_nil)) pa_nil))) (fun _ _ => rfl))))
 (pss_cons (ps_if (PW.pt (pw_and (pt_cmpR op_gt (pv 2) pe_int (nomark _)) (pw_and (pt_cmpR op_gt (pv 3) pe_int (nomark _)) (pw_and1 (pt_cmpR op_lt (pv 4) pe_int (nomark _))))))
 (pss_cons (ps_set (i := 6) sc_law_query.nd rfl (.inl rfl) (pe_ix ix_list (pe_lst (pa_cons pe_int (pa_cons pe_int (pa_cons pe_int (pa_cons pe_int (pa_cons pe_int pa_nil)))))) (pv 4) (fun _ _ => rfl)))
 (pss_cons (ps_if (pt_cmpR op_eq (pv 4) pe_int (nomark _))
 (pss_one (ps_set (i := 6) sc_law_query.nd rfl (.inl rfl) pe_int))
 pss_nil)
 (pss_cons (ps_set (i := 7) sc_law_query.nd rfl (.inl rfl) (pe_ix ix_list (pe_lst (pa_cons pe_str (pa_cons pe_str (pa_cons pe_str (pa_cons pe_str (pa_cons pe_str pa_nil)))))) (pv 4) (fun _ _ => rfl)))
 (pss_cons (ps_set (i := 8) sc_law_query.nd rfl (.inl rfl) (pe_lst pa_nil))
 (pss_cons (ps_for PassesOwn.never rfl (pi_range1 (by rfl) T.n_range (pa_cons (pe_callB (cl_min rfl) (by rfl) T.n_min PyProof.Rows.boot_min (pa_cons (pv 6) (pa_cons (pv 3) pa_nil))) pa_nil)) (pg_name (i := 9) sc_law_query.nd rfl (.inl rfl))
 (pss_cons (ps_set (i := 10) sc_law_query.nd rfl (.inl rfl) (pe_op op_sub (pe_op op_sub (pv 3) (pe_callB (cr_sum rfl) (by rfl) T.n_sum PyProof.Rows.boot_sum (pa_cons (pe_lc (own := [("_law_part", 11)]) (g := gName 11) (tt := tYes) rfl sc_law_query.nd (show PI _ _ _ (iList K _) from (pi_list (pv 8))) (blkOk_by (own := [("_law_part", 11)]) (N := ["_law_pool_here", "_law_kinds_here", "_law_deep", "_law_most", "_law_sort", "_law_words", "_law_many_here", "_law_kind_here", "_law_parts", "_law_k", "_law_room", "_law_part"]) (sc := defScope s_law_query) (by decide +kernel)) (fun _ _ _ _ _ => pg_name (i := 11) sc_law_query.nd rfl (Or.inl rfl)) (fun _ _ _ _ _ => pts_nil) (fun _ _ _ _ _ => (pe_fn f__law_many (hr.mono (by omega)) rfl (pa_cons (pv 11) pa_nil)))) pa_nil))) (pe_op op_sub (pe_op op_sub (pe_callB (cl_min rfl) (by rfl) T.n_min PyProof.Rows.boot_min (pa_cons (pv 6) (pa_cons (pv 3) pa_nil))) (pv 9)) pe_int)))
 (pss_one (ps_expr (pe_bm PySem.F.plainAttrs_list PySem.F.slot_list_append PySem.F.type_list_append mt_append (pv 8) (pa_cons (pe_fn f__law_query (hr.mono (by omega)) rfl (pa_cons (pv 0) (pa_cons (pv 1) (pa_cons (pe_op op_sub (pv 2) pe_int) (pa_cons (pv 10) pa_nil))))) pa_nil))))))
 (pss_one (ps_ret (pe_op op_catT (pe_tup (pa_cons (pv 7) pa_nil)) (pe_callTy cl_tuple (by rfl) T.n_tuple PyProof.Rows.boot_tuple (pa_cons (pv 8) pa_nil))))))))))
 pss_nil)
 (pss_cons (ps_if (PW.pt (pw_and (pt_cmpR op_eq (pe_op op_mod (pv 4) pe_int) pe_int (nomark _)) (pw_and1 (pt_cmpR op_gt (pv 3) pe_int (nomark _)))))
 (pss_one (ps_ret (pe_op op_catT (pe_tup (pa_cons pe_str pa_nil)) (pe_callTy cl_tuple (by rfl) T.n_tuple PyProof.Rows.boot_tuple (pa_cons (pe_slice sl_list (pv 5) po_none (po_some (pe_callB (cl_min rfl) (by rfl) T.n_min PyProof.Rows.boot_min (pa_cons (pv 3) (pa_cons (pe_op op_add pe_int (pe_fn f__law_take (hr.mono (by omega)) rfl (pa_cons (pv 0) (pa_cons pe_int pa_nil)))) pa_nil))))) pa_nil)))))
 pss_nil)
 (pss_cons (ps_if (PW.pt (pw_and (pt_cmpR op_eq (pe_op op_mod (pv 4) pe_int) pe_int (nomark _)) (pw_and1 (pt_cmpR op_gt (pv 3) pe_int (nomark _)))))
 (pss_one (ps_ret (pe_tup (pa_cons pe_str (pa_cons (pe_op op_add pe_int (pe_fn f__law_take (hr.mono (by omega)) rfl (pa_cons (pv 0) (pa_cons (pe_ix ix_list (pe_lst (pa_cons pe_int (pa_cons pe_int pa_nil))) (pe_fn f__law_take (hr.mono (by omega)) rfl (pa_cons (pv 0) (pa_cons pe_int pa_nil))) (fun _ _ => rfl)) pa_nil)))) (pa_cons (pe_ix ix_list (pv 5) pe_int (fun _ _ => rfl)) (pa_cons (pe_ix ix_list (pv 5) pe_int (fun _ _ => rfl)) pa_nil)))))))
 pss_nil)
 (pss_one (ps_ret (pe_tup (pa_cons pe_str (pa_cons (pe_ix ix_list (pv 5) pe_int (fun _ _ => rfl)) pa_nil)))))))))), ?_⟩
    wtm_at "w0"
    wtm_at "wp"
    refine ⟨p, 8, n, rfl, hp, by omega, by decide, by decide, fun so H1 so0 so1 k1 p1 => ?_⟩
    have hq1 := k1 _ _ hq npq
    wtm_at "wp"
    refine ⟨5, rfl, by decide, by decide, ?_⟩
    refine lc_fin (n := 5) fin_rng (fun i acc H' => KB p H1 H' ∧ Pool H' p (n + 1 + i) ∧ ∃ us : List Str, acc = us.map V.str ∧ us.length = i ∧ ∀ u ∈ us, isW u = true) (fun D H3 nD s3 hD => ⟨KB.of s3, p1.mono s3 (Nat.le_refl _), [], rfl, rfl, by simp⟩) (fun _ _ _ _ _ => trivial) ?_ ?_
    · rintro D i v acc H3 H4 nD hi ha ⟨k3, p3, us, rfl, hl3, hy3⟩ hD ⟨rfl, rfl⟩
      have nDp : D ≠ p := (ne_of_none p1.at.choose_spec nD).symm
      have hq3 := k3 _ _ hq1 npq
      wtm_at "wp"
      refine ⟨rfl, ?_⟩
      wtm_at "wp"
      rw [hlenw]
      refine ⟨p, _, _, rfl, p3, by omega, by omega, by omega, fun d4 H5 d40 d41 k5 p5 => ?_⟩
      obtain ⟨j, rfl⟩ := Int.eq_ofNat_of_zero_le d40
      have hj : j < ws.length := by omega
      have hx : atI (ws.map V.str) (j : Int) = some (.str ws[j]) := atI_nat (by rw [List.getElem?_map, List.getElem?_eq_getElem hj]; rfl)
      refine w_ixL (.of (k5 _ _ hq3 npq)) hx ?_
      refine w_acc (k5 _ _ hD nDp) ha hi (sz (by omega)) (fun H6 k6 h6 => ⟨kb2 (k3.trans k5) k6 nD, p5.kb k6 nDp.symm, us ++ [ws[j]], by simp, by simp [hl3], fun y hy => ?_⟩)
      rcases List.mem_append.mp hy with h | h
      · exact hy3 y h
      · rw [List.mem_singleton.mp h]
        exact hwW _ (List.getElem_mem hj)
    · rintro D acc H3 nD ⟨k3, p3, us, rfl, hul, huW⟩ ha hD
      have nDp : D ≠ p := (ne_of_none p1.at.choose_spec nD).symm
      have hq3 := k3 _ _ hq1 npq
      have KK3 : KB p H H3 := k1.trans k3
      obtain ⟨w0, w1, w2, w3, w4, rfl⟩ : ∃ w0 w1 w2 w3 w4, us = [w0, w1, w2, w3, w4] := by
        match us, hul with
        | [a, b, c, d, e], _ => exact ⟨a, b, c, d, e, rfl⟩
      have hW0 := huW w0 (by simp)
      have hW1 := huW w1 (by simp)
      wtm_at "wq"
      by_cases hb : 2 ≤ deep ∧ 2 ≤ most ∧ so < 5
      · refine w_ifB true H3 (fun QB qb => ?_) ?_
        · wtm_at "wp"
          refine iteT' (decide_eq_true (by omega)) ?_
          wtm_at "wp"
          refine iteT' (decide_eq_true (by omega)) ?_
          wtm_at "wp"
          rw [decide_eq_true hb.2.2]
          exact qb
        refine iteT ?_
        obtain ⟨sj, rfl, hsj, _⟩ := at5 (a := 0) (b := 0) (c := 0) (d := 0) (e := 0) so0 hb.2.2
        obtain ⟨deep, rfl⟩ : ∃ e, deep = e + 1 := ⟨deep - 1, by omega⟩
        -- how many, which
        have htab : ∃ (mm : Nat) (kk : Str), atI [V.int 2, V.int 2, V.int 3, V.int 4, V.int 2] (sj : Int) = some (.int mm) ∧ atI [V.str "and", V.str "or", V.str "and", V.str "or", V.str "but"] (sj : Int) = some (.str kk) ∧ 2 ≤ mm ∧ mm ≤ 4 ∧ (kk = "and" ∨ kk = "or" ∨ kk = "but") ∧ (kk = "but" → mm = 2) ∧ ((sj : Int) = 4 → mm = 2) := by
          have : sj = 0 ∨ sj = 1 ∨ sj = 2 ∨ sj = 3 ∨ sj = 4 := by omega
          rcases this with rfl | rfl | rfl | rfl | rfl
          · exact ⟨2, "and", rfl, rfl, by decide, by decide, .inl rfl, fun _ => rfl, fun _ => rfl⟩
          · exact ⟨2, "or", rfl, rfl, by decide, by decide, .inr (.inl rfl), fun _ => rfl, fun _ => rfl⟩
          · exact ⟨3, "and", rfl, rfl, by decide, by decide, .inl rfl, fun z => absurd z (by decide +kernel), fun z => absurd z (by decide)⟩
          · exact ⟨4, "or", rfl, rfl, by decide, by decide, .inr (.inl rfl), fun z => absurd z (by decide +kernel), fun z => absurd z (by decide)⟩
          · exact ⟨2, "but", rfl, rfl, by decide, by decide, .inr (.inr rfl), fun _ => rfl, fun _ => rfl⟩
        obtain ⟨mm, kk, hmm, hkk, mm2, mm4, hkind, hbut, h4⟩ := htab
        wtm_at "wq"
        rename_i t1 nt1 H4 s4 ht1
        refine w_ifB (decide ((sj : Int) = 4)) H4 (fun QB qb => ?_) ?_
        · wtm_at "wp"
          have e : decide (V.int (sj : Int) = V.int 4) = decide ((sj : Int) = 4) := by
            rw [decide_eq_decide]
            exact ⟨V.int.inj, fun z => by rw [z]⟩
          rw [e]
          exact qb
        have S4 := s4
        refine w_decR (fun σ H' => H' = H4 ∧ σ = [some (.ref p), some (.ref q), some (.int ((deep + 1 : Nat) : Int)), some (.int most), some (.int sj), some (.ref D), some (.int mm), none, none, none, none, none]) (fun _ => ⟨rfl, rfl⟩) (fun go hc4 => ?_) ?_
        · wtm_at "w1"
          refine go _ _ ⟨rfl, ?_⟩
          rw [h4 hc4]
          rfl
        rintro σ H4' ⟨rfl, rfl⟩
        have hD4 := s4 _ _ hD
        have hq4 := s4 _ _ hq3
        have p4 := p3.mono s4 (Nat.le_refl _)
        have KK4 : KB p H H4' := KK3.trans (KB.of s4)
        wtm_at "wp"
        rename_i t2 nt2 H5 s5 ht2 l nl H6 s6 hl6
        have S6 := s5.trans s6
        have p6 := p4.mono S6 (Nat.le_refl _)
        have KK6 : KB p H H6 := KK4.trans (KB.of S6)
        have nlp : l ≠ p := (ne_of_none (p4.mono s5 (Nat.le_refl _)).at.choose_spec nl).symm
        have nl0 : H l = none := kb_newD (KK4.trans (KB.of s5)) (p4.mono s5 (Nat.le_refl _)).at.choose_spec nl
        have hq6 := S6 _ _ hq4
        have nql : q ≠ l := ne_of_none (s5 _ _ hq4) nl
        have eM : min (mm : Int) (most : Int) = ((min mm most : Nat) : Int) := by omega
        rw [eM]
        generalize hMM : min mm most = MM
        have hMM2 : 2 ≤ MM ∧ MM ≤ 4 ∧ MM ≤ most := by omega
        refine ⟨_, rfl, by omega, by omega, ?_⟩
        refine for_fin (n := ((MM : Nat) : Int).toNat) fin_rng (fun i σ H' => ∃ (v9 v10 v11 : Option V) (xs : List V) (ds : List PyData), σ = [some (.ref p), some (.ref q), some (.int ((deep + 1 : Nat) : Int)), some (.int most), some (.int sj), some (.ref D), some (.int mm), some (.str kk), some (.ref l), v9, v10, v11] ∧
          H' l = some (.lst xs) ∧ RpAll H' xs ds ∧ ds.length = i ∧ (∀ d ∈ ds, ∃ c, cnt deep d = some c) ∧ ((ds.map (cnt deep)).filterMap id).sum + (MM - i) ≤ most ∧ (∀ c o, H c = some o → c ≠ p → H' c = some o) ∧ H' q = some (.lst (ws.map V.str)) ∧ Pool H' p (n + 6 + i * (10 * five)))
          ⟨_, _, _, [], [], rfl, hl6, .nil, rfl, fun d hd => absurd hd (by simp), by simp; omega, fun c o h hne => KK6 c o h hne, hq6, p6.mono (.refl _) (by omega)⟩ (fun _ _ _ _ _ => trivial) ?_ ?_
        · rintro i x σ H7 H7' hi ⟨v9, v10, v11, xs, ds, rfl, hl7, rr7, hdl, hcs, hsum, kb7, hq7, p7⟩ ⟨rfl, rfl⟩
          have hi' : i < MM := by omega
          obtain ⟨ms, hms⟩ := cnt_list hcs
          have hmsum : ((ds.map (cnt deep)).filterMap id).sum = ms.sum := by rw [hms]; simp
          rw [hmsum] at hsum
          have hxl := rr7.length
          obtain ⟨xs7, hp7⟩ := p7.at
          wtm_at "wp"
          refine lc_fin (fin_list (xs := xs)) (fun j acc H' => Same H7' H' ∧ acc = ((ds.take j).map (cnt deep)).map cntV) (fun D H2 nD s2 hD => ⟨s2, rfl⟩) (fun j acc H2 _ h => .of (h.1 _ _ hl7)) ?_ ?_
          · rintro D2 j v acc H8 H9 nD2 hj hac ⟨s8, e8⟩ hD2 ⟨rfl, hv⟩
            obtain ⟨d, g1, g2⟩ := rr7.at hv
            obtain ⟨c, hc'⟩ := hcs d (List.mem_of_getElem? g1)
            wtm_at "wp"
            refine ⟨rfl, ?_⟩
            wtm_at "wp"
            refine ⟨v, deep, c, d, rfl, by omega, g2.same s8, hc', fun H10 s10 => ?_⟩
            refine w_acc (s10 _ _ hD2) hac hj (sz (by omega)) (fun H11 k11 h11 => ⟨k11.same (s8.trans s10) nD2, ?_⟩)
            rw [e8, take_succL g1, List.map_append, List.map_append]
            simp [hc', cntV]
          · rintro D2 acc H8 nD2 ⟨s8, e8⟩ hac hD2
            rw [hxl, List.take_length, hms] at e8
            subst e8
            wtm_at "wp"
            refine ⟨D2, ms.map fun m : Nat => (m : Int), rfl, .of (by rw [hD2]; simp [cntV]), ?_⟩
            rw [sum_cast]
            wtm_at "wp"
            have eR : (most : Int) - (ms.sum : Int) - (min (mm : Int) (most : Int) - (0 + (i : Int)) - 1) = ((most - ms.sum - (MM - i - 1) : Nat) : Int) := by omega
            have eD : (((deep + 1 : Nat) : Int) - 1) = ((deep : Nat) : Int) := by omega
            rw [eR, eD]
            have p8 := p7.mono s8 (Nat.le_refl _)
            have hi5 : i * (10 * five) ≤ 3 * (10 * five) := Nat.mul_le_mul_right _ (by omega)
            refine ⟨p, q, _, deep, _, ws, rfl, by omega, by omega, by omega, by omega, p8, by rw [h5]; show _ ≤ 10000000; omega, s8 _ _ hq7, hw1, hw100, hwW, fun o d m H9 rO hc9 hm9 k9 p9 => ?_⟩
            rw [h5] at p9
            have tk := p8.tupk k9
            have hl9 := k9 _ _ (s8 _ _ hl7) nlp
            have rr9 := (rr7.same s8).tupk tk (noLs_cnt hcs)
            wtm_at "wp"
            refine w_append hl9 (Nat.lt_of_le_of_lt (by omega : xs.length ≤ 1000) (by decide)) (fun H10 k10 h10 => ?_)
            have tk10 : TupK H9 H10 := TupK.kb k10 hl9
            refine ⟨_, _, _, xs ++ [.ref o], ds ++ [d], rfl, h10, (rr9.tupk tk10 (noLs_cnt hcs)).append (.cons (rO.tupk tk10 (cnt_noL hc9)) .nil), by simp [hdl], fun d' hd' => ?_, ?_, fun c o' h hne => ?_, ?_, (p9.kb k10 nlp.symm).mono (.refl _) ?_⟩
            · rcases List.mem_append.mp hd' with h | h
              · exact hcs d' h
              · rw [List.mem_singleton.mp h]
                exact ⟨m, hc9⟩
            · rw [List.map_append, List.filterMap_append, List.sum_append, hmsum]
              simp [hc9]
              omega
            · exact k10 _ _ (k9 _ _ (s8 _ _ (kb7 c o' h hne)) hne) (fun z => by rw [z, nl0] at h; cases h)
            · exact k10 _ _ (k9 _ _ (s8 _ _ hq7) npq) nql
            · rw [Nat.add_mul]
              omega
        · rintro σ H7 ⟨v9, v10, v11, xs, ds, rfl, hl7, rr7, hdl, hcs, hsum, kb7, hq7, p7⟩
          have hdl' : ds.length = MM := by rw [hdl]; omega
          have hi5 : ((MM : Nat) : Int).toNat * (10 * five) ≤ 4 * (10 * five) := Nat.mul_le_mul_right _ (by omega)
          have hxl := rr7.length
          wtm_at "wp"
          rename_i t8 n8 H8 s8 h8
          refine w_tupOf (.of (s8 _ _ hl7)) (fun t9 H9 n9 s9 h9 => ?_)
          refine w_catT (s9 _ _ h8) h9 (by simp) (by simp; omega) (fun o H10 s10 h10 => ?_)
          have S10 : Same H7 H10 := s8.trans (s9.trans s10)
          have rr10 := rr7.same S10
          obtain ⟨ms, hms⟩ := cnt_list hcs
          have hml : ms.length = ds.length := by
            have := congrArg List.length hms
            simpa using this.symm
          have hj : joinC (ds.map (cnt deep)) = some ms.sum := by
            unfold joinC
            rw [List.length_map, if_pos ⟨by omega, by omega, by rw [hms]; simp⟩, hms]
            simp
          have hmsum : ((ds.map (cnt deep)).filterMap id).sum = ms.sum := by rw [hms]; simp
          rw [hmsum] at hsum
          have hcnt : cnt (deep + 1) (.tuple (.str kk :: ds)) = some ms.sum := by
            rcases hkind with rfl | rfl | rfl
            · rw [cnt_and]; exact hj
            · rw [cnt_or]; exact hj
            · rw [cnt_but]
              unfold butC
              rw [List.length_map, if_pos (by have := hbut rfl; omega)]
              exact hj
          exact k o _ ms.sum H10 (.tup h10 (.cons (.str kk) rr10)) hcnt (by omega) (fun c o' h hne => S10 _ _ (kb7 c o' h hne)) (p7.mono S10 (by omega))
      · refine w_ifB false H3 (fun QB qb => ?_) ?_
        · wtm_at "wp"
          by_cases g1 : 2 ≤ deep
          · refine iteT' (decide_eq_true (by omega)) ?_
            wtm_at "wp"
            by_cases g2 : 2 ≤ most
            · refine iteT' (decide_eq_true (by omega)) ?_
              wtm_at "wp"
              rw [decide_eq_false (fun z => hb ⟨g1, g2, z⟩)]
              exact qb
            · exact iteF' (decide_eq_false (by omega)) qb
          · exact iteF' (decide_eq_false (by omega)) qb
        refine iteF ?_
        have hword : ∀ H' o, KB p H H' → Pool H' p (n + 50 * five) → H' o = some (.tup [.str "word", .str w0]) → Q (.ref o) H' := fun H' o kb pp ho => k o _ 1 H' (.tup ho (.cons (.str _) (.cons (.str _) .nil))) (by obtain ⟨e, rfl⟩ : ∃ e, deep = e + 1 := ⟨deep - 1, by omega⟩; exact cnt_word hW0) (by omega) kb pp
        wtm_at "wq"
        by_cases hb1 : so % 4 = 1 ∧ 2 ≤ most
        · refine w_ifB true H3 (fun QB qb => ?_) ?_
          · wtm_at "wp"
            refine iteT' (decide_eq_true (by rw [hb1.1])) ?_
            wtm_at "wp"
            rw [decide_eq_true (by omega)]
            exact qb
          refine iteT ?_
          wtm_at "wp"
          rename_i t4 n4 H4 s4 h4
          refine ⟨p, 4, _, rfl, p3.mono s4 (Nat.le_refl _), by omega, by decide, by decide, fun d5 H5 d50 d51 k5 p5 => ?_⟩
          have nt4 : t4 ≠ p := (ne_of_none p3.at.choose_spec n4).symm
          have h45 := k5 _ _ h4 nt4
          have hD5 := k5 _ _ (s4 _ _ hD) nDp
          wtm_at "wp"
          rename_i l6 H6 n6 s6 h6
          obtain ⟨c, hc5, hcl⟩ : ∃ c : Nat, min (most : Int) (2 + d5) = (c : Int) ∧ 2 ≤ c ∧ c ≤ 5 ∧ c ≤ most := ⟨(min (most : Int) (2 + d5)).toNat, by omega, by omega, by omega, by omega⟩
          have e6 : cutV ([w0, w1, w2, w3, w4].map V.str) none (some (min (most : Int) (2 + d5))) = (([w0, w1, w2, w3, w4].take c).map V.str) := by
            rw [hc5, cutV_take (by simp; omega), List.map_take]
          have h6' : H6 l6 = some (.lst (([w0, w1, w2, w3, w4].take c).map V.str)) := h6.trans (congrArg (fun z => some (HO.lst z)) e6)
          refine w_tupOf (.of h6') (fun t7 H7 n7 s7 h7 => ?_)
          refine w_catT (s7 _ _ (s6 _ _ h45)) h7 (by simp) (by simp; omega) (fun o H8 s8 h8 => ?_)
          have S8 := s6.trans (s7.trans s8)
          have hl8 : ([w0, w1, w2, w3, w4].take c).length = c := by rw [List.length_take]; simp; omega
          have hW8 : ∀ w ∈ [w0, w1, w2, w3, w4].take c, isW w = true := fun w hw => huW w (List.mem_of_mem_take hw)
          refine k o _ c H8 (.tup h8 (.cons (.str _) (rpAll_str _))) ?_ hcl.2.2 (KK3.trans ((KB.of s4).trans (k5.trans (KB.of S8)))) (p5.mono S8 (by omega))
          obtain ⟨e, rfl⟩ : ∃ e, deep = e + 1 := ⟨deep - 1, by omega⟩
          have := cnt_phrase (n := e) (by rw [hl8]; exact hcl.1) (by rw [hl8]; exact hcl.2.1) hW8
          rwa [hl8] at this
        · refine w_ifB false H3 (fun QB qb => ?_) ?_
          · wtm_at "wp"
            by_cases g1 : so % 4 = 1
            · refine iteT' (decide_eq_true (by rw [g1])) ?_
              wtm_at "wp"
              rw [decide_eq_false (fun z => hb1 ⟨g1, by omega⟩)]
              exact qb
            · exact iteF' (decide_eq_false (fun z => g1 (V.int.inj z))) qb
          refine iteF ?_
          wtm_at "wq"
          by_cases hb2 : so % 4 = 2 ∧ 2 ≤ most
          · refine w_ifB true H3 (fun QB qb => ?_) ?_
            · wtm_at "wp"
              refine iteT' (decide_eq_true (by rw [hb2.1])) ?_
              wtm_at "wp"
              rw [decide_eq_true (by omega)]
              exact qb
            refine iteT ?_
            wtm_at "wp"
            rename_i t4 n4 H4 s4 h4
            refine ⟨p, 2, _, rfl, p3.mono s4 (Nat.le_refl _), by omega, by decide, by decide, fun d5 H5 d50 d51 k5 p5 => ?_⟩
            have nt4 : t4 ≠ p := (ne_of_none p3.at.choose_spec n4).symm
            have hat : ∃ m : Int, atI [V.int 3, V.int 20] d5 = some (.int m) ∧ 3 ≤ m ∧ m ≤ 20 := by
              have hd : d5 = 0 ∨ d5 = 1 := by omega
              rcases hd with rfl | rfl
              · exact ⟨_, rfl, by decide, by decide⟩
              · exact ⟨_, rfl, by decide, by decide⟩
            obtain ⟨mx, hat, hx0, hx1⟩ := hat
            refine w_ixL (.of (k5 _ _ h4 nt4)) hat ?_
            wtm_at "wp"
            refine ⟨p, mx, _, rfl, p5, by omega, by omega, by omega, fun d6 H6 d60 d61 k6 p6 => ?_⟩
            have hD6 := k6 _ _ (k5 _ _ (s4 _ _ hD) nDp) nDp
            wtm_at "wp"
            rename_i t7 n7 H7 s7 h7
            refine k t7 _ 2 H7 (.tup h7 (.cons (.str _) (.cons (.int _) (.cons (.str _) (.cons (.str _) .nil))))) ?_ hb2.2 (KK3.trans ((KB.of s4).trans (k5.trans (k6.trans (KB.of s7))))) (p6.mono s7 (by omega))
            obtain ⟨e, rfl⟩ : ∃ e, deep = e + 1 := ⟨deep - 1, by omega⟩
            exact cnt_near (by omega) (by omega) hW0 hW1
          · refine w_ifB false H3 (fun QB qb => ?_) ?_
            · wtm_at "wp"
              by_cases g1 : so % 4 = 2
              · refine iteT' (decide_eq_true (by rw [g1])) ?_
                wtm_at "wp"
                rw [decide_eq_false (fun z => hb2 ⟨g1, by omega⟩)]
                exact qb
              · exact iteF' (decide_eq_false (fun z => g1 (V.int.inj z))) qb
            refine iteF ?_
            wtm_at "wp"
            rename_i t4 n4 H4 s4 h4
            exact hword H4 t4 (KK3.trans (KB.of s4)) (p3.mono s4 (by omega)) h4

abbrev s_law_is_word : Stmt := topS 48
theorem sc_law_is_word : FnScope ["_law_thing", "_law_sign"] ["_law_thing"] (defScope s_law_is_word) := ⟨rfl, rfl, rfl, by decide +kernel, rfl, by decide +kernel, by decide +kernel⟩
abbrev s_law_letters : Stmt := topS 49
theorem sc_law_letters : FnScope [] [] (defScope s_law_letters) := ⟨rfl, rfl, rfl, by decide +kernel, rfl, by decide +kernel, by decide +kernel⟩
def spLet : Sp := fun vs H Q _ => vs = [] ∧ Q (.str abc) H
theorem ok_letters {f : Addr} {fd : FuncData} (F : Fun K "_law_letters" "_law_letters" s_law_letters f fd) : FnOk P w K mg base CX0 1 f fd [] spLet := by
  refine F.ok sc_law_letters (fun vs H Q E h => ?_) (fun cdv A outer s H vs Q E hr h => ?_)
  · obtain ⟨rfl, _⟩ := h
    rfl
  · obtain ⟨rfl, k⟩ := h
    refine ⟨_, (pss_one (ps_ret pe_str)), ?_⟩
    exact k
theorem ok_law_is_word {f : Addr} {fd : FuncData} (F : Fun K "_law_is_word" "_law_is_word" s_law_is_word f fd) (T : Txt K mg Z C_QueryReader) (f__law_letters : Fn P w K mg base "_law_letters" 1 [] spLet) : FnOk P w K mg base CX0 2 f fd ["_law_thing"] (spWord K) := by
  refine F.ok sc_law_is_word (fun vs H Q E h => ?_) (fun cdv A outer s H vs Q E hr h => ?_)
  · obtain ⟨v, rfl, _⟩ := h
    rfl
  · obtain ⟨v, rfl, hv, k⟩ := h
    have k' : ∀ {b : Bool}, isWV v = b → ∀ H', Same H H' → Q (.bl b) H' := fun e H' s => e ▸ k H' s
    refine ⟨_, (pss_one (ps_ret (pe_and (pe_callB call_isi (by rfl) T.n_isinstance PyProof.Rows.boot_isinstance (pa_cons (pv 0) (pa_cons (pe_bltn (v := .ty "str") (by rfl) T.n_str PyProof.Rows.boot_str rfl) pa_nil))) (pe_and (pe_chain op_le op_le pe_int (pe_callB cl_len (by rfl) T.n_len PySem.boot_len (pa_cons (pv 0) pa_nil)) pe_int) (pe_one (pe_callB (cr_all rfl) (by rfl) T.n_all PyProof.Rows.boot_all (pa_cons (pe_lc (own := [("_law_sign", 1)]) (g := gName 1) (tt := tYes) rfl sc_law_is_word.nd (pi_str (pv 0)) (blkOk_by (own := [("_law_sign", 1)]) (N := ["_law_thing", "_law_sign"]) (sc := defScope s_law_is_word) (by decide +kernel)) (fun _ _ _ _ _ => pg_name (i := 1) sc_law_is_word.nd rfl (Or.inl rfl)) (fun _ _ _ _ _ => pts_nil) (fun _ _ _ _ _ => (pe_cmpR op_inS (pv 1) (pe_fn0 f__law_letters (hr.mono (by omega)) rfl) (by rfl)))) pa_nil))))))), ?_⟩
    wtm_at "w0"
    rcases hv with ⟨x, rfl, hx⟩ | ho
    · wtm_at "wp"
      have e0 : isWV (.str x) = (decide (1 ≤ x.length ∧ x.length ≤ 12) && x.cps.toList.all fun c => decide (c ∈ abc.cps.toList)) := rfl
      refine w_dec (fun h1 => ?_) (fun h1 => ?_)
      · wtm_at "wp"
        refine w_dec (fun h2 => ?_) (fun h2 => ?_)
        · wtm_at "wp"
          dsimp only
          refine lc_fin fin_str (fun i acc H' => Same H H' ∧ acc = ((x.cps.toList.take i).map fun c => decide (c ∈ abc.cps.toList)).map V.bl) (fun D H2 nD s2 hD => ⟨s2, rfl⟩) (fun _ _ _ _ _ => trivial) ?_ ?_
          · rintro D i v acc H3 H4 nD hi ha ⟨s3, e3⟩ hD ⟨rfl, c, hc, rfl⟩
            wtm_at "wp"
            refine ⟨rfl, ?_⟩
            wtm_at "wp"
            refine ⟨rfl, ?_⟩
            wtm_at "wp"
            refine w_acc hD ha hi (sz (by have : x.cps.size = x.length := rfl; omega)) (fun H5 k5 h5 => ⟨k5.same s3 nD, ?_⟩)
            rw [e3, take_succ hc]
            simp
            try rfl
          · rintro D acc H3 nD ⟨s3, e3⟩ ha hD
            wtm_at "wp"
            refine w_all e3 (.of hD) (k' ?_ _ s3)
            rw [e0, decide_eq_true ⟨by omega, by omega⟩, Bool.true_and, take_size, List.all_map]
            rfl
        · wtm_at "wp"
          refine k' ?_ _ (.refl _)
          rw [e0, decide_eq_false (fun z => by omega), Bool.false_and]
      · wtm_at "wp"
        refine k' ?_ _ (.refl _)
        rw [e0, decide_eq_false (fun z => by omega), Bool.false_and]
    · obtain ⟨nx, tv, ht, hk⟩ := ho.ty (K := K)
      wtm_at "wp"
      refine w_isiB ht hk ?_
      wtm_at "wp"
      have e0 : isWV v = false := by
        cases v <;> first | rfl | exact absurd rfl (nx _)
      rw [e0] at k
      exact k _ (.refl _)

end
end K24

namespace K24
section
variable {P : Program} {w : World} {K : PySem.W.Frag} {mg : Str → Option Value} {base : Heap} {Z : Zs} {C_QueryReader : Addr}
theorem w_listOfT {p : Addr} {ys : List V} {H : Hp} {Q : VK} (h : SqT K H p ys) (k : ∀ l H2, H l = none → Same H H2 → H2 l = some (.lst ys) → Q (.ref l) H2) : rListOf K [.ref p] H Q := ⟨p, ys, rfl, .inr h, fun l n => k l _ n (same_new n) upd_same⟩
theorem cnt_short {m : Nat} {ds : List PyData} (h : ds.length < 2) : cnt (m + 1) (.tuple ds) = none := by
  cases hc : cnt (m + 1) (.tuple ds) with
  | none => rfl
  | some c =>
    cases cnt_inv hc with
    | word => simp at h
    | phrase h1 => simp at h; omega
    | near => simp at h
    | join a b c => have := join_some c; simp at h; omega
theorem w_notInV {p : Addr} {xs : List V} {x : V} {H : Hp} {Q : VK} (hs : SqL K H p xs ∨ SqT K H p xs) (fx : flatV x = true) (fs : xs.all flatV = true) (q : Q (.bl (!inV x xs)) H) : rIn K true x (.ref p) H Q := ⟨p, xs, rfl, hs, fx, fs, q⟩
theorem in_three {k : Str} : inV (.str k) [.str "and", .str "or", .str "but"] = decide (k = "and" ∨ k = "or" ∨ k = "but") := by
  unfold inV
  simp only [List.any_cons, List.any_nil, Bool.or_false, eqV]
  by_cases h1 : k = "and"
  · subst h1
    decide +kernel
  · by_cases h2 : k = "or"
    · subst h2
      decide +kernel
    · by_cases h3 : k = "but"
      · subst h3
        decide +kernel
      · rw [decide_eq_false (fun z => z.elim h1 (fun z => z.elim h2 h3))]
        simp [Ne.symm h1, Ne.symm h2, Ne.symm h3]
theorem cntI_in (cs : List (Option Nat)) : inV (.int (-1)) ((cs.map cntI).map V.int) = !cs.all (·.isSome) := by
  induction cs with
  | nil => rfl
  | cons c r ih =>
    unfold inV at ih ⊢
    rw [List.map_cons, List.map_cons, List.any_cons, List.all_cons, ih]
    cases c with
    | none => simp [eqV, cntI]
    | some m =>
      have : ¬ ((-1 : Int) = (m : Int)) := by omega
      simp [eqV, cntI, this]
      try omega
theorem cntI_flat (cs : List (Option Nat)) : ((cs.map cntI).map V.int).all flatV = true := by
  rw [List.all_eq_true]
  intro x hx
  obtain ⟨i, _, rfl⟩ := List.mem_map.mp hx
  rfl
theorem cnt_k {m : Nat} {kk : Str} {ps : List PyData} (h1 : ¬ kk = "word") (h2 : ¬ kk = "phrase") (h3 : ¬ kk = "near") (h : ¬ (kk = "and" ∨ kk = "or" ∨ kk = "but")) : cnt (m + 1) (.tuple (.str kk :: ps)) = none := by
  rw [cnt, if_neg h1, if_neg h2, if_neg h3, if_neg (fun z => h (.inl z)), if_neg (fun z => h (.inr (.inl z))), if_neg (fun z => h (.inr (.inr z)))]
theorem cnt_j {m : Nat} {kk : Str} {ps : List PyData} (h : kk = "and" ∨ kk = "or" ∨ kk = "but") : cnt (m + 1) (.tuple (.str kk :: ps)) = if kk = "but" ∧ ps.length ≠ 2 then none else joinC (ps.map (cnt m)) := by
  rcases h with rfl | rfl | rfl
  · rw [cnt_and, if_neg (fun z => absurd z.1 (by decide +kernel))]
  · rw [cnt_or, if_neg (fun z => absurd z.1 (by decide +kernel))]
  · rw [cnt_but]
    unfold butC
    rw [List.length_map]
    by_cases h2 : ps.length = 2
    · rw [if_pos h2, if_neg (fun z => z.2 h2)]
    · rw [if_neg h2, if_pos ⟨rfl, h2⟩]
abbrev s_law_count : Stmt := topS 54
theorem sc_law_count : FnScope ["_law_thing", "_law_deep", "_law_parts", "_law_counts", "_law_part"] ["_law_thing", "_law_deep"] (defScope s_law_count) := ⟨rfl, rfl, rfl, by decide +kernel, rfl, by decide +kernel, by decide +kernel⟩
abbrev s_law_whole : Stmt := topS 51
theorem sc_law_whole : FnScope ["_law_thing"] ["_law_thing"] (defScope s_law_whole) := ⟨rfl, rfl, rfl, by decide +kernel, rfl, by decide +kernel, by decide +kernel⟩
theorem ok_lwhole {f : Addr} {fd : FuncData} (F : Fun K "_law_whole" "_law_whole" s_law_whole f fd) (T : Txt K mg Z C_QueryReader) : FnOk P w K mg base CX0 1 f fd ["_law_thing"] spWhole := by
  refine F.ok sc_law_whole (fun vs H Q E h => ?_) (fun cdv A outer s H vs Q E hr h => ?_)
  · obtain ⟨v, rfl, _⟩ := h
    rfl
  · obtain ⟨v, rfl, hv, k⟩ := h
    refine ⟨_, (pss_one (ps_ret (pe_and (pe_callB call_isi (by rfl) T.n_isinstance PyProof.Rows.boot_isinstance (pa_cons (pv 0) (pa_cons (pe_bltn (v := .ty "int") (by rfl) T.n_int PyProof.Rows.boot_int rfl) pa_nil))) (pe_one (pe_not (pe_callB call_isi (by rfl) T.n_isinstance PyProof.Rows.boot_isinstance (pa_cons (pv 0) (pa_cons (pe_bltn (v := .ty "bool") (by rfl) T.n_bool PyProof.Rows.boot_bool rfl) pa_nil)))))))), ?_⟩
    wtm_at "w0"
    cases hv with
    | non => wtm_at "wp"; exact k
    | int i => wtm_at "wp"; exact k
    | bl b => wtm_at "wp"; exact k
    | str x => wtm_at "wp"; exact k
    | lst h => wtm_at "wp"; exact k
    | tup h => wtm_at "wp"; exact k
def spLCnt (K : PySem.W.Frag) (N : Nat) : Sp := fun vs H Q _ => ∃ (v : V) (n L : Nat) (d : PyData), vs = [v, .int (n : Nat)] ∧ n ≤ N ∧ Rp H v d ∧ Fit L d ∧ L ≤ 50 ∧ ∀ H', Same H H' → Q (.int (cntI (cnt n d))) H'
theorem ok_lcnt0 {f : Addr} {fd : FuncData} (F : Fun K "_law_count" "_law_count" s_law_count f fd) (T : Txt K mg Z C_QueryReader) (f__law_is_word : Fn P w K mg base "_law_is_word" 2 ["_law_thing"] (spWord K)) (f__law_whole : Fn P w K mg base "_law_whole" 1 ["_law_thing"] spWhole) (f__law_count : Fn P w K mg base "_law_count" 2 ["_law_thing", "_law_deep"] (fun _ _ _ _ => False)) : FnOk P w K mg base CX0 3 f fd ["_law_thing", "_law_deep"] (spLCnt K 0) := by
  refine F.ok sc_law_count (fun vs H Q E h => ?_) (fun cdv A outer s H vs Q E hr h => ?_)
  · obtain ⟨v, n, L, d, rfl, _⟩ := h
    rfl
  · obtain ⟨v, n, L, d, rfl, hn, hR, hF, hL, k⟩ := h
    have hn0 : n = 0 := by omega
    subst hn0
    refine ⟨_, (pss_cons (ps_if (PW.pt (pw_or (pt_cmpR op_eq (pv 1) pe_int (nomark _)) (pw_or (pt_not (pt_val (pe_callB call_isi (by rfl) T.n_isinstance PyProof.Rows.boot_isinstance (pa_cons (pv 0) (pa_cons (pe_bltn (v := .ty "tuple") (by rfl) T.n_tuple PyProof.Rows.boot_tuple rfl) pa_nil))))) (pw_or (pt_cmpR op_lt (pe_callB cl_len (by rfl) T.n_len PySem.boot_len (pa_cons (pv 0) pa_nil)) pe_int (nomark _)) (pw_or1 (pt_not (pt_val (pe_callB call_isi (by rfl) T.n_isinstance PyProof.Rows.boot_isinstance (pa_cons (pe_ix ix_tup (pv 0) pe_int (fun _ _ => rfl)) (pa_cons (pe_bltn (v := .ty "str") (by rfl) T.n_str PyProof.Rows.boot_str rfl) pa_nil))))))))))
 (pss_one (ps_ret (pe_un un_neg pe_int)))
 pss_nil)
 (pss_cons (ps_set (i := 2) sc_law_count.nd rfl (.inl rfl) (pe_callTy cl_list (by rfl) T.n_list PyProof.Rows.boot_list (pa_cons (pe_slice sl_tup (pv 0) (po_some pe_int) po_none) pa_nil)))
 (pss_cons (ps_if (pt_cmpR op_eq (pe_ix ix_tup (pv 0) pe_int (fun _ _ => rfl)) pe_str (nomark _))
 (pss_one (ps_ret (pe_ix ix_list (pe_lst (pa_cons (pe_un un_neg pe_int) (pa_cons pe_int pa_nil))) (pe_callTy cl_int (by rfl) T.n_int PyProof.Rows.boot_int (pa_cons (pe_and (pe_cmpR op_eq (pe_callB cl_len (by rfl) T.n_len PySem.boot_len (pa_cons (pv 2) pa_nil)) pe_int (nomark _)) (pe_one (pe_fn f__law_is_word (hr.mono (by omega)) rfl (pa_cons (pe_ix ix_list (pv 2) pe_int (fun _ _ => rfl)) pa_nil)))) pa_nil)) (fun _ _ => rfl))))
 pss_nil)
 (pss_cons (ps_if (pt_cmpR op_eq (pe_ix ix_tup (pv 0) pe_int (fun _ _ => rfl)) pe_str (nomark _))
 (pss_one (ps_ret (pe_ix ix_list (pe_lst (pa_cons (pe_un un_neg pe_int) (pa_cons (pe_callB cl_len (by rfl) T.n_len PySem.boot_len (pa_cons (pv 2) pa_nil)) pa_nil))) (pe_callTy cl_int (by rfl) T.n_int PyProof.Rows.boot_int (pa_cons (pe_and (pe_chain op_le op_le pe_int (pe_callB cl_len (by rfl) T.n_len PySem.boot_len (pa_cons (pv 2) pa_nil)) pe_int) (pe_one (pe_callB (cr_all rfl) (by rfl) T.n_all PyProof.Rows.boot_all (pa_cons (pe_lc (own := [("_law_part", 4)]) (g := gName 4) (tt := tYes) rfl sc_law_count.nd (show PI _ _ _ (iList K _) from (pi_list (pv 2))) (blkOk_by (own := [("_law_part", 4)]) (N := ["_law_thing", "_law_deep", "_law_parts", "_law_counts", "_law_part"]) (sc := defScope s_law_count) (by decide +kernel)) (fun _ _ _ _ _ => pg_name (i := 4) sc_law_count.nd rfl (Or.inl rfl)) (fun _ _ _ _ _ => pts_nil) (fun _ _ _ _ _ => (pe_fn f__law_is_word (hr.mono (by omega)) rfl (pa_cons (pv 4) pa_nil)))) pa_nil)))) pa_nil)) (fun _ _ => rfl))))
 pss_nil)
 (pss_cons (ps_if (pt_cmpR op_eq (pe_ix ix_tup (pv 0) pe_int (fun _ _ => rfl)) pe_str (nomark _))
 (pss_cons (ps_if (PW.pt (pw_or (pt_cmpR op_ne (pe_callB cl_len (by rfl) T.n_len PySem.boot_len (pa_cons (pv 2) pa_nil)) pe_int (nomark _)) (pw_or (pt_not (pt_val (pe_fn f__law_whole (hr.mono (by omega)) rfl (pa_cons (pe_ix ix_list (pv 2) pe_int (fun _ _ => rfl)) pa_nil)))) (pw_or1 (pt_not (pt_chain op_le op_le pe_int (pe_ix ix_list (pv 2) pe_int (fun _ _ => rfl)) pe_int))))))
 (pss_one (ps_ret (pe_un un_neg pe_int)))
 pss_nil)
 (pss_one (ps_ret (pe_ix ix_list (pe_lst (pa_cons (pe_un un_neg pe_int) (pa_cons pe_int pa_nil))) (pe_callTy cl_int (by rfl) T.n_int PyProof.Rows.boot_int (pa_cons (pe_and (pe_fn f__law_is_word (hr.mono (by omega)) rfl (pa_cons (pe_ix ix_list (pv 2) pe_int (fun _ _ => rfl)) pa_nil)) (pe_one (pe_fn f__law_is_word (hr.mono (by omega)) rfl (pa_cons (pe_ix ix_list (pv 2) pe_int (fun _ _ => rfl)) pa_nil)))) pa_nil)) (fun _ _ => rfl)))))
 pss_nil)
 (pss_cons (ps_if (PW.pt (pw_or (pt_cmpR op_notIn_seq (pe_ix ix_tup (pv 0) pe_int (fun _ _ => rfl)) (pe_tup (pa_cons pe_str (pa_cons pe_str (pa_cons pe_str pa_nil)))) (by rfl)) (pw_or (pt_not (pt_chain op_le op_le pe_int (pe_callB cl_len (by rfl) T.n_len PySem.boot_len (pa_cons (pv 2) pa_nil)) pe_int)) (pw_or1 (PW.pt (pw_and (pt_cmpR op_eq (pe_ix ix_tup (pv 0) pe_int (fun _ _ => rfl)) pe_str (nomark _)) (pw_and1 (pt_cmpR op_gt (pe_callB cl_len (by rfl) T.n_len PySem.boot_len (pa_cons (pv 2) pa_nil)) pe_int (nomark _)))))))))
 (pss_one (ps_ret (pe_un un_neg pe_int)))
 pss_nil)
 (pss_cons (ps_setLc (i := 3) (own := [("_law_part", 4)]) (g := gName 4) (tt := tYes) rfl sc_law_count.nd rfl rfl (sw_true rfl rfl rfl (by decide +kernel)) (show PI _ _ _ (iList K _) from (pi_list (pv 2))) (blkOk_by (own := [("_law_part", 4)]) (N := ["_law_thing", "_law_deep", "_law_parts", "_law_counts", "_law_part"]) (sc := defScope s_law_count) (by decide +kernel)) (fun _ _ _ _ _ => pg_name (i := 4) sc_law_count.nd rfl (Or.inl rfl)) (fun _ _ _ _ _ => pts_nil) (fun _ _ _ _ _ => (pe_fn f__law_count (hr.mono (by omega)) rfl (pa_cons (pv 4) (pa_cons (pe_op op_sub (pv 1) pe_int) pa_nil)))))
 (pss_one (ps_ret (pe_ix ix_list (pe_lst (pa_cons (pe_callB (cr_sum rfl) (by rfl) T.n_sum PyProof.Rows.boot_sum (pa_cons (pv 3) pa_nil)) (pa_cons (pe_un un_neg pe_int) pa_nil))) (pe_callTy cl_int (by rfl) T.n_int PyProof.Rows.boot_int (pa_cons (pe_cmpR op_in_seq (pe_un un_neg pe_int) (pv 3) (by rfl)) pa_nil)) (fun _ _ => rfl))))))))))), ?_⟩
    wtm_at "w0"
    wtm_at "wp"
    exact k _ (.refl _)
theorem ok_lcntS {N k0 : Nat} {f : Addr} {fd : FuncData} (F : Fun K "_law_count" "_law_count" s_law_count f fd) (T : Txt K mg Z C_QueryReader) (f__law_is_word : Fn P w K mg base "_law_is_word" 2 ["_law_thing"] (spWord K)) (f__law_whole : Fn P w K mg base "_law_whole" 1 ["_law_thing"] spWhole) (f__law_count : Fn P w K mg base "_law_count" (k0 + 2) ["_law_thing", "_law_deep"] (spLCnt K N)) : FnOk P w K mg base CX0 (k0 + 3) f fd ["_law_thing", "_law_deep"] (spLCnt K (N + 1)) := by
  refine F.ok sc_law_count (fun vs H Q E h => ?_) (fun cdv A outer s H vs Q E hr h => ?_)
  · obtain ⟨v, n, L, d, rfl, _⟩ := h
    rfl
  · obtain ⟨v, n, L, d, rfl, hn, hR, hF, hL, k⟩ := h
    have k' : ∀ {o : Option Nat}, cnt n d = o → ∀ H', Same H H' → Q (.int (cntI o)) H' := fun e H' s => e ▸ k H' s
    have kn : cnt n d = none → ∀ H', Same H H' → Q (.int (-1)) H' := fun e H' s => k' e H' s
    refine ⟨_, (pss_cons (ps_if (PW.pt (pw_or (pt_cmpR op_eq (pv 1) pe_int (nomark _)) (pw_or (pt_not (pt_val (pe_callB call_isi (by rfl) T.n_isinstance PyProof.Rows.boot_isinstance (pa_cons (pv 0) (pa_cons (pe_bltn (v := .ty "tuple") (by rfl) T.n_tuple PyProof.Rows.boot_tuple rfl) pa_nil))))) (pw_or (pt_cmpR op_lt (pe_callB cl_len (by rfl) T.n_len PySem.boot_len (pa_cons (pv 0) pa_nil)) pe_int (nomark _)) (pw_or1 (pt_not (pt_val (pe_callB call_isi (by rfl) T.n_isinstance PyProof.Rows.boot_isinstance (pa_cons (pe_ix ix_tup (pv 0) pe_int (fun _ _ => rfl)) (pa_cons (pe_bltn (v := .ty "str") (by rfl) T.n_str PyProof.Rows.boot_str rfl) pa_nil))))))))))
 (pss_one (ps_ret (pe_un un_neg pe_int)))
 pss_nil)
 (pss_cons (ps_set (i := 2) sc_law_count.nd rfl (.inl rfl) (pe_callTy cl_list (by rfl) T.n_list PyProof.Rows.boot_list (pa_cons (pe_slice sl_tup (pv 0) (po_some pe_int) po_none) pa_nil)))
 (pss_cons (ps_if (pt_cmpR op_eq (pe_ix ix_tup (pv 0) pe_int (fun _ _ => rfl)) pe_str (nomark _))
 (pss_one (ps_ret (pe_ix ix_list (pe_lst (pa_cons (pe_un un_neg pe_int) (pa_cons pe_int pa_nil))) (pe_callTy cl_int (by rfl) T.n_int PyProof.Rows.boot_int (pa_cons (pe_and (pe_cmpR op_eq (pe_callB cl_len (by rfl) T.n_len PySem.boot_len (pa_cons (pv 2) pa_nil)) pe_int (nomark _)) (pe_one (pe_fn f__law_is_word (hr.mono (by omega)) rfl (pa_cons (pe_ix ix_list (pv 2) pe_int (fun _ _ => rfl)) pa_nil)))) pa_nil)) (fun _ _ => rfl))))
 pss_nil)
 (pss_cons (ps_if (pt_cmpR op_eq (pe_ix ix_tup (pv 0) pe_int (fun _ _ => rfl)) pe_str (nomark _))
 (pss_one (ps_ret (pe_ix ix_list (pe_lst (pa_cons (pe_un un_neg pe_int) (pa_cons (pe_callB cl_len (by rfl) T.n_len PySem.boot_len (pa_cons (pv 2) pa_nil)) pa_nil))) (pe_callTy cl_int (by rfl) T.n_int PyProof.Rows.boot_int (pa_cons (pe_and (pe_chain op_le op_le pe_int (pe_callB cl_len (by rfl) T.n_len PySem.boot_len (pa_cons (pv 2) pa_nil)) pe_int) (pe_one (pe_callB (cr_all rfl) (by rfl) T.n_all PyProof.Rows.boot_all (pa_cons (pe_lc (own := [("_law_part", 4)]) (g := gName 4) (tt := tYes) rfl sc_law_count.nd (show PI _ _ _ (iList K _) from (pi_list (pv 2))) (blkOk_by (own := [("_law_part", 4)]) (N := ["_law_thing", "_law_deep", "_law_parts", "_law_counts", "_law_part"]) (sc := defScope s_law_count) (by decide +kernel)) (fun _ _ _ _ _ => pg_name (i := 4) sc_law_count.nd rfl (Or.inl rfl)) (fun _ _ _ _ _ => pts_nil) (fun _ _ _ _ _ => (pe_fn f__law_is_word (hr.mono (by omega)) rfl (pa_cons (pv 4) pa_nil)))) pa_nil)))) pa_nil)) (fun _ _ => rfl))))
 pss_nil)
 (pss_cons (ps_if (pt_cmpR op_eq (pe_ix ix_tup (pv 0) pe_int (fun _ _ => rfl)) pe_str (nomark _))
 (pss_cons (ps_if (PW.pt (pw_or (pt_cmpR op_ne (pe_callB cl_len (by rfl) T.n_len PySem.boot_len (pa_cons (pv 2) pa_nil)) pe_int (nomark _)) (pw_or (pt_not (pt_val (pe_fn f__law_whole (hr.mono (by omega)) rfl (pa_cons (pe_ix ix_list (pv 2) pe_int (fun _ _ => rfl)) pa_nil)))) (pw_or1 (pt_not (pt_chain op_le op_le pe_int (pe_ix ix_list (pv 2) pe_int (fun _ _ => rfl)) pe_int))))))
 (pss_one (ps_ret (pe_un un_neg pe_int)))
 pss_nil)
 (pss_one (ps_ret (pe_ix ix_list (pe_lst (pa_cons (pe_un un_neg pe_int) (pa_cons pe_int pa_nil))) (pe_callTy cl_int (by rfl) T.n_int PyProof.Rows.boot_int (pa_cons (pe_and (pe_fn f__law_is_word (hr.mono (by omega)) rfl (pa_cons (pe_ix ix_list (pv 2) pe_int (fun _ _ => rfl)) pa_nil)) (pe_one (pe_fn f__law_is_word (hr.mono (by omega)) rfl (pa_cons (pe_ix ix_list (pv 2) pe_int (fun _ _ => rfl)) pa_nil)))) pa_nil)) (fun _ _ => rfl)))))
 pss_nil)
 (pss_cons (ps_if (PW.pt (pw_or (pt_cmpR op_notIn_seq (pe_ix ix_tup (pv 0) pe_int (fun _ _ => rfl)) (pe_tup (pa_cons pe_str (pa_cons pe_str (pa_cons pe_str pa_nil)))) (by rfl)) (pw_or (pt_not (pt_chain op_le op_le pe_int (pe_callB cl_len (by rfl) T.n_len PySem.boot_len (pa_cons (pv 2) pa_nil)) pe_int)) (pw_or1 (PW.pt (pw_and (pt_cmpR op_eq (pe_ix ix_tup (pv 0) pe_int (fun _ _ => rfl)) pe_str (nomark _)) (pw_and1 (pt_cmpR op_gt (pe_callB cl_len (by rfl) T.n_len PySem.boot_len (pa_cons (pv 2) pa_nil)) pe_int (nomark _)))))))))
 (pss_one (ps_ret (pe_un un_neg pe_int)))
 pss_nil)
 (pss_cons (ps_setLc (i := 3) (own := [("_law_part", 4)]) (g := gName 4) (tt := tYes) rfl sc_law_count.nd rfl rfl (sw_true rfl rfl rfl (by decide +kernel)) (show PI _ _ _ (iList K _) from (pi_list (pv 2))) (blkOk_by (own := [("_law_part", 4)]) (N := ["_law_thing", "_law_deep", "_law_parts", "_law_counts", "_law_part"]) (sc := defScope s_law_count) (by decide +kernel)) (fun _ _ _ _ _ => pg_name (i := 4) sc_law_count.nd rfl (Or.inl rfl)) (fun _ _ _ _ _ => pts_nil) (fun _ _ _ _ _ => (pe_fn f__law_count (hr.mono (by omega)) rfl (pa_cons (pv 4) (pa_cons (pe_op op_sub (pv 1) pe_int) pa_nil)))))
 (pss_one (ps_ret (pe_ix ix_list (pe_lst (pa_cons (pe_callB (cr_sum rfl) (by rfl) T.n_sum PyProof.Rows.boot_sum (pa_cons (pv 3) pa_nil)) (pa_cons (pe_un un_neg pe_int) pa_nil))) (pe_callTy cl_int (by rfl) T.n_int PyProof.Rows.boot_int (pa_cons (pe_cmpR op_in_seq (pe_un un_neg pe_int) (pv 3) (by rfl)) pa_nil)) (fun _ _ => rfl))))))))))), ?_⟩
    wtm_at "w0"
    wtm_at "wp"
    refine w_dec (fun h1 => ?_) (fun h1 => ?_)
    · have hn0 : n = 0 := by have := V.int.inj h1; omega
      subst hn0
      wtm_at "wp"
      exact kn rfl _ (.refl _)
    · obtain ⟨m, rfl⟩ : ∃ m, n = m + 1 := ⟨n - 1, by
        have : n ≠ 0 := fun z => h1 (by rw [z]; rfl)
        omega⟩
      cases hR with
      | non => wtm_at "wp"; exact kn rfl _ (.refl _)
      | bl b => wtm_at "wp"; exact kn rfl _ (.refl _)
      | int i => wtm_at "wp"; exact kn rfl _ (.refl _)
      | str x => wtm_at "wp"; exact kn rfl _ (.refl _)
      | lst h r => wtm_at "wp"; exact kn rfl _ (.refl _)
      | @tup a xs ds ha hr' =>
        have hlen := hr'.length
        obtain ⟨L', rfl⟩ : ∃ L', L = L' + 1 := ⟨L - 1, by
          cases L with
          | zero => rcases hF with (h | ⟨b, h⟩ | ⟨i, h⟩) | ⟨y, h, _⟩ <;> cases h
          | succ L => omega⟩
        obtain ⟨hdl, hfit⟩ := hF.tup
        wtm_at "wp"
        refine w_lenT (.of ha) ?_
        wtm_at "wp"
        refine w_dec (fun h2 => ?_) (fun h2 => ?_)
        · wtm_at "wp"
          exact kn (cnt_short (by omega)) _ (.refl _)
        · cases hr' with
          | nil => exact absurd (by simp) h2
          | @cons x dd xr dr rx rr =>
            have hln : xr.length = dr.length := by simpa using hlen
            have hl1 : 1 ≤ dr.length := by simp at h2; omega
            wtm_at "wp"
            cases rx with
            | non => wtm_at "wp"; exact kn rfl _ (.refl _)
            | bl b => wtm_at "wp"; exact kn rfl _ (.refl _)
            | int i => wtm_at "wp"; exact kn rfl _ (.refl _)
            | lst h r => wtm_at "wp"; exact kn rfl _ (.refl _)
            | tup h r => wtm_at "wp"; exact kn rfl _ (.refl _)
            | str kk =>
              wtm_at "wp"
              refine w_slTd (i := 1) (.of ha) (by decide) (by simp) (fun p3 H3 n3 s3 h3 => ?_)
              have h3' : H3 p3 = some (.tup xr) := h3
              wtm_at "wp"
              refine w_listOfT (.of h3') (fun l4 H4 n4 s4 h4 => ?_)
              have S4 := s3.trans s4
              have ha4 := S4 _ _ ha
              have rr4 := rr.same S4
              have fitr : ∀ e ∈ dr, Fit L' e := fun e he => hfit e (List.mem_cons_of_mem _ he)
              wtm_at "wp"
              refine w_dec (fun g1 => ?_) (fun g1 => ?_)
              · have e1 : kk = "word" := V.str.inj g1
                subst e1
                have ec : cnt (m + 1) (.tuple (.str "word" :: dr)) = wordC dr := by rw [cnt, if_pos rfl]
                wtm_at "wp"
                rename_i l5 n5 H5 s5 h5
                have S5 := S4.trans s5
                refine w_dec (fun g => ?_) (fun g => ?_)
                · have hx1 : xr.length = 1 := by have := V.int.inj g; omega
                  obtain ⟨v, d0, q1, q2, q3⟩ := at_rp rr4 (i := 0) (by omega)
                  have e0 : dr = [d0] := by
                    match dr, hln, q2 with
                    | [d'], _, q2 => cases q2; rfl
                    | [], hl, q2 => cases q2
                    | _ :: _ :: _, hl, _ => simp at hl; omega
                  wtm_at "wp"
                  refine w_ixL (.of (s5 _ _ h4)) (atI_nat q1) ?_
                  wtm_at "wp"
                  refine ⟨v, rfl, (q3.same s5).txt (fitr d0 (List.mem_of_getElem? q2)), fun H6 s6 => ?_⟩
                  rw [isWD_of q3]
                  have h56 := s6 _ _ h5
                  cases hw : isWD d0 with
                  | true =>
                    wtm_at "wp"
                    exact k' (o := some 1) (by rw [ec, e0]; unfold wordC; rw [if_pos ⟨rfl, by simp [hw]⟩]) _ (S5.trans s6)
                  | false =>
                    wtm_at "wp"
                    exact kn (by rw [ec, e0]; unfold wordC; rw [if_neg (fun z => by simp [hw] at z)]) _ (S5.trans s6)
                · wtm_at "wp"
                  exact kn (by rw [ec]; unfold wordC; rw [if_neg (fun z => g (by rw [hln, z.1]; rfl))]) _ S5
              · have e1 : ¬ kk = "word" := fun z => g1 (by rw [z])
                wtm_at "wp"
                refine w_dec (fun g2 => ?_) (fun g2 => ?_)
                · have e2 : kk = "phrase" := V.str.inj g2
                  subst e2
                  have ec : cnt (m + 1) (.tuple (.str "phrase" :: dr)) = phraseC dr := by rw [cnt, if_neg (by decide +kernel), if_pos rfl]
                  wtm_at "wp"
                  rename_i l5 n5 H5 s5 h5
                  have S5 := S4.trans s5
                  have h45 := s5 _ _ h4
                  have rr5 := rr4.same s5
                  refine w_dec (fun g => ?_) (fun g => ?_)
                  · wtm_at "wp"
                    refine w_dec (fun g' => ?_) (fun g' => ?_)
                    · wtm_at "wp"
                      refine lc_fin (fin_list (xs := xr)) (fun i acc H' => Same H5 H' ∧ acc = ((dr.take i).map isWD).map V.bl) (fun D H2 nD s2 hD => ⟨s2, rfl⟩) (fun i acc H2 _ h => .of (h.1 _ _ h45)) ?_ ?_
                      · rintro D i v acc H6 H7 nD hi hac ⟨s6, e6⟩ hD ⟨rfl, hv⟩
                        obtain ⟨d, q1, q2⟩ := rr5.at hv
                        wtm_at "wp"
                        refine ⟨rfl, ?_⟩
                        wtm_at "wp"
                        refine ⟨v, rfl, (q2.same s6).txt (fitr d (List.mem_of_getElem? q1)), fun H8 s8 => ?_⟩
                        refine w_acc (s8 _ _ hD) hac hi (sz (by omega)) (fun H9 k9 h9 => ⟨k9.same (s6.trans s8) nD, ?_⟩)
                        rw [e6, take_succL q1, isWD_of q2]
                        simp
                      · rintro D acc H6 nD ⟨s6, e6⟩ hac hD
                        rw [hln, List.take_length] at e6
                        have h56 := s6 _ _ h5
                        wtm_at "wp"
                        refine w_all e6 (.of hD) ?_
                        have ea : ((dr.map isWD).all id) = dr.all isWD := by
                          rw [List.all_map]
                          rfl
                        rw [ea]
                        cases hb : dr.all isWD with
                        | true =>
                          wtm_at "wp"
                          rw [hln]
                          exact k' (o := some dr.length) (by rw [ec]; unfold phraseC; rw [if_pos ⟨by omega, by omega, hb⟩]) _ (S5.trans s6)
                        | false =>
                          wtm_at "wp"
                          exact kn (by rw [ec]; unfold phraseC; rw [if_neg (fun z => by rw [hb] at z; exact absurd z.2.2 Bool.false_ne_true)]) _ (S5.trans s6)
                    · wtm_at "wp"
                      exact kn (by rw [ec]; unfold phraseC; rw [if_neg (fun z => by omega)]) _ S5
                  · wtm_at "wp"
                    exact kn (by rw [ec]; unfold phraseC; rw [if_neg (fun z => by omega)]) _ S5
                · have e2 : ¬ kk = "phrase" := fun z => g2 (by rw [z])
                  wtm_at "wp"
                  refine w_dec (fun g3 => ?_) (fun g3 => ?_)
                  · have e3 : kk = "near" := V.str.inj g3
                    subst e3
                    have ec : cnt (m + 1) (.tuple (.str "near" :: dr)) = nearC dr := by rw [cnt, if_neg (by decide +kernel), if_neg (by decide +kernel), if_pos rfl]
                    wtm_at "wp"
                    refine w_decN (fun g => ?_) (fun g => ?_)
                    · have hx3 : xr.length = 3 := by have := V.int.inj g; omega
                      obtain ⟨x, y, z, rfl⟩ : ∃ x y z, xr = [x, y, z] := by
                        match xr, hx3 with
                        | [x, y, z], _ => exact ⟨x, y, z, rfl⟩
                      obtain ⟨d1, d2, d3, rfl⟩ : ∃ d1 d2 d3, dr = [d1, d2, d3] := by
                        have h3' : dr.length = 3 := by omega
                        match dr, h3' with
                        | [x, y, z], _ => exact ⟨x, y, z, rfl⟩
                      obtain ⟨_, q1, r1⟩ := rr4.at (i := 0) rfl
                      obtain ⟨_, q2, r2⟩ := rr4.at (i := 1) rfl
                      obtain ⟨_, q3, r3⟩ := rr4.at (i := 2) rfl
                      cases q1
                      cases q2
                      cases q3
                      have bad : (∀ f, d1 ≠ .int f) → ∀ H', Same H H' → Q (.int (-1)) H' := fun hb => kn (by
                        rw [ec]
                        unfold nearC
                        split
                        · rename_i f a b heq
                          cases heq
                          exact absurd rfl (hb f)
                        · rfl)
                      wtm_at "wp"
                      refine ⟨x, rfl, r1.thg, ?_⟩
                      cases r1 with
                      | non => wtm_at "wp"; exact bad (fun f z => by cases z) _ S4
                      | bl b => wtm_at "wp"; exact bad (fun f z => by cases z) _ S4
                      | str b => wtm_at "wp"; exact bad (fun f z => by cases z) _ S4
                      | lst h r => wtm_at "wp"; exact bad (fun f z => by cases z) _ S4
                      | tup h r => wtm_at "wp"; exact bad (fun f z => by cases z) _ S4
                      | int i =>
                        wtm_at "wp"
                        refine w_dec (fun q1 => ?_) (fun q1 => ?_)
                        · wtm_at "wp"
                          by_cases q2 : i ≤ 20
                          · refine iteF' (by rw [decide_eq_true q2]; rfl) ?_
                            wtm_at "wp"
                            rename_i l5 n5 H5 s5 h5
                            refine ⟨y, rfl, (r2.same s5).txt (fitr d2 (by simp)), fun H6 s6 => ?_⟩
                            rw [isWD_of r2]
                            have h56 := s6 _ _ h5
                            have h46 := s6 _ _ (s5 _ _ h4)
                            have S6 := S4.trans (s5.trans s6)
                            cases hw2 : isWD d2 with
                            | true =>
                              wtm_at "wp"
                              refine ⟨z, rfl, ((r3.same s5).same s6).txt (fitr d3 (by simp)), fun H7 s7 => ?_⟩
                              rw [isWD_of r3]
                              have h57 := s7 _ _ h56
                              cases hw3 : isWD d3 with
                              | true =>
                                wtm_at "wp"
                                exact k' (o := some 2) (by rw [ec]; unfold nearC; simp only; rw [if_pos ⟨q1, q2, hw2, hw3⟩]) _ (S6.trans s7)
                              | false =>
                                wtm_at "wp"
                                exact kn (by rw [ec]; unfold nearC; simp only; rw [if_neg (fun z => by rw [hw3] at z; cases z.2.2.2)]) _ (S6.trans s7)
                            | false =>
                              wtm_at "wp"
                              exact kn (by rw [ec]; unfold nearC; simp only; rw [if_neg (fun z => by rw [hw2] at z; cases z.2.2.1)]) _ S6
                          · refine iteT' (by rw [decide_eq_false q2]; rfl) ?_
                            wtm_at "wp"
                            exact kn (by rw [ec]; unfold nearC; simp only; rw [if_neg (fun z => q2 z.2.1)]) _ S4
                        · wtm_at "wp"
                          exact kn (by rw [ec]; unfold nearC; simp only; rw [if_neg (fun z => q1 z.1)]) _ S4
                    · wtm_at "wp"
                      refine kn ?_ _ S4
                      rw [ec]
                      unfold nearC
                      split
                      · rename_i f a b
                        exact absurd (by rw [hln]; rfl) g
                      · rfl
                  · have e3 : ¬ kk = "near" := fun z => g3 (by rw [z])
                    wtm_at "wp"
                    rename_i q5 n5 H5 s5 h5
                    have S5 := S4.trans s5
                    refine w_notInV (.inr (.of h5)) rfl rfl ?_
                    rw [in_three]
                    by_cases hk : kk = "and" ∨ kk = "or" ∨ kk = "but"
                    · rw [decide_eq_true hk]
                      have ec := cnt_j (m := m) (ps := dr) hk
                      have h45 := s5 _ _ h4
                      have rr5 := rr4.same s5
                      wtm_at "wp"
                      have joined : (2 ≤ dr.length ∧ dr.length ≤ 4) → (kk = "but" → dr.length = 2) → cnt (m + 1) (.tuple (.str kk :: dr)) = joinC (dr.map (cnt m)) := fun _ hb => by
                        rw [ec, if_neg (fun z => z.2 (hb z.1))]
                      have nojoin : ¬ (2 ≤ dr.length ∧ dr.length ≤ 4) → cnt (m + 1) (.tuple (.str kk :: dr)) = none := fun hno => by
                        rw [ec]
                        split
                        · rfl
                        · unfold joinC
                          rw [if_neg (fun z => hno ⟨by rw [← List.length_map (f := cnt m)]; exact z.1, by rw [← List.length_map (f := cnt m)]; exact z.2.1⟩)]
                      refine w_dec (fun g4 => ?_) (fun g4 => ?_)
                      · wtm_at "wp"
                        by_cases g5 : (xr.length : Int) ≤ 4
                        · refine iteF' (by rw [decide_eq_true g5]; rfl) ?_
                          wtm_at "wp"
                          refine w_dec (fun g6 => ?_) (fun g6 => ?_)
                          · have hb6 : kk = "but" := V.str.inj g6
                            wtm_at "wp"
                            refine w_dec (fun g7 => ?_) (fun g7 => ?_)
                            · wtm_at "wp"
                              refine kn ?_ _ S5
                              rw [ec, if_pos ⟨hb6, by omega⟩]
                            · wtm_at "wp"
                              refine lc_fin (fin_list (xs := xr)) (fun i acc H' => Same H5 H' ∧ acc = (((dr.take i).map (cnt m)).map cntI).map V.int) (fun D H2 nD s2 hD => ⟨s2, rfl⟩) (fun i acc H2 _ h => .of (h.1 _ _ h45)) ?_ ?_
                              · rintro D i v acc H6 H7 nD hi hac ⟨s6, e6⟩ hD ⟨rfl, hv⟩
                                obtain ⟨d, q1, q2⟩ := rr5.at hv
                                wtm_at "wp"
                                refine ⟨rfl, ?_⟩
                                wtm_at "wp"
                                have en : (((m + 1 : Nat) : Int) - 1) = ((m : Nat) : Int) := by omega
                                rw [en]
                                refine ⟨v, m, L', d, rfl, by omega, q2.same s6, fitr d (List.mem_of_getElem? q1), by omega, fun H8 s8 => ?_⟩
                                refine w_acc (s8 _ _ hD) hac hi (sz (by omega)) (fun H9 k9 h9 => ⟨k9.same (s6.trans s8) nD, ?_⟩)
                                rw [e6, take_succL q1]
                                simp
                              · rintro D acc H6 nD ⟨s6, e6⟩ hac hD
                                rw [hln, List.take_length] at e6
                                subst e6
                                have S6 := S5.trans s6
                                wtm_at "wp"
                                refine ⟨D, (dr.map (cnt m)).map cntI, rfl, .of hD, ?_⟩
                                wtm_at "wp"
                                rename_i l7 n7 H7 s7 h7
                                refine w_inV (.inl (.of (s7 _ _ hD))) rfl (cntI_flat _) ?_
                                rw [cntI_in]
                                cases hs : (dr.map (cnt m)).all (·.isSome) with
                                | true =>
                                  obtain ⟨ms, hms⟩ := cnt_all hs
                                  wtm_at "wp"
                                  have e8 : ((dr.map (cnt m)).map cntI).sum = ((ms.sum : Nat) : Int) := by
                                    rw [hms, List.map_map, ← sum_cast ms]
                                    rfl
                                  rw [e8]
                                  refine k' (o := some ms.sum) ?_ _ (S6.trans s7)
                                  rw [joined ⟨by omega, by omega⟩ (fun _ => by omega)]
                                  unfold joinC
                                  rw [if_pos ⟨by rw [List.length_map]; omega, by rw [List.length_map]; omega, hs⟩, hms]
                                  simp
                                | false =>
                                  wtm_at "wp"
                                  refine kn ?_ _ (S6.trans s7)
                                  rw [joined ⟨by omega, by omega⟩ (fun _ => by omega)]
                                  unfold joinC
                                  rw [if_neg (fun z => by rw [hs] at z; exact absurd z.2.2 Bool.false_ne_true)]
                          · wtm_at "wp"
                            refine lc_fin (fin_list (xs := xr)) (fun i acc H' => Same H5 H' ∧ acc = (((dr.take i).map (cnt m)).map cntI).map V.int) (fun D H2 nD s2 hD => ⟨s2, rfl⟩) (fun i acc H2 _ h => .of (h.1 _ _ h45)) ?_ ?_
                            · rintro D i v acc H6 H7 nD hi hac ⟨s6, e6⟩ hD ⟨rfl, hv⟩
                              obtain ⟨d, q1, q2⟩ := rr5.at hv
                              wtm_at "wp"
                              refine ⟨rfl, ?_⟩
                              wtm_at "wp"
                              have en : (((m + 1 : Nat) : Int) - 1) = ((m : Nat) : Int) := by omega
                              rw [en]
                              refine ⟨v, m, L', d, rfl, by omega, q2.same s6, fitr d (List.mem_of_getElem? q1), by omega, fun H8 s8 => ?_⟩
                              refine w_acc (s8 _ _ hD) hac hi (sz (by omega)) (fun H9 k9 h9 => ⟨k9.same (s6.trans s8) nD, ?_⟩)
                              rw [e6, take_succL q1]
                              simp
                            · rintro D acc H6 nD ⟨s6, e6⟩ hac hD
                              rw [hln, List.take_length] at e6
                              subst e6
                              have S6 := S5.trans s6
                              wtm_at "wp"
                              refine ⟨D, (dr.map (cnt m)).map cntI, rfl, .of hD, ?_⟩
                              wtm_at "wp"
                              rename_i l7 n7 H7 s7 h7
                              refine w_inV (.inl (.of (s7 _ _ hD))) rfl (cntI_flat _) ?_
                              rw [cntI_in]
                              cases hs : (dr.map (cnt m)).all (·.isSome) with
                              | true =>
                                obtain ⟨ms, hms⟩ := cnt_all hs
                                wtm_at "wp"
                                have e8 : ((dr.map (cnt m)).map cntI).sum = ((ms.sum : Nat) : Int) := by
                                  rw [hms, List.map_map, ← sum_cast ms]
                                  rfl
                                rw [e8]
                                refine k' (o := some ms.sum) ?_ _ (S6.trans s7)
                                rw [joined ⟨by omega, by omega⟩ (fun z => absurd (by rw [z]) g6)]
                                unfold joinC
                                rw [if_pos ⟨by rw [List.length_map]; omega, by rw [List.length_map]; omega, hs⟩, hms]
                                simp
                              | false =>
                                wtm_at "wp"
                                refine kn ?_ _ (S6.trans s7)
                                rw [joined ⟨by omega, by omega⟩ (fun z => absurd (by rw [z]) g6)]
                                unfold joinC
                                rw [if_neg (fun z => by rw [hs] at z; exact absurd z.2.2 Bool.false_ne_true)]
                        · refine iteT' (by rw [decide_eq_false g5]; rfl) ?_
                          wtm_at "wp"
                          exact kn (nojoin (fun z => by omega)) _ S5
                      · wtm_at "wp"
                        exact kn (nojoin (fun z => by omega)) _ S5
                    · rw [decide_eq_false hk]
                      wtm_at "wp"
                      exact kn (cnt_k e1 e2 e3 hk) _ S5

end
end K24

namespace K24
section
variable {P : Program} {w : World} {K : PySem.W.Frag} {mg : Str → Option Value} {base : Heap} {Z : Zs} {C_QueryReader : Addr}
abbrev s_law_bent_query : Stmt := topS 55
theorem sc_law_bent_query : FnScope ["_law_pool_here", "_law_query_here", "_law_sort", "_law_at", "_law_odd", "_law_one"] ["_law_pool_here", "_law_query_here"] (defScope s_law_bent_query) := ⟨rfl, rfl, rfl, by decide +kernel, rfl, by decide +kernel, by decide +kernel⟩
/-- a query with one thing otherwise -/
def spBent (N : Nat) : Sp := fun vs H Q _ => ∃ (p a : Addr) (S : Addr → Prop) (c l n : Nat) (ds : List PyData), vs = [.ref p, .ref a] ∧ S p ∧ SL S H ∧ Pool H p c ∧ c + 4 * N ≤ 10 ^ 7 ∧ RpX S H (.ref a) (.tuple ds) ∧ 2 ≤ l ∧ l ≤ 500 ∧ n ≤ N ∧ Lim l n (.tuple ds) ∧ ds ≠ [] ∧
  ∀ v' d' H', KB p H H' → Pool H' p (c + 4 * N) → SL S H' → RpX S H' v' d' → Lim (l + 1) (n + 1) d' → Q v' H'
theorem spBent0 : ∀ vs H Q E, ¬ spBent 0 vs H Q E := fun vs H Q E ⟨p, a, S, c, l, n, ds, _, _, _, _, _, _, _, _, hn, h, _⟩ => by
  have : n = 0 := by omega
  subst this
  exact h.no0
theorem ok_bentS {N k0 : Nat} (hN : N ≤ 40) {f : Addr} {fd : FuncData} (F : Fun K "_law_bent_query" "_law_bent_query" s_law_bent_query f fd) (T : Txt K mg Z C_QueryReader) (f__law_take : Fn P w K mg base "_law_take" 1 ["_law_pool_here", "_law_many_here"] spTake) (f__law_bent_query : Fn P w K mg base "_law_bent_query" (k0 + 1) ["_law_pool_here", "_law_query_here"] (spBent N)) : FnOk P w K mg base CX0 (k0 + 2) f fd ["_law_pool_here", "_law_query_here"] (spBent (N + 1)) := by
  refine F.ok sc_law_bent_query (fun vs H Q E h => ?_) (fun cdv A outer s H vs Q E hr h => ?_)
  · obtain ⟨p, a, S, c, l, n, ds, rfl, _⟩ := h
    rfl
  · obtain ⟨p, a, S, c, l, n, ds, rfl, hSp, hS, hp, hc, hR, hl2, hl5, hnN, hL, hne, k⟩ := h
    obtain ⟨m, rfl⟩ : ∃ m, n = m + 1 := ⟨n - 1, by
      have : n ≠ 0 := fun z => by subst z; exact hL.no0
      omega⟩
    have hc' : c + 4 * (N + 1) ≤ 10000000 := hc
    obtain ⟨hdl, hparts⟩ := hL.parts
    obtain ⟨xs, ha, rx⟩ := hR.things hS
    have hxl := rx.length
    have tnp : ∀ {J : Hp} {n : Nat} {t : Addr} {ys : List V}, Pool J p n → J t = some (.tup ys) → t ≠ p := fun hJ ht z => by
      obtain ⟨ys', h'⟩ := hJ.at
      rw [z, h'] at ht
      cases ht
    have hnap : a ≠ p := tnp hp ha
    have fin : ∀ v' d' H' n', KB p H H' → Pool H' p n' → n' ≤ c + 4 * (N + 1) → RpX S H' v' d' → Lim (l + 1) (m + 1 + 1) d' → Q v' H' := fun v' d' H' n' kk pp hn rr ll => k v' d' H' kk (pp.le hn) (hS.kb kk pp.at) rr ll
    have old : ∀ e ∈ ds, Lim (l + 1) (m + 1) e := fun e he => (hparts e he).mono (by omega) (by omega)
    have old1 : ∀ n, ∀ e ∈ ds.take n, Lim (l + 1) (m + 1) e := fun n e he => old e (List.mem_of_mem_take he)
    have old2 : ∀ n, ∀ e ∈ ds.drop n, Lim (l + 1) (m + 1) e := fun n e he => old e (List.mem_of_mem_drop he)
    have hpos : 0 < ds.length := by
      cases ds with
      | nil => exact absurd rfl hne
      | cons _ _ => simp
    refine ⟨_, (pss_cons (ps_set (i := 2) sc_law_bent_query.nd rfl (.inl rfl) (pe_fn f__law_take (hr.mono (by omega)) rfl (pa_cons (pv 0) (pa_cons pe_int pa_nil))))
 (pss_cons (ps_set (i := 3) sc_law_bent_query.nd rfl (.inl rfl) (pe_fn f__law_take (hr.mono (by omega)) rfl (pa_cons (pv 0) (pa_cons (pe_callB cl_len (by rfl) T.n_len PySem.boot_len (pa_cons (pv 1) pa_nil)) pa_nil))))
 (pss_cons (ps_if (PW.pt (pw_and (pt_cmpR op_lt (pv 2) pe_int (nomark _)) (pw_and (pt_val (pe_callB call_isi (by rfl) T.n_isinstance PyProof.Rows.boot_isinstance (pa_cons (pe_ix ix_tup (pv 1) (pv 3) (fun _ _ => rfl)) (pa_cons (pe_bltn (v := .ty "tuple") (by rfl) T.n_tuple PyProof.Rows.boot_tuple rfl) pa_nil)))) (pw_and1 (pt_cmpR (op_neD hr.units) (pe_ix ix_tup (pv 1) (pv 3) (fun _ _ => rfl)) (pe_tup pa_nil) (nomark _))))))
 (pss_one (ps_ret (pe_op op_catA (pe_op op_catA (pe_slice sl_tupA (pv 1) po_none (po_some (pv 3))) (pe_tup (pa_cons (pe_fn f__law_bent_query (hr.mono (by omega)) rfl (pa_cons (pv 0) (pa_cons (pe_ix ix_tup (pv 1) (pv 3) (fun _ _ => rfl)) pa_nil))) pa_nil))) (pe_slice sl_tupA (pv 1) (po_some (pe_op op_add (pv 3) pe_int)) po_none))))
 pss_nil)
 (pss_cons (ps_set (i := 4) sc_law_bent_query.nd rfl (.inl rfl) (pe_lst (pa_cons pe_str (pa_cons pe_str (pa_cons pe_non (pa_cons pe_bl (pa_cons pe_int (pa_cons pe_int (pa_cons (pe_un un_neg pe_int) (pa_cons (pe_tup (pa_cons pe_str (pa_cons pe_str pa_nil))) (pa_cons (pe_lst (pa_cons pe_str (pa_cons pe_str pa_nil))) (pa_cons pe_str (pa_cons pe_str (pa_cons pe_int (pa_cons pe_str (pa_cons pe_str (pa_cons (pe_tup pa_nil) pa_nil)))))))))))))))))
 (pss_cons (ps_set (i := 4) sc_law_bent_query.nd rfl (.inl rfl) (pe_op op_cat (pv 4) (pe_lst (pa_cons pe_str (pa_cons pe_str pa_nil)))))
 (pss_cons (ps_set (i := 5) sc_law_bent_query.nd rfl (.inl rfl) (pe_ix ix_list (pv 4) (pe_fn f__law_take (hr.mono (by omega)) rfl (pa_cons (pv 0) (pa_cons pe_int pa_nil))) (fun _ _ => rfl)))
 (pss_cons (ps_if (pt_cmpR op_lt (pv 2) pe_int (nomark _))
 (pss_one (ps_ret (pe_op op_catA (pe_op op_catA (pe_slice sl_tupA (pv 1) po_none (po_some (pv 3))) (pe_tup (pa_cons (pv 5) pa_nil))) (pe_slice sl_tupA (pv 1) (po_some (pe_op op_add (pv 3) pe_int)) po_none))))
 pss_nil)
 (pss_cons (ps_if (pt_cmpR op_eq (pv 2) pe_int (nomark _))
 (pss_one (ps_ret (pe_op op_catA (pe_op op_catA (pe_slice sl_tupA (pv 1) po_none (po_some (pv 3))) (pe_tup (pa_cons (pv 5) pa_nil))) (pe_slice sl_tupA (pv 1) (po_some (pv 3)) po_none))))
 pss_nil)
 (pss_cons (ps_if (pt_cmpR op_eq (pv 2) pe_int (nomark _))
 (pss_one (ps_ret (pe_op op_catA (pe_slice sl_tupA (pv 1) po_none (po_some (pv 3))) (pe_slice sl_tupA (pv 1) (po_some (pe_op op_add (pv 3) pe_int)) po_none))))
 pss_nil)
 (pss_cons (ps_if (pt_cmpR op_eq (pv 2) pe_int (nomark _))
 (pss_one (ps_ret (pe_ix ix_list (pe_lst (pa_cons (pe_callTy cl_list (by rfl) T.n_list PyProof.Rows.boot_list (pa_cons (pv 1) pa_nil)) (pa_cons pe_non (pa_cons pe_str (pa_cons pe_int (pa_cons pe_bl (pa_cons (pe_tup (pa_cons (pv 1) pa_nil)) (pa_cons (pe_tup pa_nil) pa_nil)))))))) (pe_fn f__law_take (hr.mono (by omega)) rfl (pa_cons (pv 0) (pa_cons pe_int pa_nil))) (fun _ _ => rfl))))
 pss_nil)
 (pss_one (ps_ret (pe_tup (pa_cons pe_str (pa_cons (pv 1) (pa_cons (pv 1) pa_nil)))))))))))))))), ?_⟩
    wtm_at "w0"
    wtm_at "wp"
    refine ⟨p, 12, _, rfl, hp, by omega, by decide, by decide, fun so H1 so0 so1 k1 p1 => ?_⟩
    have ha1 := k1 _ _ ha hnap
    wtm_at "wp"
    refine w_lenT (.of ha1) ?_
    wtm_at "wp"
    refine ⟨p, _, _, rfl, p1, by omega, by omega, by omega, fun d2 H2 d20 d21 k2 p2 => ?_⟩
    obtain ⟨i, rfl⟩ := Int.eq_ofNat_of_zero_le d20
    have hi : i < xs.length := by omega
    have ha2 := k2 _ _ ha1 hnap
    have K2 : KB p H H2 := k1.trans k2
    have rx2 := rx.ks (KS.kb hSp K2)
    obtain ⟨v0, d0, hv0, hd0, r0⟩ : ∃ v0 d0, xs[i]? = some v0 ∧ ds[i]? = some d0 ∧ RpX S H2 v0 d0 := by
      obtain ⟨d0, h1, h2⟩ := rx2.at (List.getElem?_eq_getElem hi)
      exact ⟨_, d0, List.getElem?_eq_getElem hi, h1, h2⟩
    have hL0 : Lim l m d0 := hparts d0 (List.mem_of_getElem? hd0)
    wtm_at "wq"
    refine w_ifX (fun b H' => Same H2 H' ∧ (b = true → ∃ a0 es, v0 = .ref a0 ∧ d0 = .tuple es ∧ es ≠ [])) (fun QB qb => ?_) ?_
    · wtm_at "wp"
      refine w_dec (fun g1 => ?_) (fun g1 => ?_)
      · wtm_at "wp"
        refine w_ixT (.of ha2) (atI_nat hv0) ?_
        have rr0 := r0.rp
        cases rr0 with
        | non => wtm_at "wp"; exact qb _ _ ⟨.refl _, fun z => by cases z⟩
        | bl b => wtm_at "wp"; exact qb _ _ ⟨.refl _, fun z => by cases z⟩
        | int b => wtm_at "wp"; exact qb _ _ ⟨.refl _, fun z => by cases z⟩
        | str b => wtm_at "wp"; exact qb _ _ ⟨.refl _, fun z => by cases z⟩
        | lst h r => wtm_at "wp"; exact qb _ _ ⟨.refl _, fun z => by cases z⟩
        | @tup a0 ys es h0 r =>
          wtm_at "wp"
          refine w_ixT (.of ha2) (atI_nat hv0) ?_
          wtm_at "wp"
          rename_i q3 n3 H3 s3 h3
          refine w_neD (same_dp s3 (Rp.tup h0 r).dp) (.tup (.of h3) .nil) ((hL0.fit (by omega)).good.shaped (by omega)) (by simp [SeqAt.shaped, PyData.canLay0, PyData.canLayAll0, PyData.depth, PyData.depthAll]) (k := es.isEmpty) (by cases es <;> simp [PyData.eqv, PyData.eqvAll]) ?_
          refine ⟨_, rfl, ?_⟩
          refine qb _ _ ⟨s3, fun z => ⟨a0, es, rfl, rfl, fun e => ?_⟩⟩
          rw [e] at z
          cases z
      · exact qb _ _ ⟨.refl _, fun z => by cases z⟩
    · rintro b H3 ⟨s3, hb⟩
      have ha3 := s3 _ _ ha2
      have p3 := p2.mono s3 (Nat.le_refl _)
      have rx3 := rx2.same s3
      have r03 := r0.same s3
      have K3 : KB p H H3 := K2.trans (KB.of s3)
      cases b with
      | true =>
        obtain ⟨a0, es, rfl, rfl, hes⟩ := hb rfl
        refine iteT' rfl ?_
        wtm_at "wp"
        refine w_slA1 ha3 (by omega) (fun t4 H4 s4 h4 => ?_)
        have p4 := p3.mono s4 (Nat.le_refl _)
        have ha4 := s4 _ _ ha3
        wtm_at "wp"
        refine w_ixT (.of ha4) (atI_nat hv0) ?_
        wtm_at "wp"
        refine ⟨p, a0, S, _, l, m, es, rfl, hSp, hS.kb (K3.trans (KB.of s4)) p4.at, p4, by show _ ≤ 10000000; omega, r03.same s4, hl2, hl5, by omega, hL0, hes, fun v5 d5 H5 k5 p5 S5 r5 l5 => ?_⟩
        have h45 := k5 _ _ h4 (tnp p4 h4)
        have ha5 := k5 _ _ ha4 hnap
        have rx5 := (rx3.same s4).ks (KS.kb hSp k5)
        wtm_at "wp"
        rename_i t6 n6 H6 s6 h6
        refine w_catA (s6 _ _ h45) h6 (by simp; omega) (fun t7 H7 s7 h7 => ?_)
        wtm_at "wp"
        have ei : (i : Int) + 1 = ((i + 1 : Nat) : Int) := by omega
        rw [ei]
        refine w_slA2 (s7 _ _ (s6 _ _ ha5)) (by omega) (fun t8 H8 s8 h8 => ?_)
        refine w_catA (s8 _ _ h7) h8 (by simp; omega) (fun t9 H9 s9 h9 => ?_)
        have S9 := s6.trans (s7.trans (s8.trans s9))
        have p9 := p5.mono S9 (Nat.le_refl _)
        have rx9 := rx5.same S9
        refine fin _ (.tuple ((ds.take i ++ [d5]) ++ ds.drop (i + 1))) H9 _ (K3.trans ((KB.of s4).trans (k5.trans (KB.of S9)))) p9 (by omega) (RpX.tup (S5.same S9) h9 (((rx9.take i).append (.cons (r5.same S9) .nil)).append (rx9.drop (i + 1)))) (Lim.tuple (by simp; omega) (fun e he => ?_))
        rcases List.mem_append.mp he with he | he
        · rcases List.mem_append.mp he with he | he
          · exact old1 i e he
          · rw [List.mem_singleton.mp he]
            exact l5
        · exact old2 _ e he
      | false =>
        refine iteF' rfl ?_
        wtm_at "wp"
        rename_i t4 n4 H4 s4 h4 l5 n5 H5 s5 h5 t6 n6 H6 s6 h6 l7 n7 H7 s7 h7 l8 n8 H8 s8 h8 l9 H9 n9 s9 h9
        have S39 : Same H3 H9 := s4.trans (s5.trans (s6.trans (s7.trans (s8.trans s9))))
        have p9 := p3.mono S39 (Nat.le_refl _)
        refine ⟨p, 17, _, rfl, p9, by omega, by decide, by decide, fun o10 H10 o100 o101 k10 p10 => ?_⟩
        have fresh : ∀ {J : Hp} {t : Addr}, Same H3 J → J t = none → t ≠ p := fun sj h z => by
          obtain ⟨ys', h'⟩ := p3.at
          rw [z, sj _ _ h'] at h
          cases h
        have nl5 := fresh s4 n5
        have S3' := hS.kb K3 p3.at
        have ml5 : ¬ S l5 := (S3'.same s4).fresh n5
        have nl9 := fresh (s4.trans (s5.trans (s6.trans (s7.trans s8)))) n9
        have f4 := s9 _ _ (s8 _ _ (s7 _ _ (s6 _ _ (s5 _ _ h4))))
        have f5 := s9 _ _ (s8 _ _ (s7 _ _ (s6 _ _ h5)))
        have f6 := s9 _ _ (s8 _ _ (s7 _ _ h6))
        have f9 := k10 _ _ h9 nl9
        have hp10 := p10.at.choose_spec
        have hS10 := (S3'.same S39).kb k10 p10.at
        have ha10 := k10 _ _ (S39 _ _ ha3) hnap
        have rx10 := (rx3.same S39).ks (KS.kb hSp k10)
        have K10 : KB p H H10 := K3.trans ((KB.of S39).trans k10)
        have wa : ∀ e ∈ [PyData.str "word", PyData.str "a"], Lim 2 0 e := fun e he => by
          simp only [List.mem_cons, List.not_mem_nil, or_false] at he
          rcases he with rfl | rfl <;> exact flat_of (by decide +kernel)
        obtain ⟨oj, rfl⟩ := Int.eq_ofNat_of_zero_le o100
        obtain ⟨vo, do_, hat, ro, lo⟩ : ∃ vo do_, atI [V.str "", V.str "A", V.non, V.bl true, V.int 0, V.int 21, V.int (-1), V.ref t4, V.ref l5, V.str "word", V.str "and", V.int 2, V.str "a", V.str "but", V.ref t6, V.str "near", V.str "phrase"] (oj : Int) = some vo ∧ RpX S H10 vo do_ ∧ Lim 2 1 do_ := by
          have hoj : oj < 17 := by omega
          match oj, hoj with
          | 0, _ => exact ⟨_, _, rfl, .str _, Lim.flat (flat_of (by decide +kernel))⟩
          | 1, _ => exact ⟨_, _, rfl, .str _, Lim.flat (flat_of (by decide +kernel))⟩
          | 2, _ => exact ⟨_, _, rfl, .non, Lim.flat (flat_of rfl)⟩
          | 3, _ => exact ⟨_, _, rfl, .bl _, Lim.flat (flat_of rfl)⟩
          | 4, _ => exact ⟨_, _, rfl, .int _, Lim.flat (flat_of rfl)⟩
          | 5, _ => exact ⟨_, _, rfl, .int _, Lim.flat (flat_of rfl)⟩
          | 6, _ => exact ⟨_, _, rfl, .int _, Lim.flat (flat_of rfl)⟩
          | 7, _ => exact ⟨_, _, rfl, RpX.tup hS10 (k10 _ _ f4 (tnp p9 f4)) (.cons (.str _) (.cons (.str _) .nil)), Lim.tuple (by simp) wa⟩
          | 8, _ => exact ⟨_, _, rfl, RpX.lst ml5 (k10 _ _ f5 nl5) (.cons (.str _) (.cons (.str _) .nil)), Lim.list (by simp) wa⟩
          | 9, _ => exact ⟨_, _, rfl, .str _, Lim.flat (flat_of (by decide +kernel))⟩
          | 10, _ => exact ⟨_, _, rfl, .str _, Lim.flat (flat_of (by decide +kernel))⟩
          | 11, _ => exact ⟨_, _, rfl, .int _, Lim.flat (flat_of rfl)⟩
          | 12, _ => exact ⟨_, _, rfl, .str _, Lim.flat (flat_of (by decide +kernel))⟩
          | 13, _ => exact ⟨_, _, rfl, .str _, Lim.flat (flat_of (by decide +kernel))⟩
          | 14, _ => exact ⟨_, _, rfl, RpX.tup hS10 (k10 _ _ f6 (tnp p9 f6)) .nil, Lim.tuple (by simp) (fun e he => absurd he (by simp))⟩
          | 15, _ => exact ⟨_, _, rfl, .str _, Lim.flat (flat_of (by decide +kernel))⟩
          | 16, _ => exact ⟨_, _, rfl, .str _, Lim.flat (flat_of (by decide +kernel))⟩
        have lo' : Lim (l + 1) (m + 1) do_ := lo.mono (by omega) (by omega)
        refine w_ixL (.of f9) hat ?_
        have ei : (i : Int) + 1 = ((i + 1 : Nat) : Int) := by omega
        have hR10 := hR.ks (KS.kb hSp K10)
        have hL10 : Lim (l + 1) (m + 1) (.tuple ds) := hL.mono (by omega) (by omega)
        wtm_at "wp"
        refine w_dec (fun g1 => ?_) (fun g1 => ?_)
        · wtm_at "wp"
          refine w_slA1 ha10 (by omega) (fun t12 H12 s12 h12 => ?_)
          wtm_at "wp"
          rename_i t13 n13 H13 s13 h13
          refine w_catA (s13 _ _ h12) h13 (by simp; omega) (fun t14 H14 s14 h14 => ?_)
          wtm_at "wp"
          rw [ei]
          refine w_slA2 (s14 _ _ (s13 _ _ (s12 _ _ ha10))) (by omega) (fun t15 H15 s15 h15 => ?_)
          refine w_catA (s15 _ _ h14) h15 (by simp; omega) (fun t16 H16 s16 h16 => ?_)
          have S16 := s12.trans (s13.trans (s14.trans (s15.trans s16)))
          have p16 := p10.mono S16 (Nat.le_refl _)
          have rx16 := rx10.same S16
          refine fin _ (.tuple ((ds.take i ++ [do_]) ++ ds.drop (i + 1))) H16 _ (K10.trans (KB.of S16)) p16 (by omega) (RpX.tup (hS10.same S16) h16 (((rx16.take i).append (.cons (ro.same S16) .nil)).append (rx16.drop _))) (Lim.tuple (by simp; omega) (fun e he => ?_))
          rcases List.mem_append.mp he with he | he
          · rcases List.mem_append.mp he with he | he
            · exact old1 i e he
            · rw [List.mem_singleton.mp he]
              exact lo'
          · exact old2 _ e he
        wtm_at "wp"
        refine w_dec (fun g2 => ?_) (fun g2 => ?_)
        · wtm_at "wp"
          refine w_slA1 ha10 (by omega) (fun t12 H12 s12 h12 => ?_)
          wtm_at "wp"
          rename_i t13 n13 H13 s13 h13
          refine w_catA (s13 _ _ h12) h13 (by simp; omega) (fun t14 H14 s14 h14 => ?_)
          wtm_at "wp"
          refine w_slA2 (s14 _ _ (s13 _ _ (s12 _ _ ha10))) (by omega) (fun t15 H15 s15 h15 => ?_)
          refine w_catA (s15 _ _ h14) h15 (by simp; omega) (fun t16 H16 s16 h16 => ?_)
          have S16 := s12.trans (s13.trans (s14.trans (s15.trans s16)))
          have p16 := p10.mono S16 (Nat.le_refl _)
          have rx16 := rx10.same S16
          refine fin _ (.tuple ((ds.take i ++ [do_]) ++ ds.drop i)) H16 _ (K10.trans (KB.of S16)) p16 (by omega) (RpX.tup (hS10.same S16) h16 (((rx16.take i).append (.cons (ro.same S16) .nil)).append (rx16.drop _))) (Lim.tuple (by simp; omega) (fun e he => ?_))
          rcases List.mem_append.mp he with he | he
          · rcases List.mem_append.mp he with he | he
            · exact old1 i e he
            · rw [List.mem_singleton.mp he]
              exact lo'
          · exact old2 _ e he
        wtm_at "wp"
        refine w_dec (fun g3 => ?_) (fun g3 => ?_)
        · wtm_at "wp"
          refine w_slA1 ha10 (by omega) (fun t12 H12 s12 h12 => ?_)
          wtm_at "wp"
          rw [ei]
          refine w_slA2 (s12 _ _ ha10) (by omega) (fun t15 H15 s15 h15 => ?_)
          refine w_catA (s15 _ _ h12) h15 (by simp; omega) (fun t16 H16 s16 h16 => ?_)
          have S16 := s12.trans (s15.trans s16)
          have p16 := p10.mono S16 (Nat.le_refl _)
          have rx16 := rx10.same S16
          refine fin _ (.tuple (ds.take i ++ ds.drop (i + 1))) H16 _ (K10.trans (KB.of S16)) p16 (by omega) (RpX.tup (hS10.same S16) h16 ((rx16.take i).append (rx16.drop _))) (Lim.tuple (by simp; omega) (fun e he => ?_))
          rcases List.mem_append.mp he with he | he
          · exact old1 i e he
          · exact old2 _ e he
        wtm_at "wp"
        refine w_dec (fun g4 => ?_) (fun g4 => ?_)
        · wtm_at "wp"
          refine w_listOfT (.of ha10) (fun l12 H12 n12 s12 h12 => ?_)
          wtm_at "wp"
          rename_i t13 n13 H13 s13 h13 t14 n14 H14 s14 h14 l15 n15 H15 s15 h15
          have S15 := s12.trans (s13.trans (s14.trans s15))
          have p15 := p10.mono S15 (Nat.le_refl _)
          refine ⟨p, 7, _, rfl, p15, by omega, by decide, by decide, fun o16 H16 o160 o161 k16 p16 => ?_⟩
          have hS16 := (hS10.same S15).kb k16 p16.at
          have ml12 : ¬ S l12 := hS10.fresh n12
          have fresh' : ∀ {J : Hp} {t : Addr}, Same H10 J → J t = none → t ≠ p := fun sj h z => by
            rw [z, sj _ _ hp10] at h
            cases h
          have nl12 := fresh' (.refl _) n12
          have nl15 := fresh' (s12.trans (s13.trans s14)) n15
          have K16 : KB p H10 H16 := (KB.of S15).trans k16
          obtain ⟨oj, rfl⟩ := Int.eq_ofNat_of_zero_le o160
          have g12 := k16 _ _ (s15 _ _ (s14 _ _ (s13 _ _ h12))) nl12
          have q13 := s15 _ _ (s14 _ _ h13)
          have g13 := k16 _ _ q13 (tnp p15 q13)
          have q14 := s15 _ _ h14
          have g14 := k16 _ _ q14 (tnp p15 q14)
          obtain ⟨vr, dr, hat', rr, lr⟩ : ∃ vr dr, atI [V.ref l12, V.non, V.str "word", V.int 3, V.bl true, V.ref t13, V.ref t14] (oj : Int) = some vr ∧ RpX S H16 vr dr ∧ Lim (l + 1) (m + 1 + 1) dr := by
            have hoj : oj < 7 := by omega
            match oj, hoj with
            | 0, _ => exact ⟨_, _, rfl, RpX.lst ml12 g12 (rx10.ks (KS.kb hSp K16)), Lim.list (by omega) old⟩
            | 1, _ => exact ⟨_, _, rfl, .non, Lim.flat (flat_of rfl)⟩
            | 2, _ => exact ⟨_, _, rfl, .str _, Lim.flat (flat_of (by decide +kernel))⟩
            | 3, _ => exact ⟨_, _, rfl, .int _, Lim.flat (flat_of rfl)⟩
            | 4, _ => exact ⟨_, _, rfl, .bl _, Lim.flat (flat_of rfl)⟩
            | 5, _ => exact ⟨_, _, rfl, RpX.tup hS16 g13 (.cons (hR10.ks (KS.kb hSp K16)) .nil), Lim.tuple (by simp) (fun e he => by rw [List.mem_singleton.mp he]; exact hL10)⟩
            | 6, _ => exact ⟨_, _, rfl, RpX.tup hS16 g14 .nil, Lim.tuple (by simp) (fun e he => absurd he (by simp))⟩
          refine w_ixL (.of (k16 _ _ h15 nl15)) hat' ?_
          exact fin _ _ _ _ (K10.trans K16) p16 (by omega) rr lr
        wtm_at "wp"
        rename_i t12 n12 H12 s12 h12
        have p12 := p10.mono s12 (Nat.le_refl _)
        refine fin _ _ _ _ (K10.trans (KB.of s12)) p12 (by omega) (RpX.tup (hS10.same s12) h12 (.cons (.str _) (.cons (hR10.same s12) (.cons (hR10.same s12) .nil)))) (Lim.tuple (by simp; omega) (fun e he => ?_))
        simp only [List.mem_cons, List.not_mem_nil, or_false] at he
        rcases he with rfl | rfl | rfl
        · exact Lim.flat (flat_of (by decide +kernel))
        · exact hL10
        · exact hL10

end
end K24

namespace K24
section
variable {P : Program} {w : World} {K : PySem.W.Frag} {mg : Str → Option Value} {base : Heap} {Z : Zs} {C_QueryReader : Addr}
abbrev s_text_in : Stmt := topS 41
theorem sc_text_in : FnScope ["query", "kind", "parts", "words", "sign", "told", "part"] ["query"] (defScope s_text_in) := ⟨rfl, rfl, rfl, by decide +kernel, rfl, by decide +kernel, by decide +kernel⟩
abbrev s_show : Stmt := topS 42
theorem sc_show : FnScope ["query"] ["query"] (defScope s_show) := ⟨rfl, rfl, rfl, by decide +kernel, rfl, by decide +kernel, by decide +kernel⟩
abbrev s_law_text : Stmt := topS 56
theorem sc_law_text : FnScope ["_law_query_here", "_law_sign", "_law_part"] ["_law_query_here"] (defScope s_law_text) := ⟨rfl, rfl, rfl, by decide +kernel, rfl, by decide +kernel, by decide +kernel⟩
def sg1 (k : Str) : Str := if k = "and" then "&" else if k = "or" then "|" else "-"
def Sig (K : PySem.W.Frag) (w : World) (D : Addr) : Prop := ∀ k : Str, (k = "and" ∨ k = "or" ∨ k = "but") → KDct K w D k (.str (sg1 k))
def spTx (K : PySem.W.Frag) (N : Nat) : Sp := fun vs H Q _ => ∃ (v : V) (n m : Nat) (d : PyData), vs = [v] ∧ n ≤ N ∧ Rp H v d ∧ cnt n d = some m ∧ m ≤ 100 ∧ ∀ H', Same H H' → Q (.str (txS n d)) H'
theorem spTx0 : ∀ vs H Q E, ¬ spTx K 0 vs H Q E := fun vs H Q E ⟨v, n, m, d, _, hn, _, hc, _⟩ => by
  have : n = 0 := by omega
  rw [this] at hc
  cases hc
theorem tx_length {n m : Nat} {d : PyData} (h : cnt n d = some m) : (txS n d).length + 5 ≤ 30 * m := tx_len h
theorem ok_txS {N k0 : Nat} {f : Addr} {fd : FuncData} {D_SIGNS : Addr} (F : Fun K "text_in" "text_in" s_text_in f fd) (T : Txt K mg Z C_QueryReader) (kc_SIGNS : mg "SIGNS" = some (.ref D_SIGNS)) (sig : Sig K w D_SIGNS) (f_text_in : Fn P w K mg base "text_in" k0 ["query"] (spTx K N)) : FnOk P w K mg base CX0 (k0 + 1) f fd ["query"] (spTx K (N + 1)) := by
  refine F.ok sc_text_in (fun vs H Q E h => ?_) (fun cdv A outer s H vs Q E hr h => ?_)
  · obtain ⟨v, n, m, d, rfl, _⟩ := h
    rfl
  · obtain ⟨v, n, m, d, rfl, hn, hR, hc, hm, k⟩ := h
    have hn0 : n ≠ 0 := fun z => by rw [z] at hc; cases hc
    obtain ⟨n, rfl⟩ : ∃ j, n = j + 1 := ⟨n - 1, by omega⟩
    have hqo := cnt_inv hc
    have htl := tx_length hc
    obtain ⟨kk, ps, rfl⟩ : ∃ kk ps, d = .tuple (.str kk :: ps) := by
      cases hqo <;> exact ⟨_, _, rfl⟩
    cases hR with
    | @tup a xs _ ha hr' =>
      cases hr' with
      | @cons x0 _ xr _ rx rr =>
        cases rx
        have hlen := rr.length
        refine ⟨_, (pss_cons (ps_asg (pv 0) (pg_star (k := 1) (after := 0) rfl (pgs_cons (pg_name (i := 1) sc_text_in.nd rfl (.inl rfl)) (pgs_star (pg_name (i := 2) sc_text_in.nd rfl (.inl rfl)) pgs_nil))))
 (pss_cons (ps_if (pt_cmpR op_eq (pv 1) pe_str (nomark _))
 (pss_one (ps_ret (pe_ix ix_list (pv 2) pe_int (fun _ _ => rfl))))
 pss_nil)
 (pss_cons (ps_if (pt_cmpR op_eq (pv 1) pe_str (nomark _))
 (pss_cons (ps_set (i := 3) sc_text_in.nd rfl (.inl rfl) (pe_join pe_str (pv 2)))
 (pss_one (ps_ret (pe_fj (.cons pe_str (.cons (pe_fmt (pv 3)) (.cons pe_str .nil)))))))
 pss_nil)
 (pss_cons (ps_if (pt_cmpR op_eq (pv 1) pe_str (nomark _))
 (pss_one (ps_ret (pe_join pe_str (pe_lst (pa_cons (pe_ix ix_list (pv 2) pe_int (fun _ _ => rfl)) (pa_cons (pe_callTy cl_str (by rfl) T.n_str PyProof.Rows.boot_str (pa_cons (pe_ix ix_list (pv 2) pe_int (fun _ _ => rfl)) pa_nil)) (pa_cons (pe_ix ix_list (pv 2) pe_int (fun _ _ => rfl)) pa_nil)))))))
 pss_nil)
 (pss_cons (ps_set (i := 4) sc_text_in.nd rfl (.inl rfl) (pe_fj (.cons pe_str (.cons (pe_fmt (pe_ix ix_kdict (pe_gcls kc_SIGNS rfl) (pv 1) (fun _ _ => rfl))) (.cons pe_str .nil)))))
 (pss_cons (ps_set (i := 5) sc_text_in.nd rfl (.inl rfl) (pe_join (pv 4) (pe_lc (own := [("part", 6)]) (g := gName 6) (tt := tYes) rfl sc_text_in.nd (show PI _ _ _ (iList K _) from (pi_list (pv 2))) (blkOk_by (own := [("part", 6)]) (N := ["query", "kind", "parts", "words", "sign", "told", "part"]) (sc := defScope s_text_in) (by decide +kernel)) (fun _ _ _ _ _ => pg_name (i := 6) sc_text_in.nd rfl (Or.inl rfl)) (fun _ _ _ _ _ => pts_nil) (fun _ _ _ _ _ => (pe_fn f_text_in (hr.mono (by omega)) rfl (pa_cons (pv 6) pa_nil))))))
 (pss_one (ps_ret (pe_fj (.cons pe_str (.cons (pe_fmt (pv 5)) (.cons pe_str .nil)))))))))))), ?_⟩
        wtm_at "w0"
        wtm_at "wp"
        refine ⟨a, _, rfl, .inl (.of ha), by simp, fun p2 n2 => ?_⟩
        generalize eN : upd H p2 _ = H2
        have s2 := same_gen n2 eN
        have hp2 := at_gen eN
        clear eN
        simp only [List.length_cons, List.take_succ_cons, List.take_zero, List.drop_succ_cons, List.drop_zero, List.cons_append, List.nil_append, Nat.add_sub_cancel, Nat.sub_zero] at hp2 ⊢
        rw [List.drop_of_length_le (Nat.le_refl _)]
        rw [List.take_of_length_le (Nat.le_refl _)] at hp2
        have rr2 := rr.same s2
        wtm_at "wp"
        refine w_dec (fun hk => ?_) (fun hk => ?_)
        · have e1 : kk = "word" := V.str.inj hk
          subst e1
          wtm_at "wp"
          cases hqo with
          | @word w0 hw =>
            cases rr2 with
            | cons r1 r2 =>
              cases r1
              cases r2
              rw [tx_word] at k
              wtm_at "wp"
              exact k _ s2
          | join h1 _ _ => rcases h1 with h | h | h <;> exact absurd h (by decide +kernel)
        · have e1 : ¬ kk = "word" := fun z => hk (by rw [z])
          wtm_at "wp"
          refine w_dec (fun hk2 => ?_) (fun hk2 => ?_)
          · have e2 : kk = "phrase" := V.str.inj hk2
            subst e2
            wtm_at "wp"
            cases hqo with
            | @phrase ws h1 h2 h3 =>
              have ex := rp_strs rr2
              subst ex
              have hsum : (ws.map (·.length)).sum ≤ ws.length * 12 := by
                have := sum_le (l := ws.map (·.length)) (c := 12) (fun y hy => by
                  obtain ⟨z, hz, rfl⟩ := List.mem_map.mp hy
                  exact isW_len (h3 z hz))
                rwa [List.length_map] at this
              rw [tx_phrase] at k htl
              have l1 : (" " : Str).length = 1 := rfl
              have l2 : ("\"" : Str).length = 1 := rfl
              rw [Str.length_append, Str.length_append, l2] at htl
              refine ⟨" ", p2, ws, rfl, rfl, .inl (.of hp2), by rw [l1]; omega, ?_⟩
              wtm_at "wp"
              refine ⟨by decide +kernel, ?_⟩
              wtm_at "wp"
              have l3 : (Str.empty ++ ("\"" : Str)).length = 1 := rfl
              refine .inl ⟨_, rfl, sz (by omega), _, rfl, sz (by rw [Str.length_append, l3]; omega), ?_⟩
              wtm_at "wp"
              refine ⟨sz (by rw [Str.length_append, Str.length_append, l3, l2]; omega), ?_⟩
              wtm_at "wp"
              exact k _ s2
            | join h1 _ _ => rcases h1 with h | h | h <;> exact absurd h (by decide +kernel)
          · have e2 : ¬ kk = "phrase" := fun z => hk2 (by rw [z])
            wtm_at "wp"
            refine w_dec (fun hk3 => ?_) (fun hk3 => ?_)
            · have e3 : kk = "near" := V.str.inj hk3
              subst e3
              cases hqo with
              | @near fa wa wb h1 h2 ha' hb' =>
                cases rr2 with
                | cons r1 rr2 =>
                  cases rr2 with
                  | cons r2 rr2 =>
                    cases rr2 with
                    | cons r3 rr2 =>
                      cases rr2
                      cases r1
                      cases r2
                      cases r3
                      rw [tx_near] at k htl
                      wtm_at "wp"
                      refine ⟨fa, rfl, PySem.Flt.log2_lt_of (by decide) (by omega), ?_⟩
                      wtm_at "wp"
                      rename_i l6 n6 H6 s6 h6
                      have l1 : ("~" : Str).length = 1 := rfl
                      have q1 := isW_len ha'
                      have q2 := isW_len hb'
                      rw [Str.length_append, Str.length_append, Str.length_append, Str.length_append, l1] at htl
                      have q3 : (Str.ofString (toString fa)).length ≤ 2 := far_len fa h1 h2
                      refine ⟨"~", l6, [wa, Str.ofString (toString fa), wb], rfl, rfl, .inl (.of h6), by show wa.length + ((Str.ofString (toString fa)).length + (wb.length + 0)) + 3 * 1 ≤ 16777216; omega, ?_⟩
                      have e9 : Txt.join "~" [wa, Str.ofString (toString fa), wb] = (((wa ++ "~") ++ Str.ofString (toString fa)) ++ "~") ++ wb := str_ext (by
                        rw [jn_join, cps_append, cps_append, cps_append, cps_append]
                        simp [jn])
                      rw [e9]
                      exact k _ (s2.trans s6)
              | join h1 _ _ => rcases h1 with h | h | h <;> exact absurd h (by decide +kernel)
            · have e3 : ¬ kk = "near" := fun z => hk3 (by rw [z])
              have hj : (kk = "and" ∨ kk = "or" ∨ kk = "but") ∧ joinC (ps.map (cnt n)) = some m := by
                cases hqo with
                | word => exact absurd rfl e1
                | phrase => exact absurd rfl e2
                | near => exact absurd rfl e3
                | join h1 h2 h3 => exact ⟨h1, h3⟩
              obtain ⟨hkk, hjc⟩ := hj
              obtain ⟨j1, j2, j3⟩ := join_some hjc
              wtm_at "wp"
              refine ⟨by decide +kernel, ?_⟩
              wtm_at "wp"
              refine ⟨D_SIGNS, kk, _, rfl, rfl, sig kk hkk, ?_⟩
              have ls : (sg1 kk).length = 1 := by
                rcases hkk with rfl | rfl | rfl <;> rfl
              have l1 : (" " : Str).length = 1 := rfl
              have l0 : (Str.empty ++ (" " : Str)).length = 1 := rfl
              refine .inl ⟨_, rfl, sz (by omega), _, rfl, sz (by rw [Str.length_append, l0]; omega), ?_⟩
              wtm_at "wp"
              refine ⟨sz (by rw [Str.length_append, Str.length_append, l0, l1]; omega), ?_⟩
              have es : Str.empty ++ (" " : Str) ++ sg1 kk ++ (" " : Str) = sgnQ kk := by
                rcases hkk with rfl | rfl | rfl <;> decide +kernel
              rw [es]
              wtm_at "wp"
              refine lc_fin (fin_list (xs := xr)) (fun i acc H' => Same H2 H' ∧ acc = ((ps.take i).map (txS n)).map V.str) (fun D H3 nD s3 hD => ⟨s3, rfl⟩) (fun i acc H3 _ h => .of (h.1 _ _ hp2)) ?_ ?_
              · rintro D i v acc H3 H4 nD hi hac ⟨s3, e3'⟩ hD ⟨rfl, hv⟩
                obtain ⟨d, g1, g2⟩ := rr2.at hv
                obtain ⟨c, hc'⟩ := j3 d (List.mem_of_getElem? g1)
                have hcm : c ≤ m := by
                  unfold joinC at hjc
                  split at hjc
                  · cases hjc
                    have hmem : c ∈ (ps.map (cnt n)).filterMap id := List.mem_filterMap.mpr ⟨some c, List.mem_map.mpr ⟨d, List.mem_of_getElem? g1, hc'⟩, rfl⟩
                    exact le_sum hmem
                  · cases hjc
                wtm_at "wp"
                refine ⟨rfl, ?_⟩
                wtm_at "wp"
                refine ⟨v, n, c, d, rfl, by omega, g2.same s3, hc', by omega, fun H5 s5 => ?_⟩
                refine w_acc (s5 _ _ hD) hac hi (sz (by omega)) (fun H6 k6 h6 => ⟨k6.same (s3.trans s5) nD, ?_⟩)
                rw [e3', take_succL g1]
                simp
              · rintro D acc H3 nD ⟨s3, e3'⟩ hac hD
                rw [hlen, List.take_length] at e3'
                wtm_at "wp"
                have htl' := htl
                rw [tx_join hkk, Str.length_append, Str.length_append] at htl'
                have lp : ("(" : Str).length = 1 := rfl
                have lq : (")" : Str).length = 1 := rfl
                have hsl := join_sum (sgnQ kk) (ps.map (txS n))
                refine ⟨sgnQ kk, D, ps.map (txS n), rfl, rfl, .inl (.of (by rw [hD, e3'])), by rw [show (sgnQ kk).length = 3 from sgnQ_len, List.length_map]; omega, ?_⟩
                wtm_at "wp"
                refine ⟨by decide +kernel, ?_⟩
                wtm_at "wp"
                have l3 : (Str.empty ++ ("(" : Str)).length = 1 := rfl
                refine .inl ⟨_, rfl, sz (by omega), _, rfl, sz (by rw [Str.length_append, l3]; omega), ?_⟩
                wtm_at "wp"
                refine ⟨sz (by rw [Str.length_append, Str.length_append, l3, lq]; omega), ?_⟩
                wtm_at "wp"
                rw [tx_join hkk] at k
                exact k _ (s2.trans s3)
def spShowX (K : PySem.W.Frag) (Z : Zs) : Sp := fun vs H Q E => ∃ (v : V) (L : Nat) (d : PyData), vs = [v] ∧ Rp H v d ∧ Fit L d ∧ L ≤ 50 ∧ (isQ d = true → ∀ H', Same H H' → Q (.str (txS 5 d)) H') ∧ (isQ d = false → ∀ H', Same H H' → E (.ref Z.NoQuery) none H')
theorem ok_showX {f : Addr} {fd : FuncData} (F : Fun K "show" "show" s_show f fd) (T : Txt K mg Z C_QueryReader) (f_look_query : FnX P w K mg base "look_query" 25 ["thing"] (spLookQX K Z)) (f_text_in : Fn P w K mg base "text_in" 6 ["query"] (spTx K 5)) : FnOk P w K mg base (L2.CX P w) 26 f fd ["query"] (spShowX K Z) := by
  refine F.okX sc_show (fun vs H Q E h => ?_) (fun cdv A outer s H vs Q E hr h => ?_)
  · obtain ⟨v, L, d, rfl, _⟩ := h
    rfl
  · obtain ⟨v, L, d, rfl, hR, hF, hL, k, ke⟩ := h
    refine ⟨_, (pss_cons (ps_expr (pe_fx f_look_query (lets_of takesX) (hr.mono (by omega)) rfl (pa_cons (pv 0) pa_nil)))
 (pss_one (ps_ret (pe_fn f_text_in (hr.mono (by omega)) rfl (pa_cons (pv 0) pa_nil))))), ?_⟩
    wtm_at "w0"
    wtm_at "wp"
    refine ⟨v, L, d, rfl, hR, hF, hL, fun hq H1 s1 => ?_, fun hq H1 s1 => ke hq H1 s1⟩
    obtain ⟨m, hc, hm⟩ : ∃ m, cnt 5 d = some m ∧ m ≤ 12 := by
      have hq' := hq
      unfold isQ at hq'
      split at hq'
      · rename_i m hc
        exact ⟨m, hc, of_decide_eq_true hq'⟩
      · cases hq'
    wtm_at "wp"
    exact ⟨v, 5, m, d, rfl, Nat.le_refl _, hR.same s1, hc, by omega, fun H2 s2 => k hq _ (s1.trans s2)⟩
theorem ok_ltxS {N k0 : Nat} {f : Addr} {fd : FuncData} (F : Fun K "_law_text" "_law_text" s_law_text f fd) (T : Txt K mg Z C_QueryReader) (f__law_text : Fn P w K mg base "_law_text" k0 ["_law_query_here"] (spTx K N)) : FnOk P w K mg base CX0 (k0 + 1) f fd ["_law_query_here"] (spTx K (N + 1)) := by
  refine F.ok sc_law_text (fun vs H Q E h => ?_) (fun cdv A outer s H vs Q E hr h => ?_)
  · obtain ⟨v, n, m, d, rfl, _⟩ := h
    rfl
  · obtain ⟨v, n, m, d, rfl, hn, hR, hc, hm, k⟩ := h
    obtain ⟨a, rfl⟩ := rp_ref hR hc
    obtain ⟨kk, ps, xr, rfl, ha, rr, hps, hps1⟩ := head_str hR hc
    have hn0 : n ≠ 0 := fun z => by rw [z] at hc; cases hc
    obtain ⟨n, rfl⟩ : ∃ j, n = j + 1 := ⟨n - 1, by omega⟩
    have hlen := rr.length
    have hqo := cnt_inv hc
    have htl := tx_length hc
    refine ⟨_, (pss_cons (ps_if (pt_cmpR op_eq (pe_ix ix_tup (pv 0) pe_int (fun _ _ => rfl)) pe_str (nomark _))
 (pss_one (ps_ret (pe_ix ix_tup (pv 0) pe_int (fun _ _ => rfl))))
 pss_nil)
 (pss_cons (ps_if (pt_cmpR op_eq (pe_ix ix_tup (pv 0) pe_int (fun _ _ => rfl)) pe_str (nomark _))
 (pss_one (ps_ret (pe_op op_addS (pe_op op_addS pe_str (pe_join pe_str (pe_slice sl_tup (pv 0) (po_some pe_int) po_none))) pe_str)))
 pss_nil)
 (pss_cons (ps_if (pt_cmpR op_eq (pe_ix ix_tup (pv 0) pe_int (fun _ _ => rfl)) pe_str (nomark _))
 (pss_one (ps_ret (pe_op op_addS (pe_op op_addS (pe_op op_addS (pe_op op_addS (pe_ix ix_tup (pv 0) pe_int (fun _ _ => rfl)) pe_str) (pe_callTy cl_str (by rfl) T.n_str PyProof.Rows.boot_str (pa_cons (pe_ix ix_tup (pv 0) pe_int (fun _ _ => rfl)) pa_nil))) pe_str) (pe_ix ix_tup (pv 0) pe_int (fun _ _ => rfl)))))
 pss_nil)
 (pss_cons (ps_set (i := 1) sc_law_text.nd rfl (.inl rfl) (pe_dget (u1_of hr) (pe_disp (pps_cons pe_str pe_str (pps_cons pe_str pe_str (pps_cons pe_str pe_str pps_nil))) rfl rfl (by simp) (by decide)) (pe_ix ix_tup (pv 0) pe_int (fun _ _ => rfl)) (fun _ _ => rfl)))
 (pss_one (ps_ret (pe_op op_addS (pe_op op_addS pe_str (pe_join (pv 1) (pe_lc (own := [("_law_part", 2)]) (g := gName 2) (tt := tYes) rfl sc_law_text.nd (show PI _ _ _ (iTup K _) from (pi_tup (pe_slice (show SlR _ (rSlT K) from sl_tup) (pv 0) (po_some pe_int) po_none))) (blkOk_by (own := [("_law_part", 2)]) (N := ["_law_query_here", "_law_sign", "_law_part"]) (sc := defScope s_law_text) (by decide +kernel)) (fun _ _ _ _ _ => pg_name (i := 2) sc_law_text.nd rfl (Or.inl rfl)) (fun _ _ _ _ _ => pts_nil) (fun _ _ _ _ _ => (pe_fn f__law_text (hr.mono (by omega)) rfl (pa_cons (pv 2) pa_nil)))))) pe_str))))))), ?_⟩
    wtm_at "w0"
    wtm_at "wp"
    refine w_dec (fun hk => ?_) (fun hk => ?_)
    · have e1 : kk = "word" := V.str.inj hk
      subst e1
      cases hqo with
      | @word w0 hw =>
        cases rr with
        | cons r1 r2 =>
          cases r1
          cases r2
          rw [tx_word] at k
          wtm_at "wp"
          exact k _ (.refl _)
      | join h1 _ _ => rcases h1 with h | h | h <;> exact absurd h (by decide +kernel)
    · have e1 : ¬ kk = "word" := fun z => hk (by rw [z])
      wtm_at "wp"
      refine w_dec (fun hk2 => ?_) (fun hk2 => ?_)
      · have e2 : kk = "phrase" := V.str.inj hk2
        subst e2
        cases hqo with
        | @phrase ws h1 h2 h3 =>
          have ex := rp_strs rr
          subst ex
          have hsum : (ws.map (·.length)).sum ≤ ws.length * 12 := by
            have := sum_le (l := ws.map (·.length)) (c := 12) (fun y hy => by
              obtain ⟨z, hz, rfl⟩ := List.mem_map.mp hy
              exact isW_len (h3 z hz))
            rwa [List.length_map] at this
          rw [tx_phrase] at k htl
          have l1 : (" " : Str).length = 1 := rfl
          have l2 : ("\"" : Str).length = 1 := rfl
          rw [Str.length_append, Str.length_append, l2] at htl
          wtm_at "wp"
          refine w_slTd (i := 1) (.of ha) (by decide) (by simp) (fun p4 H4 n4 s4 h4 => ?_)
          have h4' : H4 p4 = some (.tup (ws.map V.str)) := h4
          refine ⟨" ", p4, ws, rfl, rfl, .inr (.of h4'), by rw [l1]; omega, ?_⟩
          refine w_addS (sz (by omega)) ?_
          wtm_at "wp"
          refine w_addS (sz (by rw [Str.length_append]; omega)) ?_
          exact k _ s4
        | join h1 _ _ => rcases h1 with h | h | h <;> exact absurd h (by decide +kernel)
      · have e2 : ¬ kk = "phrase" := fun z => hk2 (by rw [z])
        wtm_at "wp"
        refine w_dec (fun hk3 => ?_) (fun hk3 => ?_)
        · have e3 : kk = "near" := V.str.inj hk3
          subst e3
          cases hqo with
          | @near fa wa wb h1 h2 ha' hb' =>
            cases rr with
            | cons r1 rr =>
              cases rr with
              | cons r2 rr =>
                cases rr with
                | cons r3 rr =>
                  cases rr
                  cases r1
                  cases r2
                  cases r3
                  rw [tx_near] at k htl
                  have q3 : (Str.ofString (toString fa)).length ≤ 2 := far_len fa h1 h2
                  have l1 : ("~" : Str).length = 1 := rfl
                  have q1 := isW_len ha'
                  have q2 := isW_len hb'
                  wtm_at "wp"
                  refine w_addS (sz (by omega)) ?_
                  wtm_at "wp"
                  refine ⟨fa, rfl, PySem.Flt.log2_lt_of (by decide) (by omega), ?_⟩
                  refine w_addS (sz (by rw [Str.length_append]; omega)) ?_
                  wtm_at "wp"
                  refine w_addS (sz (by rw [Str.length_append, Str.length_append]; omega)) ?_
                  wtm_at "wp"
                  refine w_addS (sz (by rw [Str.length_append, Str.length_append, Str.length_append]; omega)) ?_
                  exact k _ (.refl _)
          | join h1 _ _ => rcases h1 with h | h | h <;> exact absurd h (by decide +kernel)
        · have e3 : ¬ kk = "near" := fun z => hk3 (by rw [z])
          have hj : (kk = "and" ∨ kk = "or" ∨ kk = "but") ∧ joinC (ps.map (cnt n)) = some m := by
            cases hqo with
            | word => exact absurd rfl e1
            | phrase => exact absurd rfl e2
            | near => exact absurd rfl e3
            | join h1 h2 h3 => exact ⟨h1, h3⟩
          obtain ⟨hkk, hjc⟩ := hj
          obtain ⟨j1, j2, j3⟩ := join_some hjc
          wtm_at "wp"
          intro pd npd
          refine ⟨upd_same, [(.inr "and", .str " & "), (.inr "or", .str " | "), (.inr "but", .str " - ")], rfl, by decide, ?_⟩
          generalize eN : upd (upd H pd _) pd _ = H2
          have s2 : Same H H2 := fun c o h => by
            have hcp := ne_of_none h npd
            rw [← eN, upd_ne hcp, upd_ne hcp]
            exact h
          have hd2 : H2 pd = some (.dK (mergeK [] [(.inr "and", .str " & "), (.inr "or", .str " | "), (.inr "but", .str " - ")])) := by
            rw [← eN]
            exact upd_same
          clear eN
          have ha2 := s2 _ _ ha
          have rr2 := rr.same s2
          wtm_at "wp"
          refine ⟨pd, .str (sgnQ kk), rfl, .inl ⟨_, .inr kk, .inl hd2, rfl, by rcases hkk with rfl | rfl | rfl <;> decide +kernel⟩, ?_⟩
          wtm_at "wp"
          refine w_slTd (i := 1) (.of ha2) (by decide) (by simp) (fun p4 H4 n4 s4 h4 => ?_)
          have h4' : H4 p4 = some (.tup xr) := h4
          have rr4 := rr2.same s4
          refine ⟨p4, rfl, ⟨_, .of h4'⟩, ?_⟩
          refine lc_fin (fin_tup (xs := xr)) (fun i acc H' => Same H4 H' ∧ acc = ((ps.take i).map (txS n)).map V.str) (fun D H3 nD s3 hD => ⟨s3, rfl⟩) (fun i acc H3 _ h => .of (h.1 _ _ h4')) ?_ ?_
          · rintro D i v acc H5 H6 nD hi hac ⟨s5, e5⟩ hD ⟨rfl, hv⟩
            obtain ⟨d, g1, g2⟩ := rr4.at hv
            obtain ⟨c, hc'⟩ := j3 d (List.mem_of_getElem? g1)
            have hcm : c ≤ m := by
              unfold joinC at hjc
              split at hjc
              · cases hjc
                have hmem : c ∈ (ps.map (cnt n)).filterMap id := List.mem_filterMap.mpr ⟨some c, List.mem_map.mpr ⟨d, List.mem_of_getElem? g1, hc'⟩, rfl⟩
                exact le_sum hmem
              · cases hjc
            wtm_at "wp"
            refine ⟨rfl, ?_⟩
            wtm_at "wp"
            refine ⟨v, n, c, d, rfl, by omega, g2.same s5, hc', by omega, fun H7 s7 => ?_⟩
            refine w_acc (s7 _ _ hD) hac hi (sz (by omega)) (fun H8 k8 h8 => ⟨k8.same (s5.trans s7) nD, ?_⟩)
            rw [e5, take_succL g1]
            simp
          · rintro D acc H5 nD ⟨s5, e5⟩ hac hD
            rw [hlen, List.take_length] at e5
            have htl' := htl
            rw [tx_join hkk, Str.length_append, Str.length_append] at htl'
            have lp : ("(" : Str).length = 1 := rfl
            have lq : (")" : Str).length = 1 := rfl
            have hsl := join_sum (sgnQ kk) (ps.map (txS n))
            refine ⟨sgnQ kk, D, ps.map (txS n), rfl, rfl, .inl (.of (by rw [hD, e5])), by rw [show (sgnQ kk).length = 3 from sgnQ_len, List.length_map]; omega, ?_⟩
            refine w_addS (sz (by omega)) ?_
            wtm_at "wp"
            refine w_addS (sz (by rw [Str.length_append]; omega)) ?_
            rw [tx_join hkk] at k
            exact k _ (s2.trans (s4.trans s5))

end
end K24

namespace K24
section
variable {P : Program} {w : World} {K : PySem.W.Frag} {mg : Str → Option Value} {base : Heap} {Z : Zs} {C_QueryReader : Addr}
theorem cut_one {x : Str} {i : Nat} {c : Nat} {r : List Nat} (h : x.cps.toList.drop i = c :: r) : cutS x (some (i : Int)) (some ((i : Int) + 1)) = ⟨#[c]⟩ := by
  have hl : i < x.length := by
    rw [← len_cps]
    apply Nat.lt_of_not_le
    intro z
    rw [List.drop_eq_nil_of_le z] at h
    cases h
  have h1 : HT.sIx x.length 0 (some (i : Int)) = i := by
    unfold HT.sIx
    simp only
    split <;> omega
  have h2 : HT.sIx x.length x.length (some ((i : Int) + 1)) = i + 1 := by
    unfold HT.sIx
    simp only
    split <;> omega
  unfold cutS
  rw [h1, h2, h]
  have : i + 1 - i = 1 := by omega
  rw [this]
  rfl
theorem cut_end {x : Str} : cutS x (some (x.length : Int)) (some ((x.length : Int) + 1)) = "" := by
  have h1 : HT.sIx x.length 0 (some (x.length : Int)) = x.length := by
    unfold HT.sIx
    simp only
    split <;> omega
  unfold cutS
  rw [h1, List.drop_eq_nil_of_le (by rw [len_cps]; exact Nat.le_refl _), List.take_nil]
  rfl

abbrev s_QueryReader_sign : Stmt := inClass (topS 43) 1
theorem sc_QueryReader_sign : FnScope ["self"] ["self"] (defScope s_QueryReader_sign) := ⟨rfl, rfl, rfl, by decide +kernel, rfl, by decide +kernel, by decide +kernel⟩
abbrev s_QueryReader_take : Stmt := inClass (topS 43) 2
theorem sc_QueryReader_take : FnScope ["self", "signs", "sign"] ["self", "signs"] (defScope s_QueryReader_take) := ⟨rfl, rfl, rfl, by decide +kernel, rfl, by decide +kernel, by decide +kernel⟩
abbrev s_QueryReader_take_one_more : Stmt := inClass (topS 43) 3
theorem sc_QueryReader_take_one_more : FnScope ["self", "sign"] ["self", "sign"] (defScope s_QueryReader_take_one_more) := ⟨rfl, rfl, rfl, by decide +kernel, rfl, by decide +kernel, by decide +kernel⟩
abbrev s_QueryReader_take_word : Stmt := inClass (topS 43) 4
theorem sc_QueryReader_take_word : FnScope ["self", "told"] ["self"] (defScope s_QueryReader_take_word) := ⟨rfl, rfl, rfl, by decide +kernel, rfl, by decide +kernel, by decide +kernel⟩
/-- a reader of a query's text -/
def Rq (C : Addr) (H : Hp) (r : Addr) (x : Str) (i l : Nat) : Prop := ∃ d, H r = some (.ins C d [("text", .str x), ("at", .int i), ("least", .int l)])
theorem Rq.same {C : Addr} {H H' : Hp} {r : Addr} {x : Str} {i l : Nat} (h : Rq C H r x i l) (s : Same H H') : Rq C H' r x i l := by
  obtain ⟨d, h⟩ := h
  exact ⟨d, s _ _ h⟩
theorem Rq.kb {C q : Addr} {H H' : Hp} {r : Addr} {x : Str} {i l : Nat} (h : Rq C H r x i l) (s : KB q H H') (n : r ≠ q) : Rq C H' r x i l := by
  obtain ⟨d, h⟩ := h
  exact ⟨d, s _ _ h n⟩
def spSign (C : Addr) : Sp := fun vs H Q _ => ∃ (r : Addr) (x : Str) (i l : Nat), vs = [.ref r] ∧ Rq C H r x i l ∧ x.length ≤ 5000 ∧ i ≤ x.length ∧ (∀ c t, x.cps.toList.drop i = c :: t → Q (.str ⟨#[c]⟩) H) ∧ (x.cps.toList.drop i = [] → Q (.str "") H)
theorem ok_sign {f : Addr} {fd : FuncData} (F : Fun K "sign" "QueryReader.sign" s_QueryReader_sign f fd) (T : Txt K mg Z C_QueryReader) : FnOk P w K mg base CX0 1 f fd ["self"] (spSign C_QueryReader) := by
  have c1 := T.cl_QueryReader
  have n1 := T.na_QueryReader_text
  have n2 := T.na_QueryReader_at
  refine F.ok sc_QueryReader_sign (fun vs H Q E h => ?_) (fun cdv A outer s H vs Q E hr h => ?_)
  · obtain ⟨r, x, i, l, rfl, _⟩ := h
    rfl
  · obtain ⟨r, x, i, l, rfl, ⟨d, hd⟩, hl, hi, k, ke⟩ := h
    refine ⟨_, (pss_one (ps_ret (pe_slice sl_str (pe_fld (pv 0) rfl) (po_some (pe_fld (pv 0) rfl)) (po_some (pe_op op_add (pe_fld (pv 0) rfl) pe_int))))), ?_⟩
    wtm_at "w0"
    wtm_at "wp"
    cases hc : x.cps.toList.drop i with
    | nil =>
      have hi' : i = x.length := by
        have := List.drop_eq_nil_iff.mp hc
        rw [len_cps] at this
        omega
      have k' := ke hc
      subst hi'
      rw [cut_end]
      exact k'
    | cons c t =>
      rw [cut_one hc]
      exact k c t hc
def spTakeQ (C : Addr) : Sp := fun vs H Q _ => ∃ (r : Addr) (x sg : Str) (i l c : Nat) (t : List Nat), vs = [.ref r, .str sg] ∧ Rq C H r x i l ∧ x.length ≤ 5000 ∧ x.cps.toList.drop i = c :: t ∧ c ∈ sg.cps.toList ∧ ∀ H', KB r H H' → Rq C H' r x (i + 1) l → Q (.str ⟨#[c]⟩) H'
theorem lt_drop {x : Str} {i c : Nat} {t : List Nat} (h : x.cps.toList.drop i = c :: t) : i < x.length := by
  rw [← len_cps]
  apply Nat.lt_of_not_le
  intro z
  rw [List.drop_eq_nil_of_le z] at h
  cases h
theorem one_ne (c : Nat) : ¬ (V.str ⟨#[c]⟩ = V.str "") := fun z => by
  have := congrArg (fun y : Str => y.cps.toList.length) (V.str.inj z)
  simp at this
  cases this
theorem ok_takeq {f : Addr} {fd : FuncData} (F : Fun K "take" "QueryReader.take" s_QueryReader_take f fd) (T : Txt K mg Z C_QueryReader) (me_QueryReader_sign : Me P w K mg base C_QueryReader "sign" 1 ["self"] (spSign C_QueryReader)) : FnOk P w K mg base CX0 2 f fd ["self", "signs"] (spTakeQ C_QueryReader) := by
  have c1 := T.cl_QueryReader
  have n1 := T.na_QueryReader_text
  have n2 := T.na_QueryReader_at
  refine F.ok sc_QueryReader_take (fun vs H Q E h => ?_) (fun cdv A outer s H vs Q E hr h => ?_)
  · obtain ⟨r, x, sg, i, l, c, t, rfl, _⟩ := h
    rfl
  · obtain ⟨r, x, sg, i, l, c, t, rfl, hR, hl, hdr, hc, k⟩ := h
    have hi := lt_drop hdr
    have hR' := hR
    obtain ⟨d, hd⟩ := hR'
    refine ⟨_, (pss_cons (ps_set (i := 2) sc_QueryReader_take.nd rfl (.inl rfl) (pe_me0 (pv 0) T.cl_QueryReader me_QueryReader_sign (hr.mono (by omega))))
 (pss_cons (ps_if (PW.pt (pw_or (pt_cmpR op_eq (pv 2) pe_str (nomark _)) (pw_or1 (pt_cmpR op_notInS (pv 2) (pv 1) (by rfl)))))
 (pss_one (ps_never))
 pss_nil)
 (pss_cons (ps_fldaug (pv 0) pe_int in_add)
 (pss_one (ps_ret (pv 2)))))), ?_⟩
    wtm_at "w0"
    wtm_at "wp"
    refine ⟨r, x, i, l, rfl, hR, hl, by omega, fun c' t' e => ?_, fun e => by rw [hdr] at e; cases e⟩
    rw [hdr] at e
    cases e
    wtm_at "wp"
    refine iteF' (by rw [decide_eq_true hc]; rfl) ?_
    wtm_at "wp"
    rename_i H1 k1 h1
    have e1 : (i : Int) + 1 = ((i + 1 : Nat) : Int) := by omega
    rw [e1] at h1
    exact k _ k1 ⟨d, h1⟩
def spMore (C : Addr) : Sp := fun vs H Q _ => ∃ (r : Addr) (x : Str) (i l g : Nat), vs = [.ref r, .str ⟨#[g]⟩] ∧ Rq C H r x i l ∧ x.length ≤ 5000 ∧ i ≤ x.length ∧ l ≤ 12 ∧
  ((∃ t, x.cps.toList.drop i = g :: t ∧ l < 12 ∧ ∀ H', KB r H H' → Rq C H' r x (i + 1) (l + 1) → Q (.bl true) H') ∨ ((∀ t, x.cps.toList.drop i ≠ g :: t) ∧ Q (.bl false) H))
theorem one_eq {c g : Nat} : (V.str ⟨#[c]⟩ = V.str ⟨#[g]⟩) ↔ c = g := by
  constructor
  · intro z
    have := congrArg (fun y : Str => y.cps.toList) (V.str.inj z)
    simpa using this
  · intro z
    rw [z]
theorem ok_more {f : Addr} {fd : FuncData} (F : Fun K "take_one_more" "QueryReader.take_one_more" s_QueryReader_take_one_more f fd) (T : Txt K mg Z C_QueryReader) (me_QueryReader_sign : Me P w K mg base C_QueryReader "sign" 1 ["self"] (spSign C_QueryReader)) : FnOk P w K mg base CX0 2 f fd ["self", "sign"] (spMore C_QueryReader) := by
  have c1 := T.cl_QueryReader
  have n1 := T.na_QueryReader_text
  have n2 := T.na_QueryReader_at
  have n3 := T.na_QueryReader_least
  refine F.ok sc_QueryReader_take_one_more (fun vs H Q E h => ?_) (fun cdv A outer s H vs Q E hr h => ?_)
  · obtain ⟨r, x, i, l, g, rfl, _⟩ := h
    rfl
  · obtain ⟨r, x, i, l, g, rfl, hR, hl, hi, hl12, h⟩ := h
    have hR' := hR
    obtain ⟨d, hd⟩ := hR'
    refine ⟨_, (pss_cons (ps_if (PW.pt (pw_or (pt_cmpR op_ne (pe_me0 (pv 0) T.cl_QueryReader me_QueryReader_sign (hr.mono (by omega))) (pv 1) (nomark _)) (pw_or1 (pt_cmpR op_eq (pe_fld (pv 0) rfl) (pe_gint T.c_MOST_WORDS rfl) (nomark _)))))
 (pss_one (ps_ret pe_bl))
 pss_nil)
 (pss_cons (ps_fldaug (pv 0) pe_int in_add)
 (pss_cons (ps_fldaug (pv 0) pe_int in_add)
 (pss_one (ps_ret pe_bl))))), ?_⟩
    wtm_at "w0"
    wtm_at "wp"
    rcases h with ⟨t, hdr, hlt, k⟩ | ⟨hno, k⟩
    · refine ⟨r, x, i, l, rfl, hR, hl, hi, fun c' t' e => ?_, fun e => by rw [hdr] at e; cases e⟩
      rw [hdr] at e
      cases e
      wtm_at "wp"
      refine iteF' (by rw [decide_eq_true rfl]; rfl) ?_
      wtm_at "wp"
      refine w_dec (fun q => ?_) (fun q => ?_)
      · have := V.int.inj q
        omega
      · wtm_at "wp"
        rename_i H1 k1 h1 H2 k2 h2
        have e1 : (i : Int) + 1 = ((i + 1 : Nat) : Int) := by omega
        have e2 : (l : Int) + 1 = ((l + 1 : Nat) : Int) := by omega
        rw [e1, e2] at h2
        exact k _ (k1.trans k2) ⟨d, h2⟩
    · refine ⟨r, x, i, l, rfl, hR, hl, hi, fun c' t' e => ?_, fun e => ?_⟩
      · have hne : c' ≠ g := fun z => hno t' (z ▸ e)
        wtm_at "wp"
        refine iteT' (by rw [decide_eq_false (fun z => hne (one_eq.mp z))]; rfl) ?_
        wtm_at "wp"
        exact k
      · wtm_at "wp"
        exact k
def lettersL : List Nat := abc.cps.toList
theorem isW_pos {x : Str} (h : isW x = true) : 1 ≤ x.length := by
  unfold isW at h
  rw [Bool.and_eq_true] at h
  exact (of_decide_eq_true h.1).1
theorem isW_let {x : Str} (h : isW x = true) : ∀ c ∈ x.cps.toList, c ∈ lettersL := by
  unfold isW at h
  rw [Bool.and_eq_true, List.all_eq_true] at h
  exact fun c hc => of_decide_eq_true (h.2 c hc)
def NoLet (t : List Nat) : Prop := ∀ c u, t = c :: u → c ∉ lettersL
def spWordQ (C : Addr) : Sp := fun vs H Q _ => ∃ (r : Addr) (x wd : Str) (i l : Nat) (t : List Nat), vs = [.ref r] ∧ Rq C H r x i l ∧ x.length ≤ 5000 ∧ x.cps.toList.drop i = wd.cps.toList ++ t ∧ isW wd = true ∧ NoLet t ∧ ∀ H', KB r H H' → Rq C H' r x (i + wd.length) l → Q (.str wd) H'
theorem ok_wordq {f : Addr} {fd : FuncData} (F : Fun K "take_word" "QueryReader.take_word" s_QueryReader_take_word f fd) (T : Txt K mg Z C_QueryReader) (me_QueryReader_sign : Me P w K mg base C_QueryReader "sign" 1 ["self"] (spSign C_QueryReader)) (me_QueryReader_take : Me P w K mg base C_QueryReader "take" 2 ["self", "signs"] (spTakeQ C_QueryReader)) : FnOk P w K mg base CX0 3 f fd ["self"] (spWordQ C_QueryReader) := by
  have c1 := T.cl_QueryReader
  refine F.ok sc_QueryReader_take_word (fun vs H Q E h => ?_) (fun cdv A outer s H vs Q E hr h => ?_)
  · obtain ⟨r, x, wd, i, l, t, rfl, _⟩ := h
    rfl
  · obtain ⟨r, x, wd, i, l, t, rfl, hR, hl, hdr, hW, hno, k⟩ := h
    have hlw := isW_len hW
    have hlet : ∀ c ∈ wd.cps.toList, c ∈ lettersL := fun c hc => isW_let hW c hc
    have h1 : 1 ≤ wd.length := isW_pos hW
    obtain ⟨c0, w0, hw0⟩ : ∃ c0 w0, wd.cps.toList = c0 :: w0 := by
      cases hq : wd.cps.toList with
      | nil =>
        have := congrArg List.length hq
        rw [len_cps] at this
        simp at this
        omega
      | cons a b => exact ⟨a, b, rfl⟩
    have hxl : i + wd.length ≤ x.length := by
      have := congrArg List.length hdr
      rw [List.length_drop, len_cps, List.length_append, len_cps] at this
      omega
    have hR' := hR
    obtain ⟨d, hd⟩ := hR'
    refine ⟨_, (pss_cons (ps_set (i := 1) sc_QueryReader_take_word.nd rfl (.inl rfl) (pe_me (pv 0) T.cl_QueryReader me_QueryReader_take (hr.mono (by omega)) (pa_cons (pe_gstr T.c_LETTERS rfl) pa_nil)))
 (pss_cons (ps_while PassesOwn.never (PW.pt (pw_and (pt_cmpR op_lt (pe_callB cl_len (by rfl) T.n_len PySem.boot_len (pa_cons (pv 1) pa_nil)) (pe_gint T.c_LONGEST rfl) (nomark _)) (pw_and (pt_cmpR op_ne (pe_me0 (pv 0) T.cl_QueryReader me_QueryReader_sign (hr.mono (by omega))) pe_str (nomark _)) (pw_and1 (pt_cmpR op_inS (pe_me0 (pv 0) T.cl_QueryReader me_QueryReader_sign (hr.mono (by omega))) (pe_gstr T.c_LETTERS rfl) (by rfl))))))
 (pss_one (ps_aug (i := 1) sc_QueryReader_take_word.nd rfl (.inl rfl) (pe_me (pv 0) T.cl_QueryReader me_QueryReader_take (hr.mono (by omega)) (pa_cons (pe_gstr T.c_LETTERS rfl) pa_nil)) ip_addS)))
 (pss_one (ps_ret (pv 1))))), ?_⟩
    wtm_at "w0"
    wtm_at "wp"
    refine ⟨r, x, _, i, l, c0, w0 ++ t, rfl, hR, hl, by rw [hdr, hw0]; rfl, hlet c0 (by rw [hw0]; simp), fun H1 k1 r1 => ?_⟩
    wtm_at "wp"
    refine ⟨fun m σ H' => ∃ (j : Nat) (td : Str), σ = [some (.ref r), some (.str td)] ∧ KB r H H' ∧ Rq C_QueryReader H' r x (i + j) l ∧ 1 ≤ j ∧ j ≤ wd.length ∧ td.cps.toList = wd.cps.toList.take j ∧ m = wd.length - j, ⟨wd.length - 1, 1, ⟨#[c0]⟩, rfl, k1, r1, Nat.le_refl _, h1, by rw [hw0]; rfl, rfl⟩, ?_⟩
    rintro m σ H2 ⟨j, td, rfl, k2, r2, hj1, hj2, htd, rfl⟩
    have htl : td.length = j := by
      rw [← len_cps, htd, List.length_take, len_cps]
      omega
    have hdj : x.cps.toList.drop (i + j) = wd.cps.toList.drop j ++ t := by
      rw [← List.drop_drop, hdr, List.drop_append_of_le_length (by rw [len_cps]; exact hj2)]
    have r2' := r2
    obtain ⟨d2, hd2⟩ := r2'
    have fin : j = wd.length → td = wd := fun z => str_ext (by rw [htd, z, ← len_cps, List.take_length])
    have stop : j = wd.length → ∀ H', Same H2 H' → Q (.str td) H' := fun z H' s' => by
      rw [fin z]
      exact k _ (k2.trans (KB.of s')) (z ▸ r2.same s')
    wtm_at "wp"
    refine w_dec (fun g1 => ?_) (fun g1 => ?_)
    · wtm_at "wp"
      cases hq : x.cps.toList.drop (i + j) with
      | nil =>
        have hje : j = wd.length := by
          have := congrArg List.length (hdj.symm.trans hq)
          rw [List.length_append, List.length_drop, len_cps] at this
          simp at this
          omega
        refine ⟨r, x, i + j, l, rfl, r2, hl, by omega, fun c' t' e => (by rw [hq] at e; cases e), fun e => ?_⟩
        wtm_at "wp"
        exact stop hje _ (.refl _)
      | cons c t' =>
        refine ⟨r, x, i + j, l, rfl, r2, hl, by omega, fun c' t'' e => ?_, fun e => by rw [hq] at e; cases e⟩
        rw [hq] at e
        cases e
        wtm_at "wp"
        refine ⟨r, x, i + j, l, rfl, r2, hl, by omega, fun c' t'' e => ?_, fun e => by rw [hq] at e; cases e⟩
        rw [hq] at e
        cases e
        wtm_at "wp"
        rcases Nat.lt_or_ge j wd.length with hlt | hge
        · have hcj : wd.cps.toList.drop j = c :: wd.cps.toList.drop (j + 1) ∧ t' = wd.cps.toList.drop (j + 1) ++ t := by
            have hz := List.drop_eq_getElem_cons (l := wd.cps.toList) (i := j) (by rw [len_cps]; exact hlt)
            have e2 := hdj.symm.trans hq
            rw [hz] at e2
            injection e2 with e3 e4
            exact ⟨by rw [hz, e3], e4.symm⟩
          have hcl : c ∈ lettersL := hlet c (List.mem_of_mem_drop (by rw [hcj.1]; simp))
          refine iteT' (decide_eq_true hcl) ?_
          refine w_loopT ?_
          wtm_at "wp"
          refine ⟨r, x, _, i + j, l, c, t', rfl, r2, hl, hq, hcl, fun H3 k3 r3 => ?_⟩
          have h1c : (⟨#[c]⟩ : Str).length = 1 := rfl
          wtm_at "wp"
          refine w_addS (sz (by omega)) ?_
          refine ⟨wd.length - (j + 1), by omega, j + 1, td ++ ⟨#[c]⟩, rfl, k2.trans k3, by rw [← Nat.add_assoc]; exact r3, by omega, by omega, ?_, rfl⟩
          rw [cps_append, htd]
          have hz := List.take_succ (l := wd.cps.toList) (i := j)
          rw [hz]
          congr 1
          have : wd.cps.toList[j]? = some c := by
            rw [← List.head?_drop, hcj.1]
            rfl
          rw [this]
          rfl
        · have hje : j = wd.length := by omega
          have htc : t = c :: t' := by
            have e2 := hdj.symm.trans hq
            rw [List.drop_eq_nil_of_le (by rw [len_cps]; omega), List.nil_append] at e2
            exact e2
          refine iteF' (decide_eq_false (hno c t' htc)) ?_
          wtm_at "wp"
          exact stop hje _ (.refl _)
    · wtm_at "wp"
      exact stop (by omega) _ (.refl _)

end
end K24

namespace K24
section
variable {P : Program} {w : World} {K : PySem.W.Frag} {mg : Str → Option Value} {base : Heap} {Z : Zs} {C_QueryReader : Addr}
abbrev s_QueryReader_phrase : Stmt := inClass (topS 43) 6
theorem sc_QueryReader_phrase : FnScope ["self", "words"] ["self"] (defScope s_QueryReader_phrase) := ⟨rfl, rfl, rfl, by decide +kernel, rfl, by decide +kernel, by decide +kernel⟩
abbrev s_QueryReader_near : Stmt := inClass (topS 43) 7
theorem sc_QueryReader_near : FnScope ["self", "word", "far", "more"] ["self", "word"] (defScope s_QueryReader_near) := ⟨rfl, rfl, rfl, by decide +kernel, rfl, by decide +kernel, by decide +kernel⟩
/-- what is left to be read -/
def At (C : Addr) (H : Hp) (r : Addr) (x : Str) (t : List Nat) (l : Nat) : Prop := ∃ i, Rq C H r x i l ∧ x.cps.toList.drop i = t ∧ i ≤ x.length
theorem At.same {C : Addr} {H H' : Hp} {r : Addr} {x : Str} {t : List Nat} {l : Nat} (h : At C H r x t l) (s : Same H H') : At C H' r x t l := by
  obtain ⟨i, h1, h2⟩ := h
  exact ⟨i, h1.same s, h2⟩
theorem At.kb {C q : Addr} {H H' : Hp} {r : Addr} {x : Str} {t : List Nat} {l : Nat} (h : At C H r x t l) (s : KB q H H') (n : r ≠ q) : At C H' r x t l := by
  obtain ⟨i, h1, h2⟩ := h
  exact ⟨i, h1.kb s n, h2⟩
theorem At.ins {C : Addr} {H : Hp} {r : Addr} {x : Str} {t : List Nat} {l : Nat} (h : At C H r x t l) : ∃ (d : Addr) (i : Nat), H r = some (.ins C d [("text", .str x), ("at", .int i), ("least", .int l)]) := by
  obtain ⟨i, ⟨d, h⟩, _⟩ := h
  exact ⟨d, i, h⟩
theorem a_word {C : Addr} {H : Hp} {r : Addr} {x wd : Str} {t : List Nat} {l : Nat} {Q : VK} {E : XK} (h : At C H r x (wd.cps.toList ++ t) l) (hl : x.length ≤ 5000) (hW : isW wd = true) (hno : NoLet t) (k : ∀ H', KB r H H' → At C H' r x t l → Q (.str wd) H') : spWordQ C [.ref r] H Q E := by
  obtain ⟨i, h1, h2, h3⟩ := h
  refine ⟨r, x, wd, i, l, t, rfl, h1, hl, h2, hW, hno, fun H' k' r' => k H' k' ⟨_, r', ?_, ?_⟩⟩
  · rw [← List.drop_drop, h2]
    have : wd.length = wd.cps.toList.length := rfl
    rw [this, List.drop_left]
  · have := congrArg List.length h2
    rw [List.length_drop, len_cps, List.length_append, len_cps] at this
    omega
theorem a_take {C : Addr} {H : Hp} {r : Addr} {x sg : Str} {c : Nat} {t : List Nat} {l : Nat} {Q : VK} {E : XK} (h : At C H r x (c :: t) l) (hl : x.length ≤ 5000) (hc : c ∈ sg.cps.toList) (k : ∀ H', KB r H H' → At C H' r x t l → Q (.str ⟨#[c]⟩) H') : spTakeQ C [.ref r, .str sg] H Q E := by
  obtain ⟨i, h1, h2, h3⟩ := h
  have := lt_drop h2
  refine ⟨r, x, sg, i, l, c, t, rfl, h1, hl, h2, hc, fun H' k' r' => k H' k' ⟨_, r', ?_, by omega⟩⟩
  rw [← List.drop_drop, h2]
  rfl
theorem a_hit {C : Addr} {H : Hp} {r : Addr} {x : Str} {g : Nat} {t : List Nat} {l : Nat} {Q : VK} {E : XK} (h : At C H r x (g :: t) l) (hl : x.length ≤ 5000) (hl12 : l < 12) (k : ∀ H', KB r H H' → At C H' r x t (l + 1) → Q (.bl true) H') : spMore C [.ref r, .str ⟨#[g]⟩] H Q E := by
  obtain ⟨i, h1, h2, h3⟩ := h
  have := lt_drop h2
  refine ⟨r, x, i, l, g, rfl, h1, hl, h3, by omega, .inl ⟨t, h2, hl12, fun H' k' r' => k H' k' ⟨_, r', ?_, by omega⟩⟩⟩
  rw [← List.drop_drop, h2]
  rfl
theorem a_miss {C : Addr} {H : Hp} {r : Addr} {x : Str} {g : Nat} {t : List Nat} {l : Nat} {Q : VK} {E : XK} (h : At C H r x t l) (hl : x.length ≤ 5000) (hl12 : l ≤ 12) (hno : ∀ u, t ≠ g :: u) (k : Q (.bl false) H) : spMore C [.ref r, .str ⟨#[g]⟩] H Q E := by
  obtain ⟨i, h1, h2, h3⟩ := h
  exact ⟨r, x, i, l, g, rfl, h1, hl, h3, hl12, .inr ⟨fun u e => hno u (h2.symm.trans e), k⟩⟩
theorem a_sign {C : Addr} {H : Hp} {r : Addr} {x : Str} {c : Nat} {t : List Nat} {l : Nat} {Q : VK} {E : XK} (h : At C H r x (c :: t) l) (hl : x.length ≤ 5000) (k : Q (.str ⟨#[c]⟩) H) : spSign C [.ref r] H Q E := by
  obtain ⟨i, h1, h2, h3⟩ := h
  exact ⟨r, x, i, l, rfl, h1, hl, h3, fun c' t' e => (by rw [h2] at e; cases e; exact k), fun e => (by rw [h2] at e; cases e)⟩
theorem nolet {c : Nat} {t : List Nat} (h : c ∉ lettersL) : NoLet (c :: t) := fun c' u e => by cases e; exact h
/-- what is left of a phrase behind so many words -/
def remP (ws : List Str) (j : Nat) (t : List Nat) : List Nat := (if j < ws.length then 32 :: jn [32] ((ws.drop j).map fun x => x.cps.toList) else []) ++ t
theorem jn_cons {s : List Nat} {a : List Nat} {r : List (List Nat)} : jn s (a :: r) = a ++ (if r = [] then [] else s ++ jn s r) := by
  cases r with
  | nil => simp [jn]
  | cons b q => simp [jn]
theorem remP_step {ws : List Str} {j : Nat} {t : List Nat} (h : j < ws.length) : remP ws j t = 32 :: (ws[j].cps.toList ++ remP ws (j + 1) t) := by
  unfold remP
  rw [if_pos h, List.drop_eq_getElem_cons h, List.map_cons, jn_cons]
  by_cases h2 : j + 1 < ws.length
  · rw [if_pos h2, if_neg (fun z => by
      have := congrArg List.length z
      simp at this
      omega)]
    simp
  · rw [if_neg h2, if_pos (by rw [List.map_eq_nil_iff, List.drop_eq_nil_iff]; omega)]
    simp
theorem remP_end {ws : List Str} {j : Nat} {t : List Nat} (h : ws.length ≤ j) : remP ws j t = t := by
  unfold remP
  rw [if_neg (by omega)]
  rfl
def spPhrQ (C : Addr) : Sp := fun vs H Q _ => ∃ (r : Addr) (x : Str) (l : Nat) (ws : List Str) (t : List Nat), vs = [.ref r] ∧ At C H r x (jn [32] (ws.map fun y => y.cps.toList) ++ (34 :: t)) l ∧ x.length ≤ 5000 ∧ 2 ≤ ws.length ∧ ws.length ≤ 5 ∧ (∀ y ∈ ws, isW y = true) ∧ l + (ws.length - 2) ≤ 12 ∧
  ∀ p H', KB r H H' → H' p = some (.tup (V.str "phrase" :: ws.map V.str)) → At C H' r x t (l + (ws.length - 2)) → Q (.ref p) H'
theorem ok_phrq {f : Addr} {fd : FuncData} (F : Fun K "phrase" "QueryReader.phrase" s_QueryReader_phrase f fd) (T : Txt K mg Z C_QueryReader) (me_QueryReader_take : Me P w K mg base C_QueryReader "take" 2 ["self", "signs"] (spTakeQ C_QueryReader)) (me_QueryReader_take_one_more : Me P w K mg base C_QueryReader "take_one_more" 2 ["self", "sign"] (spMore C_QueryReader)) (me_QueryReader_take_word : Me P w K mg base C_QueryReader "take_word" 3 ["self"] (spWordQ C_QueryReader)) : FnOk P w K mg base CX0 4 f fd ["self"] (spPhrQ C_QueryReader) := by
  have c1 := T.cl_QueryReader
  refine F.ok sc_QueryReader_phrase (fun vs H Q E h => ?_) (fun cdv A outer s H vs Q E hr h => ?_)
  · obtain ⟨r, x, l, ws, t, rfl, _⟩ := h
    rfl
  · obtain ⟨r, x, l, ws, t, rfl, hA, hl, hw2, hw5, hW, hl12, k⟩ := h
    obtain ⟨w0, w1, wr, rfl⟩ : ∃ w0 w1 wr, ws = w0 :: w1 :: wr := by
      match ws, hw2 with
      | a :: b :: r, _ => exact ⟨a, b, r, rfl⟩
    have e0 : jn [32] ((w0 :: w1 :: wr).map fun y => y.cps.toList) ++ (34 :: t) = w0.cps.toList ++ (32 :: (w1.cps.toList ++ remP (w0 :: w1 :: wr) 2 (34 :: t))) := by
      rw [List.map_cons, List.map_cons, jn_cons, if_neg (by simp), jn_cons]
      unfold remP
      by_cases hq : wr = []
      · subst hq
        simp
      · have h2 : 2 < (w0 :: w1 :: wr).length := by
          cases wr with
          | nil => exact absurd rfl hq
          | cons _ _ => simp
        rw [if_pos h2, if_neg (by rw [List.map_eq_nil_iff]; exact hq)]
        simp
    rw [e0] at hA
    obtain ⟨d0, fs0, hd0⟩ := hA.ins
    have sp32 : (32 : Nat) ∉ lettersL := by decide +kernel
    have sp34 : (34 : Nat) ∉ lettersL := by decide +kernel
    have hrem : ∀ j, NoLet (remP (w0 :: w1 :: wr) j (34 :: t)) := fun j => by
      rcases Nat.lt_or_ge j (w0 :: w1 :: wr).length with h | h
      · rw [remP_step h]
        exact nolet sp32
      · rw [remP_end h]
        exact nolet sp34
    refine ⟨_, (pss_cons (ps_set (i := 1) sc_QueryReader_phrase.nd rfl (.inl rfl) (pe_lst (pa_cons (pe_me0 (pv 0) T.cl_QueryReader me_QueryReader_take_word (hr.mono (by omega))) pa_nil)))
 (pss_cons (ps_expr (pe_me (pv 0) T.cl_QueryReader me_QueryReader_take (hr.mono (by omega)) (pa_cons pe_str pa_nil)))
 (pss_cons (ps_expr (pe_bm PySem.F.plainAttrs_list PySem.F.slot_list_append PySem.F.type_list_append mt_append (pv 1) (pa_cons (pe_me0 (pv 0) T.cl_QueryReader me_QueryReader_take_word (hr.mono (by omega))) pa_nil)))
 (pss_cons (ps_while PassesOwn.never (PW.pt (pw_and (pt_cmpR op_lt (pe_callB cl_len (by rfl) T.n_len PySem.boot_len (pa_cons (pv 1) pa_nil)) pe_int (nomark _)) (pw_and1 (pt_val (pe_me (pv 0) T.cl_QueryReader me_QueryReader_take_one_more (hr.mono (by omega)) (pa_cons pe_str pa_nil))))))
 (pss_one (ps_expr (pe_bm PySem.F.plainAttrs_list PySem.F.slot_list_append PySem.F.type_list_append mt_append (pv 1) (pa_cons (pe_me0 (pv 0) T.cl_QueryReader me_QueryReader_take_word (hr.mono (by omega))) pa_nil)))))
 (pss_cons (ps_expr (pe_me (pv 0) T.cl_QueryReader me_QueryReader_take (hr.mono (by omega)) (pa_cons pe_str pa_nil)))
 (pss_one (ps_ret (pe_op op_catT (pe_tup (pa_cons pe_str pa_nil)) (pe_callTy cl_tuple (by rfl) T.n_tuple PyProof.Rows.boot_tuple (pa_cons (pv 1) pa_nil)))))))))), ?_⟩
    wtm_at "w0"
    wtm_at "wp"
    refine a_word hA hl (hW w0 (by simp)) (nolet sp32) (fun H1 k1 a1 => ?_)
    obtain ⟨d1, fs1, hd1⟩ := a1.ins
    wtm_at "wp"
    rename_i lw nw H2 s2 h2
    have a2 := a1.same s2
    have nrw : r ≠ lw := ne_of_none hd1 nw
    obtain ⟨d2, fs2, hd2⟩ := a2.ins
    refine a_take a2 hl (by decide +kernel) (fun H3 k3 a3 => ?_)
    obtain ⟨d3, fs3, hd3⟩ := a3.ins
    wtm_at "wp"
    refine a_word a3 hl (hW w1 (by simp)) (hrem 2) (fun H4 k4 a4 => ?_)
    have h4 := k4 _ _ (k3 _ _ h2 nrw.symm) nrw.symm
    wtm_at "wp"
    refine w_append h4 (by show 1 < sizeLine; decide) (fun H5 k5 h5 => ?_)
    have n0 : H lw = none := kb_newD k1 hd1 nw
    have K4 : KB r H H4 := k1.trans ((KB.of s2).trans (k3.trans k4))
    wtm_at "wp"
    refine ⟨fun m σ H' => ∃ j : Nat, σ = [some (.ref r), some (.ref lw)] ∧ KB r H H' ∧ At C_QueryReader H' r x (remP (w0 :: w1 :: wr) j (34 :: t)) (l + (j - 2)) ∧ H' lw = some (.lst (((w0 :: w1 :: wr).take j).map V.str)) ∧ 2 ≤ j ∧ j ≤ (w0 :: w1 :: wr).length ∧ m = (w0 :: w1 :: wr).length - j, ⟨_, 2, rfl, kb2 K4 k5 n0, a4.kb k5 nrw, h5, Nat.le_refl _, by simp, rfl⟩, ?_⟩
    rintro m σ H6 ⟨j, rfl, k6, a6, h6, hj2, hjl, rfl⟩
    obtain ⟨d6, fs6, hd6⟩ := a6.ins
    have hlt : (((w0 :: w1 :: wr).take j).map V.str).length = j := by
      rw [List.length_map, List.length_take]
      omega
    generalize hws : w0 :: w1 :: wr = ws at *
    wtm_at "wp"
    rw [hlt]
    refine w_dec (fun g1 => ?_) (fun g1 => ?_)
    · wtm_at "wp"
      rcases Nat.lt_or_ge j ws.length with hlt' | hge
      · rw [remP_step hlt'] at a6
        have hl11 : l + (j - 2) < 12 := by omega
        refine a_hit (g := 32) a6 hl hl11 (fun H7 k7 a7 => ?_)
        obtain ⟨d7, i7, hd7⟩ := a7.ins
        wtm_at "wp"
        refine w_loopT ?_
        wtm_at "wp"
        refine a_word a7 hl (hW _ (List.getElem_mem hlt')) (hrem (j + 1)) (fun H8 k8 a8 => ?_)
        have h8 := k8 _ _ (k7 _ _ h6 nrw.symm) nrw.symm
        wtm_at "wp"
        refine w_append h8 (Nat.lt_of_le_of_lt (by rw [hlt]; omega : _ ≤ 10) (by decide)) (fun H9 k9 h9 => ?_)
        refine ⟨ws.length - (j + 1), by omega, j + 1, rfl, kb2 (k6.trans (k7.trans k8)) k9 n0, ?_, ?_, by omega, by omega, rfl⟩
        · have ej : l + (j + 1 - 2) = l + (j - 2) + 1 := by omega
          rw [ej]
          exact a8.kb k9 nrw
        · rw [h9, take_succL (List.getElem?_eq_getElem hlt'), List.map_append]
          rfl
      · have hje : j = ws.length := by omega
        have a6e := a6
        rw [hje, remP_end (Nat.le_refl _)] at a6e
        refine a_miss (g := 32) a6e hl (by omega) (fun u z => by cases z) ?_
        wtm_at "wp"
        have a6' : At C_QueryReader H6 r x (34 :: t) (l + (ws.length - 2)) := by
          have := a6
          rw [hje, remP_end (Nat.le_refl _)] at this
          exact this
        rw [hje, List.take_length] at h6
        refine a_take a6' hl (by decide +kernel) (fun H7 k7 a7 => ?_)
        have h7 := k7 _ _ h6 nrw.symm
        wtm_at "wp"
        rename_i t8 n8 H8 s8 h8
        refine w_tupOf (.of (s8 _ _ h7)) (fun t9 H9 n9 s9 h9 => ?_)
        refine w_catT (s9 _ _ h8) h9 (by simp) (by simp; omega) (fun o H10 s10 h10 => ?_)
        exact k o H10 (k6.trans (k7.trans (KB.of (s8.trans (s9.trans s10))))) h10 (a7.same (s8.trans (s9.trans s10)))
    · have hje : j = ws.length := by omega
      wtm_at "wp"
      have a6' : At C_QueryReader H6 r x (34 :: t) (l + (ws.length - 2)) := by
        have := a6
        rw [hje, remP_end (Nat.le_refl _)] at this
        exact this
      rw [hje, List.take_length] at h6
      refine a_take a6' hl (by decide +kernel) (fun H7 k7 a7 => ?_)
      have h7 := k7 _ _ h6 nrw.symm
      wtm_at "wp"
      rename_i t8 n8 H8 s8 h8
      refine w_tupOf (.of (s8 _ _ h7)) (fun t9 H9 n9 s9 h9 => ?_)
      refine w_catT (s9 _ _ h8) h9 (by simp) (by simp; omega) (fun o H10 s10 h10 => ?_)
      exact k o H10 (k6.trans (k7.trans (KB.of (s8.trans (s9.trans s10))))) h10 (a7.same (s8.trans (s9.trans s10)))
def digL (f : Int) : List Nat := (Str.ofString (toString f)).cps.toList
theorem dig_cases {f : Int} (h1 : 1 ≤ f) (h2 : f ≤ 20) : (∃ n : Nat, 1 ≤ n ∧ n ≤ 9 ∧ f = (n : Int) ∧ digL f = [48 + n]) ∨ (∃ n : Nat, n ≤ 9 ∧ f = 10 * 1 + (n : Int) ∧ digL f = [49, 48 + n]) ∨ (f = 10 * 2 + ((0 : Nat) : Int) ∧ digL f = [50, 48]) := by
  have a1 : ∀ n : Nat, n ≤ 9 → digL (n : Int) = [48 + n] := by decide +kernel
  have a2 : ∀ n : Nat, n ≤ 9 → digL (10 * 1 + (n : Int)) = [49, 48 + n] := by decide +kernel
  by_cases g1 : f ≤ 9
  · obtain ⟨n, rfl⟩ := Int.eq_ofNat_of_zero_le (by omega : 0 ≤ f)
    exact .inl ⟨n, by omega, by omega, rfl, a1 n (by omega)⟩
  · by_cases g2 : f ≤ 19
    · obtain ⟨n, hn⟩ := Int.eq_ofNat_of_zero_le (by omega : 0 ≤ f - 10)
      have : f = 10 * 1 + (n : Int) := by omega
      subst this
      exact .inr (.inl ⟨n, by omega, rfl, a2 n (by omega)⟩)
    · have : f = 10 * 2 + ((0 : Nat) : Int) := by omega
      subst this
      exact .inr (.inr ⟨rfl, by decide +kernel⟩)
theorem int_one : ∀ n : Nat, n ≤ 9 → PySem.intText? ⟨#[48 + n]⟩ = some (n : Int) := by decide +kernel
def moF (n : Nat) : Str := if n = 1 then "0123456789" else if n = 2 then "0" else ""
theorem mo_get : ∀ n : Nat, n ≤ 9 → (valV (mergeK [] [((.inl 1 : Key), V.str "0123456789"), (.inl 2, V.str "0")]) (.inl (n : Int))).getD (.str "") = .str (moF n) := by decide +kernel
theorem mo_no : ∀ n : Nat, n ≤ 9 → 126 ∉ (moF n).cps.toList := by decide +kernel
theorem mo_in : ∀ n : Nat, n ≤ 9 → (48 + n) ∈ (moF 1).cps.toList := by decide +kernel
def spNearQ (C : Addr) : Sp := fun vs H Q _ => ∃ (r : Addr) (x wa wb : Str) (fa : Int) (l : Nat) (t : List Nat), vs = [.ref r, .str wa] ∧ At C H r x (digL fa ++ (126 :: (wb.cps.toList ++ t))) l ∧ x.length ≤ 5000 ∧ 1 ≤ fa ∧ fa ≤ 20 ∧ isW wb = true ∧ NoLet t ∧
  ∀ p H', KB r H H' → H' p = some (.tup [V.str "near", V.int fa, V.str wa, V.str wb]) → At C H' r x t l → Q (.ref p) H'
theorem ok_nearq {f : Addr} {fd : FuncData} (F : Fun K "near" "QueryReader.near" s_QueryReader_near f fd) (T : Txt K mg Z C_QueryReader) (me_QueryReader_sign : Me P w K mg base C_QueryReader "sign" 1 ["self"] (spSign C_QueryReader)) (me_QueryReader_take : Me P w K mg base C_QueryReader "take" 2 ["self", "signs"] (spTakeQ C_QueryReader)) (me_QueryReader_take_word : Me P w K mg base C_QueryReader "take_word" 3 ["self"] (spWordQ C_QueryReader)) : FnOk P w K mg base CX0 4 f fd ["self", "word"] (spNearQ C_QueryReader) := by
  have c1 := T.cl_QueryReader
  refine F.ok sc_QueryReader_near (fun vs H Q E h => ?_) (fun cdv A outer s H vs Q E hr h => ?_)
  · obtain ⟨r, x, wa, wb, fa, l, t, rfl, _⟩ := h
    rfl
  · obtain ⟨r, x, wa, wb, fa, l, t, rfl, hA, hl, hf1, hf2, hW, hno, k⟩ := h
    obtain ⟨d0, i0, hd0⟩ := hA.ins
    -- the first figure
    obtain ⟨n1, rest, hn1, hn9, hdig, hrest⟩ : ∃ (n1 : Nat) (rest : List Nat), 1 ≤ n1 ∧ n1 ≤ 9 ∧ digL fa = (48 + n1) :: rest ∧ ((rest = [] ∧ fa = (n1 : Int)) ∨ (∃ n2 : Nat, n2 ≤ 9 ∧ rest = [48 + n2] ∧ fa = 10 * (n1 : Int) + (n2 : Int) ∧ (n1 = 1 ∨ (n1 = 2 ∧ n2 = 0)))) := by
      rcases dig_cases hf1 hf2 with ⟨n, a1, a2, a3, a4⟩ | ⟨n, a2, a3, a4⟩ | ⟨a3, a4⟩
      · exact ⟨n, [], a1, a2, a4, .inl ⟨rfl, a3⟩⟩
      · exact ⟨1, [48 + n], by decide, by decide, a4, .inr ⟨n, a2, rfl, a3, .inl rfl⟩⟩
      · exact ⟨2, [48], by decide, by decide, a4, .inr ⟨0, by decide, rfl, a3, .inr ⟨rfl, rfl⟩⟩⟩
    rw [hdig] at hA
    have hin : (48 + n1) ∈ ("123456789" : Str).cps.toList := by
      have : ∀ n : Nat, n ≤ 9 → 1 ≤ n → (48 + n) ∈ ("123456789" : Str).cps.toList := by decide +kernel
      exact this n1 hn9 hn1
    refine ⟨_, (pss_cons (ps_set (i := 2) sc_QueryReader_near.nd rfl (.inl rfl) (pe_callTy cl_intS (by rfl) T.n_int PyProof.Rows.boot_int (pa_cons (pe_me (pv 0) T.cl_QueryReader me_QueryReader_take (hr.mono (by omega)) (pa_cons pe_str pa_nil)) pa_nil)))
 (pss_cons (ps_set (i := 3) sc_QueryReader_near.nd rfl (.inl rfl) (pe_dget2 (u1_of hr) (pe_disp (pps_cons pe_int pe_str (pps_cons pe_int pe_str pps_nil)) rfl rfl (by simp) (by decide)) (pv 2) pe_str ⟨rfl, rfl, rfl, rfl⟩))
 (pss_cons (ps_if (PW.pt (pw_and (pt_cmpR op_ne (pe_me0 (pv 0) T.cl_QueryReader me_QueryReader_sign (hr.mono (by omega))) pe_str (nomark _)) (pw_and1 (pt_cmpR op_inS (pe_me0 (pv 0) T.cl_QueryReader me_QueryReader_sign (hr.mono (by omega))) (pv 3) (by rfl)))))
 (pss_one (ps_set (i := 2) sc_QueryReader_near.nd rfl (.inl rfl) (pe_op op_add (pe_op op_mulU pe_int (pv 2)) (pe_callTy cl_intS (by rfl) T.n_int PyProof.Rows.boot_int (pa_cons (pe_me (pv 0) T.cl_QueryReader me_QueryReader_take (hr.mono (by omega)) (pa_cons (pv 3) pa_nil)) pa_nil)))))
 pss_nil)
 (pss_cons (ps_expr (pe_me (pv 0) T.cl_QueryReader me_QueryReader_take (hr.mono (by omega)) (pa_cons pe_str pa_nil)))
 (pss_one (ps_ret (pe_tup (pa_cons pe_str (pa_cons (pv 2) (pa_cons (pv 1) (pa_cons (pe_me0 (pv 0) T.cl_QueryReader me_QueryReader_take_word (hr.mono (by omega))) pa_nil))))))))))), ?_⟩
    wtm_at "w0"
    wtm_at "wp"
    refine a_take hA hl hin (fun H1 k1 a1 => ?_)
    obtain ⟨d1, i1, hd1⟩ := a1.ins
    refine ⟨_, (n1 : Int), rfl, int_one n1 hn9, by show 1 ≤ 640; decide, ?_⟩
    wtm_at "wp"
    refine w_dget2 ?_
    intro pd npd
    refine ⟨upd_same, [(.inl 1, .str "0123456789"), (.inl 2, .str "0")], rfl, by decide, ?_⟩
    generalize eN : upd (upd H1 pd _) pd _ = H2
    have s2 : Same H1 H2 := fun c o h => by
      have hcp := ne_of_none h npd
      rw [← eN, upd_ne hcp, upd_ne hcp]
      exact h
    have hd2 : H2 pd = some (.dK (mergeK [] [(.inl 1, .str "0123456789"), (.inl 2, .str "0")])) := by
      rw [← eN]
      exact upd_same
    clear eN
    have a2 := a1.same s2
    obtain ⟨d2, i2, hdr2⟩ := a2.ins
    refine ⟨pd, rfl, .inl ⟨_, .inl hd2⟩, ?_⟩
    wtm_at "wp"
    refine ⟨_, .inl ⟨_, .inl (n1 : Int), .inl hd2, rfl, rfl⟩, ?_⟩
    rw [mo_get n1 hn9]
    wtm_at "wq"
    refine w_ifXR (fun b H' => H' = H2 ∧ (b = true → rest ≠ []) ∧ (b = false → rest = [])) (fun σ H' => σ = [some (.ref r), some (.str wa), some (.int fa), some (.str (moF n1))] ∧ KB r H H' ∧ At C_QueryReader H' r x (126 :: (wb.cps.toList ++ t)) l) (fun QB qb => ?_) ?_ ?_ ?_
    · wtm_at "wp"
      rcases hrest with ⟨hr0, hfa⟩ | ⟨n2, hn2, hr2, hfa, hcs⟩
      · rw [hr0] at a2
        refine a_sign a2 hl ?_
        wtm_at "wp"
        refine a_sign a2 hl ?_
        wtm_at "wp"
        have hq := decide_eq_false (mo_no n1 hn9)
        exact qb _ _ ⟨rfl, fun z => (by rw [hq] at z; cases z), fun _ => hr0⟩
      · rw [hr2] at a2
        refine a_sign a2 hl ?_
        wtm_at "wp"
        refine a_sign a2 hl ?_
        wtm_at "wp"
        have hq : decide ((48 + n2) ∈ (moF n1).cps.toList) = true := decide_eq_true (by
          rcases hcs with rfl | ⟨rfl, rfl⟩
          · exact mo_in n2 hn2
          · decide +kernel)
        exact qb _ _ ⟨rfl, fun _ => (by rw [hr2]; simp), fun z => (by rw [hq] at z; cases z)⟩
    · rintro H3 ⟨rfl, hb, _⟩ go
      have hb := hb rfl
      rcases hrest with ⟨hr0, hfa⟩ | ⟨n2, hn2, hr2, hfa, hcs⟩
      · exact absurd hr0 hb
      · rw [hr2] at a2
        have hmem : (48 + n2) ∈ (moF n1).cps.toList := by
          rcases hcs with rfl | ⟨rfl, rfl⟩
          · exact mo_in n2 hn2
          · decide +kernel
        wtm_at "wp"
        refine a_take a2 hl hmem (fun H4 k4 a4 => ?_)
        refine ⟨_, (n2 : Int), rfl, int_one n2 hn2, by show 1 ≤ 640; decide, ?_⟩
        refine ⟨_, _, rfl, rfl, ?_⟩
        refine go _ _ ⟨?_, k1.trans ((KB.of s2).trans k4), a4⟩
        rw [hfa]
        rfl
    · rintro H3 ⟨rfl, _, hb⟩ go
      have hb := hb rfl
      rcases hrest with ⟨hr0, hfa⟩ | ⟨n2, hn2, hr2, hfa, hcs⟩
      · rw [hr0] at a2
        refine go _ _ ⟨?_, k1.trans (KB.of s2), a2⟩
        rw [hfa]
        rfl
      · rw [hr2] at hb
        cases hb
    · rintro σ H3 ⟨rfl, k3, a3⟩
      obtain ⟨d3, i3, hd3⟩ := a3.ins
      wtm_at "wp"
      refine a_take a3 hl (by decide +kernel) (fun H4 k4 a4 => ?_)
      obtain ⟨d4, i4, hd4⟩ := a4.ins
      wtm_at "wp"
      refine a_word a4 hl hW hno (fun H5 k5 a5 => ?_)
      wtm_at "wp"
      rename_i t6 n6 H6 s6 h6
      exact k t6 H6 (k3.trans (k4.trans (k5.trans (KB.of s6)))) h6 (a5.same s6)

end
end K24

namespace K24
section
variable {P : Program} {w : World} {K : PySem.W.Frag} {mg : Str → Option Value} {base : Heap} {Z : Zs} {C_QueryReader : Addr}
abbrev s_QueryReader_group : Stmt := inClass (topS 43) 8
theorem sc_QueryReader_group : FnScope ["self", "deep", "parts", "sign"] ["self", "deep"] (defScope s_QueryReader_group) := ⟨rfl, rfl, rfl, by decide +kernel, rfl, by decide +kernel, by decide +kernel⟩
abbrev s_QueryReader_query : Stmt := inClass (topS 43) 5
theorem sc_QueryReader_query : FnScope ["self", "deep", "word"] ["self", "deep"] (defScope s_QueryReader_query) := ⟨rfl, rfl, rfl, by decide +kernel, rfl, by decide +kernel, by decide +kernel⟩
theorem cnt_pos : ∀ {n : Nat} {d : PyData} {m : Nat}, cnt n d = some m → 1 ≤ m
  | 0, _, _, h => by cases h
  | n + 1, d, m, h => by
    cases cnt_inv h with
    | word => exact Nat.le_refl _
    | phrase h1 => omega
    | near => decide
    | @join k ps _ a b c =>
      obtain ⟨j1, j2, j3⟩ := join_some c
      unfold joinC at c
      split at c
      · cases c
        match ps, j1, j3 with
        | p :: r, _, j3 =>
          obtain ⟨c', hc'⟩ := j3 p (by simp)
          have := cnt_pos hc'
          rw [List.map_cons, hc']
          simp
          omega
      · cases c
def lsg (k : Str) : Nat := if k = "and" then 38 else if k = "or" then 124 else 45
theorem sgn_l {k : Str} (h : k = "and" ∨ k = "or" ∨ k = "but") : (sgnQ k).cps.toList = [32, lsg k, 32] := by
  rcases h with rfl | rfl | rfl <;> decide +kernel
def Knd (K : PySem.W.Frag) (w : World) (D : Addr) : Prop := ∀ k : Str, (k = "and" ∨ k = "or" ∨ k = "but") → KDct K w D ⟨#[lsg k]⟩ (.str k)
def sumC (n : Nat) (ps : List PyData) : Nat := ((ps.map (cnt n)).filterMap id).sum
theorem sumC_snoc {n : Nat} {ps : List PyData} {p : PyData} {c : Nat} (h : cnt n p = some c) : sumC n (ps ++ [p]) = sumC n ps + c := by
  unfold sumC
  simp [h]
theorem sumC_app {n : Nat} {a b : List PyData} : sumC n (a ++ b) = sumC n a + sumC n b := by
  unfold sumC
  rw [List.map_append, List.filterMap_append, List.sum_append]
theorem sumC_le {n : Nat} {ps : List PyData} (j : Nat) : sumC n (ps.take j) ≤ sumC n ps := by
  have e2 := sumC_app (n := n) (a := ps.take j) (b := ps.drop j)
  rw [List.take_append_drop] at e2
  omega
def remG (k : Str) (n : Nat) (ps : List PyData) (j : Nat) (t : List Nat) : List Nat := (if j < ps.length then (sgnQ k).cps.toList ++ jn (sgnQ k).cps.toList ((ps.drop j).map (txL n)) else []) ++ t
theorem remG_step {k : Str} {n : Nat} {ps : List PyData} {j : Nat} {t : List Nat} (hk : k = "and" ∨ k = "or" ∨ k = "but") (h : j < ps.length) : remG k n ps j t = 32 :: lsg k :: 32 :: (txL n ps[j] ++ remG k n ps (j + 1) t) := by
  unfold remG
  rw [if_pos h, List.drop_eq_getElem_cons h, List.map_cons, jn_cons, sgn_l hk]
  by_cases h2 : j + 1 < ps.length
  · rw [if_pos h2, if_neg (fun z => by
      have := congrArg List.length z
      simp at this
      omega)]
    simp
  · rw [if_neg h2, if_pos (by rw [List.map_eq_nil_iff, List.drop_eq_nil_iff]; omega)]
    simp
theorem remG_end {k : Str} {n : Nat} {ps : List PyData} {j : Nat} {t : List Nat} (h : ps.length ≤ j) : remG k n ps j t = t := by
  unfold remG
  rw [if_neg (by omega)]
  rfl
/-- what may stand behind a query -/
def Foll (t : List Nat) : Prop := ∀ c u, t = c :: u → c = 32 ∨ c = 41
theorem Foll.nolet {t : List Nat} (h : Foll t) : NoLet t := fun c u e => by
  rcases h c u e with rfl | rfl
  · decide +kernel
  · decide +kernel
theorem foll_remG {k : Str} {n : Nat} {ps : List PyData} {j : Nat} {t : List Nat} (hk : k = "and" ∨ k = "or" ∨ k = "but") : Foll (remG k n ps j (41 :: t)) := fun c u e => by
  rcases Nat.lt_or_ge j ps.length with h | h
  · rw [remG_step hk h] at e
    cases e
    exact .inl rfl
  · rw [remG_end h] at e
    cases e
    exact .inr rfl
def spQq (C : Addr) (N : Nat) : Sp := fun vs H Q _ => ∃ (r : Addr) (x : Str) (l n m : Nat) (q : PyData) (t : List Nat), vs = [.ref r, .int (n : Nat)] ∧ At C H r x (txL n q ++ t) l ∧ x.length ≤ 5000 ∧ n ≤ N ∧ cnt n q = some m ∧ l + (m - 1) ≤ 12 ∧ Foll t ∧
  ∀ p H', KB r H H' → Rp H' (.ref p) q → At C H' r x t (l + (m - 1)) → Q (.ref p) H'
theorem spQq0 {C : Addr} : ∀ vs H Q E, ¬ spQq C 0 vs H Q E := fun vs H Q E ⟨_, _, _, n, _, _, _, _, _, _, hn, hc, _⟩ => by
  have : n = 0 := by omega
  rw [this] at hc
  cases hc
def spGrp (C : Addr) (N : Nat) : Sp := fun vs H Q _ => ∃ (r : Addr) (x k : Str) (l n : Nat) (ps : List PyData) (t : List Nat), vs = [.ref r, .int ((n + 1 : Nat) : Int)] ∧ At C H r x (jn (sgnQ k).cps.toList (ps.map (txL n)) ++ (41 :: t)) l ∧ x.length ≤ 5000 ∧ n ≤ N ∧ (k = "and" ∨ k = "or" ∨ k = "but") ∧ 2 ≤ ps.length ∧ ps.length ≤ 4 ∧ (k = "but" → ps.length = 2) ∧ (∀ p ∈ ps, ∃ c, cnt n p = some c) ∧ 1 ≤ l ∧ l + sumC n ps ≤ 14 ∧
  ∀ p H', KB r H H' → Rp H' (.ref p) (.tuple (.str k :: ps)) → At C H' r x t (l + sumC n ps - 2) → Q (.ref p) H'
theorem ok_grp {N k0 : Nat} {f : Addr} {fd : FuncData} {D_K : Addr} (F : Fun K "group" "QueryReader.group" s_QueryReader_group f fd) (T : Txt K mg Z C_QueryReader) (hk0 : 2 ≤ k0) (kc_KINDS_querytexts : mg "KINDS_querytexts" = some (.ref D_K)) (knd : Knd K w D_K) (me_QueryReader_take : Me P w K mg base C_QueryReader "take" 2 ["self", "signs"] (spTakeQ C_QueryReader)) (me_QueryReader_take_one_more : Me P w K mg base C_QueryReader "take_one_more" 2 ["self", "sign"] (spMore C_QueryReader)) (me_QueryReader_query : Me P w K mg base C_QueryReader "query" k0 ["self", "deep"] (spQq C_QueryReader N)) : FnOk P w K mg base CX0 (k0 + 1) f fd ["self", "deep"] (spGrp C_QueryReader N) := by
  have c1 := T.cl_QueryReader
  refine F.ok sc_QueryReader_group (fun vs H Q E h => ?_) (fun cdv A outer s H vs Q E hr h => ?_)
  · obtain ⟨r, x, k, l, n, ps, t, rfl, _⟩ := h
    rfl
  · obtain ⟨r, x, kk, l, n, ps, t, rfl, hA, hl, hn, hkk, h2, h4, hbut, hcs, hl1, hl14, k⟩ := h
    have kq := knd kk hkk
    obtain ⟨p0, p1, pr, rfl⟩ : ∃ p0 p1 pr, ps = p0 :: p1 :: pr := by
      match ps, h2 with
      | a :: b :: r, _ => exact ⟨a, b, r, rfl⟩
    obtain ⟨c0, hc0⟩ := hcs p0 (by simp)
    obtain ⟨c1', hc1⟩ := hcs p1 (by simp)
    have q0 := cnt_pos hc0
    have q1 := cnt_pos hc1
    have e0 : jn (sgnQ kk).cps.toList ((p0 :: p1 :: pr).map (txL n)) ++ (41 :: t) = txL n p0 ++ (32 :: lsg kk :: 32 :: (txL n p1 ++ remG kk n (p0 :: p1 :: pr) 2 (41 :: t))) := by
      rw [List.map_cons, List.map_cons, jn_cons, if_neg (by simp), jn_cons, sgn_l hkk]
      unfold remG
      by_cases hq : pr = []
      · subst hq
        simp
      · have h2 : 2 < (p0 :: p1 :: pr).length := by
          cases pr with
          | nil => exact absurd rfl hq
          | cons _ _ => simp
        rw [if_pos h2, if_neg (by rw [List.map_eq_nil_iff]; exact hq), sgn_l hkk]
        simp
    rw [e0] at hA
    obtain ⟨d0, i0, hd0⟩ := hA.ins
    have hs2 : sumC n [p0, p1] = c0 + c1' := by
      unfold sumC
      simp [hc0, hc1]
    have hsle := sumC_le (n := n) (ps := p0 :: p1 :: pr) 2
    have e2t : (p0 :: p1 :: pr).take 2 = [p0, p1] := rfl
    rw [e2t, hs2] at hsle
    have hs22 : 2 ≤ sumC n ((p0 :: p1 :: pr).take 2) := by
      rw [e2t, hs2]
      omega
    have en : (((n + 1 : Nat) : Int) - 1) = ((n : Nat) : Int) := by omega
    have tkr : ∀ {J J' : Hp} {u : List Nat} {l : Nat}, At C_QueryReader J r x u l → KB r J J' → TupK J J' := fun ha kk a xs h => kk _ _ h (fun z => by
      obtain ⟨d, i, hd⟩ := ha.ins
      rw [z, hd] at h
      cases h)
    refine ⟨_, (pss_cons (ps_set (i := 2) sc_QueryReader_group.nd rfl (.inl rfl) (pe_lst (pa_cons (pe_me (pv 0) T.cl_QueryReader me_QueryReader_query (hr.mono (by omega)) (pa_cons (pe_op op_sub (pv 1) pe_int) pa_nil)) pa_nil)))
 (pss_cons (ps_expr (pe_me (pv 0) T.cl_QueryReader me_QueryReader_take (hr.mono (by omega)) (pa_cons pe_str pa_nil)))
 (pss_cons (ps_set (i := 3) sc_QueryReader_group.nd rfl (.inl rfl) (pe_me (pv 0) T.cl_QueryReader me_QueryReader_take (hr.mono (by omega)) (pa_cons pe_str pa_nil)))
 (pss_cons (ps_expr (pe_me (pv 0) T.cl_QueryReader me_QueryReader_take (hr.mono (by omega)) (pa_cons pe_str pa_nil)))
 (pss_cons (ps_expr (pe_bm PySem.F.plainAttrs_list PySem.F.slot_list_append PySem.F.type_list_append mt_append (pv 2) (pa_cons (pe_me (pv 0) T.cl_QueryReader me_QueryReader_query (hr.mono (by omega)) (pa_cons (pe_op op_sub (pv 1) pe_int) pa_nil)) pa_nil)))
 (pss_cons (ps_while PassesOwn.never (PW.pt (pw_and (pt_cmpR op_ne (pv 3) pe_str (nomark _)) (pw_and (pt_cmpR op_lt (pe_callB cl_len (by rfl) T.n_len PySem.boot_len (pa_cons (pv 2) pa_nil)) pe_int (nomark _)) (pw_and1 (pt_val (pe_me (pv 0) T.cl_QueryReader me_QueryReader_take_one_more (hr.mono (by omega)) (pa_cons pe_str pa_nil)))))))
 (pss_cons (ps_expr (pe_me (pv 0) T.cl_QueryReader me_QueryReader_take (hr.mono (by omega)) (pa_cons (pv 3) pa_nil)))
 (pss_cons (ps_expr (pe_me (pv 0) T.cl_QueryReader me_QueryReader_take (hr.mono (by omega)) (pa_cons pe_str pa_nil)))
 (pss_one (ps_expr (pe_bm PySem.F.plainAttrs_list PySem.F.slot_list_append PySem.F.type_list_append mt_append (pv 2) (pa_cons (pe_me (pv 0) T.cl_QueryReader me_QueryReader_query (hr.mono (by omega)) (pa_cons (pe_op op_sub (pv 1) pe_int) pa_nil)) pa_nil)))))))
 (pss_cons (ps_expr (pe_me (pv 0) T.cl_QueryReader me_QueryReader_take (hr.mono (by omega)) (pa_cons pe_str pa_nil)))
 (pss_one (ps_ret (pe_op op_catT (pe_tup (pa_cons (pe_ix ix_kdict (pe_gcls kc_KINDS_querytexts rfl) (pv 3) (fun _ _ => rfl)) pa_nil)) (pe_callTy cl_tuple (by rfl) T.n_tuple PyProof.Rows.boot_tuple (pa_cons (pv 2) pa_nil)))))))))))), ?_⟩
    wtm_at "w0"
    wtm_at "wp"
    rw [en]
    refine ⟨r, x, l, n, c0, p0, _, rfl, hA, hl, hn, hc0, by omega, fun c u e => (by cases e; exact .inl rfl), fun v1 H1 k1 r1 a1 => ?_⟩
    obtain ⟨d1, i1, hd1⟩ := a1.ins
    wtm_at "wp"
    rename_i lp nlp H2 s2 h2'
    have a2 := a1.same s2
    have nrp : r ≠ lp := ne_of_none hd1 nlp
    have n0 : H lp = none := kb_newD k1 hd1 nlp
    obtain ⟨d2, i2, hd2⟩ := a2.ins
    refine a_take a2 hl (by decide +kernel) (fun H3 k3 a3 => ?_)
    obtain ⟨d3, i3, hd3⟩ := a3.ins
    wtm_at "wp"
    refine a_take a3 hl (by rcases hkk with rfl | rfl | rfl <;> decide +kernel) (fun H4 k4 a4 => ?_)
    obtain ⟨d4, i4, hd4⟩ := a4.ins
    wtm_at "wp"
    refine a_take a4 hl (by decide +kernel) (fun H5 k5 a5 => ?_)
    obtain ⟨d5, i5, hd5⟩ := a5.ins
    wtm_at "wp"
    rw [en]
    refine ⟨r, x, _, n, c1', p1, _, rfl, a5, hl, hn, hc1, by omega, foll_remG hkk, fun v2 H6 k6 r6 a6 => ?_⟩
    have K26 : KB r H2 H6 := k3.trans (k4.trans (k5.trans k6))
    have h6 := K26 _ _ h2' nrp.symm
    have r16 := (r1.same s2).tupk (tkr a2 K26) (cnt_noL hc0)
    wtm_at "wp"
    refine w_append h6 (by show 1 < sizeLine; decide) (fun H7 k7 h7 => ?_)
    have K6 : KB r H H6 := k1.trans ((KB.of s2).trans K26)
    have tkl : ∀ {J J' : Hp} {ys : List V}, J lp = some (.lst ys) → KB lp J J' → TupK J J' := fun h kk => TupK.kb kk h
    wtm_at "wp"
    refine ⟨fun m σ H' => ∃ (j : Nat) (xs : List V), σ = [some (.ref r), some (.int ((n + 1 : Nat) : Int)), some (.ref lp), some (.str ⟨#[lsg kk]⟩)] ∧ KB r H H' ∧ At C_QueryReader H' r x (remG kk n (p0 :: p1 :: pr) j (41 :: t)) (l + sumC n ((p0 :: p1 :: pr).take j) - 2) ∧ H' lp = some (.lst xs) ∧ RpAll H' xs ((p0 :: p1 :: pr).take j) ∧ 2 ≤ j ∧ j ≤ (p0 :: p1 :: pr).length ∧ m = (p0 :: p1 :: pr).length - j, ⟨_, 2, _, rfl, kb2 K6 k7 n0, ?_, h7, ?_, Nat.le_refl _, by simp, rfl⟩, ?_⟩
    · rw [e2t, hs2]
      have := a6.kb k7 nrp
      rw [show l + (c0 - 1) + (c1' - 1) = l + (c0 + c1') - 2 by omega] at this
      exact this
    · exact .cons (r16.tupk (tkl h6 k7) (cnt_noL hc0)) (.cons (r6.tupk (tkl h6 k7) (cnt_noL hc1)) .nil)
    rintro m σ H6 ⟨j, xs, rfl, k6, a6, h6, rr6, hj2, hjl, rfl⟩
    obtain ⟨d6, i6, hd6⟩ := a6.ins
    have hxl := rr6.length
    rw [List.length_take] at hxl
    generalize hws : p0 :: p1 :: pr = ps at *
    have nosum : j = ps.length → sumC n (ps.take j) = sumC n ps := fun e => by rw [e, List.take_length]
    have hlsg : kk ≠ "but" → V.str (⟨#[lsg kk]⟩ : Str) ≠ V.str "-" := fun hb => by
      rcases hkk with rfl | rfl | rfl
      · decide +kernel
      · decide +kernel
      · exact absurd rfl hb
    wtm_at "wp"
    by_cases hkb : kk = "but"
    · have hje : j = ps.length := by
        have := hbut hkb
        omega
      rw [if_neg (by rw [hkb]; decide +kernel)]
      wtm_at "wp"
      rw [hje, remG_end (Nat.le_refl _)] at a6
      rw [hje, List.take_length] at rr6
      refine a_take a6 hl (by decide +kernel) (fun H7 k7 a7 => ?_)
      have h7 := k7 _ _ h6 nrp.symm
      have rr7 := rr6.tupk (tkr a6 k7) (noLs_cnt hcs)
      wtm_at "wp"
      refine ⟨D_K, _, _, rfl, rfl, kq, ?_⟩
      wtm_at "wp"
      rename_i t8 n8 H8 s8 h8
      refine w_tupOf (.of (s8 _ _ h7)) (fun t9 H9 n9 s9 h9 => ?_)
      refine w_catT (s9 _ _ h8) h9 (by simp) (by simp; omega) (fun o H10 s10 h10 => ?_)
      have S10 := s8.trans (s9.trans s10)
      refine k o H10 (k6.trans (k7.trans (KB.of S10))) (.tup h10 (.cons (.str _) (rr7.same S10))) ?_
      have := a7.same S10
      rw [List.take_length] at this
      exact this
    · rw [if_pos (by rw [decide_eq_false (hlsg hkb)]; rfl)]
      wtm_at "wp"
      rw [hxl]
      refine w_dec (fun g1 => ?_) (fun g1 => ?_)
      · wtm_at "wp"
        rcases Nat.lt_or_ge j ps.length with hlt' | hge
        · rw [remG_step hkk hlt'] at a6
          obtain ⟨c, hc⟩ := hcs _ (List.getElem_mem hlt')
          have qc := cnt_pos hc
          have hsn : sumC n (ps.take (j + 1)) = sumC n (ps.take j) + c := by
            rw [take_succL (List.getElem?_eq_getElem hlt')]
            exact sumC_snoc hc
          have hsl := sumC_le (n := n) (ps := ps) (j + 1)
          have hsl2 : 2 ≤ sumC n (ps.take j) := by
            have := sumC_le (n := n) (ps := ps.take j) 2
            rw [List.take_take, Nat.min_eq_left hj2] at this
            omega
          refine a_hit (g := 32) a6 hl (by omega) (fun H7 k7 a7 => ?_)
          obtain ⟨d7, i7, hd7⟩ := a7.ins
          wtm_at "wp"
          refine w_loopT ?_
          wtm_at "wp"
          refine a_take a7 hl (by show lsg kk ∈ [lsg kk]; exact List.mem_singleton.mpr rfl) (fun H8 k8 a8 => ?_)
          obtain ⟨d8, i8, hd8⟩ := a8.ins
          wtm_at "wp"
          refine a_take a8 hl (by decide +kernel) (fun H9 k9 a9 => ?_)
          obtain ⟨d9, i9, hd9⟩ := a9.ins
          wtm_at "wp"
          rw [en]
          refine ⟨r, x, _, n, c, ps[j], _, rfl, a9, hl, hn, hc, by omega, foll_remG hkk, fun v2 H10 k10 r10 a10 => ?_⟩
          have K10 : KB r H6 H10 := k7.trans (k8.trans (k9.trans k10))
          have h10 := K10 _ _ h6 nrp.symm
          have rr10 := rr6.tupk (tkr a6 K10) (noLs_cnt fun p hp => hcs p (List.mem_of_mem_take hp))
          wtm_at "wp"
          refine w_append h10 (Nat.lt_of_le_of_lt (by rw [hxl]; omega : _ ≤ 10) (by decide)) (fun H11 k11 h11 => ?_)
          refine ⟨ps.length - (j + 1), by omega, j + 1, _, rfl, kb2 (k6.trans K10) k11 n0, ?_, h11, ?_, by omega, by omega, rfl⟩
          · have ej : l + sumC n (ps.take (j + 1)) - 2 = l + sumC n (ps.take j) - 2 + 1 + (c - 1) := by omega
            rw [ej]
            exact a10.kb k11 nrp
          · rw [take_succL (List.getElem?_eq_getElem hlt')]
            exact (rr10.tupk (tkl h10 k11) (noLs_cnt fun p hp => hcs p (List.mem_of_mem_take hp))).append (.cons (r10.tupk (tkl h10 k11) (cnt_noL hc)) .nil)
        · have hje : j = ps.length := by omega
          have a6e := a6
          rw [hje, remG_end (Nat.le_refl _)] at a6e
          refine a_miss (g := 32) a6e hl (by rw [List.take_length]; omega) (fun u z => by cases z) ?_
          wtm_at "wp"
          rw [hje, remG_end (Nat.le_refl _)] at a6
          rw [hje, List.take_length] at rr6
          refine a_take a6 hl (by decide +kernel) (fun H7 k7 a7 => ?_)
          have h7 := k7 _ _ h6 nrp.symm
          have rr7 := rr6.tupk (tkr a6 k7) (noLs_cnt hcs)
          wtm_at "wp"
          refine ⟨D_K, _, _, rfl, rfl, kq, ?_⟩
          wtm_at "wp"
          rename_i t8 n8 H8 s8 h8
          refine w_tupOf (.of (s8 _ _ h7)) (fun t9 H9 n9 s9 h9 => ?_)
          refine w_catT (s9 _ _ h8) h9 (by simp) (by simp; omega) (fun o H10 s10 h10 => ?_)
          have S10 := s8.trans (s9.trans s10)
          refine k o H10 (k6.trans (k7.trans (KB.of S10))) (.tup h10 (.cons (.str _) (rr7.same S10))) ?_
          have := a7.same S10
          rw [List.take_length] at this
          exact this
      · have hje : j = ps.length := by omega
        wtm_at "wp"
        rw [hje, remG_end (Nat.le_refl _)] at a6
        rw [hje, List.take_length] at rr6
        refine a_take a6 hl (by decide +kernel) (fun H7 k7 a7 => ?_)
        have h7 := k7 _ _ h6 nrp.symm
        have rr7 := rr6.tupk (tkr a6 k7) (noLs_cnt hcs)
        wtm_at "wp"
        refine ⟨D_K, _, _, rfl, rfl, kq, ?_⟩
        wtm_at "wp"
        rename_i t8 n8 H8 s8 h8
        refine w_tupOf (.of (s8 _ _ h7)) (fun t9 H9 n9 s9 h9 => ?_)
        refine w_catT (s9 _ _ h8) h9 (by simp) (by simp; omega) (fun o H10 s10 h10 => ?_)
        have S10 := s8.trans (s9.trans s10)
        refine k o H10 (k6.trans (k7.trans (KB.of S10))) (.tup h10 (.cons (.str _) (rr7.same S10))) ?_
        have := a7.same S10
        rw [List.take_length] at this
        exact this

end
end K24

namespace K24
section
variable {P : Program} {w : World} {K : PySem.W.Frag} {mg : Str → Option Value} {base : Heap} {Z : Zs} {C_QueryReader : Addr}
theorem w_first {wd : Str} {t : List Nat} {g : Nat} (h : isW wd = true) (hg : g < 97 ∨ 122 < g) : ∀ u, wd.cps.toList ++ t ≠ g :: u := fun u e => by
  have hs := isW_signs h
  cases hc : wd.cps.toList with
  | nil =>
    have : wd.length = 0 := by
      have := congrArg List.length hc
      exact this
    unfold isW at h
    rw [this] at h
    simp at h
  | cons c r =>
    rw [hc] at e
    cases e
    have := hs g (by rw [hc]; exact List.mem_cons_self)
    omega
theorem Foll.no126 {t : List Nat} (h : Foll t) : ∀ u, t ≠ 126 :: u := fun u e => by
  rcases h _ u e with z | z <;> cases z
theorem ok_qry {N k0 : Nat} {f : Addr} {fd : FuncData} (F : Fun K "query" "QueryReader.query" s_QueryReader_query f fd) (T : Txt K mg Z C_QueryReader) (hk0 : 5 ≤ k0) (me_QueryReader_take_one_more : Me P w K mg base C_QueryReader "take_one_more" 2 ["self", "sign"] (spMore C_QueryReader)) (me_QueryReader_take_word : Me P w K mg base C_QueryReader "take_word" 3 ["self"] (spWordQ C_QueryReader)) (me_QueryReader_phrase : Me P w K mg base C_QueryReader "phrase" 4 ["self"] (spPhrQ C_QueryReader)) (me_QueryReader_near : Me P w K mg base C_QueryReader "near" 4 ["self", "word"] (spNearQ C_QueryReader)) (me_QueryReader_group : Me P w K mg base C_QueryReader "group" k0 ["self", "deep"] (spGrp C_QueryReader N)) : FnOk P w K mg base CX0 (k0 + 1) f fd ["self", "deep"] (spQq C_QueryReader (N + 1)) := by
  have c1 := T.cl_QueryReader
  refine F.ok sc_QueryReader_query (fun vs H Q E h => ?_) (fun cdv A outer s H vs Q E hr h => ?_)
  · obtain ⟨r, x, l, n, m, q, t, rfl, _⟩ := h
    rfl
  · obtain ⟨r, x, l, n, m, q, t, rfl, hA, hl, hn, hc, hl12, hf, k⟩ := h
    obtain ⟨d0, i0, hd0⟩ := hA.ins
    have hm := cnt_pos hc
    match n, hc with
    | 0, hc => cases hc
    | n + 1, hc =>
    refine ⟨_, (pss_cons (ps_if (pt_val (pe_me (pv 0) T.cl_QueryReader me_QueryReader_take_one_more (hr.mono (by omega)) (pa_cons pe_str pa_nil)))
 (pss_one (ps_ret (pe_me0 (pv 0) T.cl_QueryReader me_QueryReader_phrase (hr.mono (by omega)))))
 pss_nil)
 (pss_cons (ps_if (PW.pt (pw_and (pt_cmpR op_gt (pv 1) pe_int (nomark _)) (pw_and1 (pt_val (pe_me (pv 0) T.cl_QueryReader me_QueryReader_take_one_more (hr.mono (by omega)) (pa_cons pe_str pa_nil))))))
 (pss_one (ps_ret (pe_me (pv 0) T.cl_QueryReader me_QueryReader_group (hr.mono (by omega)) (pa_cons (pv 1) pa_nil))))
 pss_nil)
 (pss_cons (ps_set (i := 2) sc_QueryReader_query.nd rfl (.inl rfl) (pe_me0 (pv 0) T.cl_QueryReader me_QueryReader_take_word (hr.mono (by omega))))
 (pss_cons (ps_if (pt_val (pe_me (pv 0) T.cl_QueryReader me_QueryReader_take_one_more (hr.mono (by omega)) (pa_cons pe_str pa_nil)))
 (pss_one (ps_ret (pe_me (pv 0) T.cl_QueryReader me_QueryReader_near (hr.mono (by omega)) (pa_cons (pv 2) pa_nil))))
 pss_nil)
 (pss_one (ps_ret (pe_tup (pa_cons pe_str (pa_cons (pv 2) pa_nil))))))))), ?_⟩
    wtm_at "w0"
    wtm_at "wp"
    cases cnt_inv hc with
    | @phrase ws h1 h2 h3 =>
      rw [txl_phrase, List.cons_append, List.append_assoc] at hA
      refine a_hit (g := 34) hA hl (by omega) (fun H1 k1 a1 => ?_)
      obtain ⟨d1, i1, hd1⟩ := a1.ins
      wtm_at "wp"
      refine ⟨r, x, l + 1, ws, t, rfl, a1, hl, h1, h2, h3, by omega, fun p H2 k2 h2' a2 => ?_⟩
      refine k p H2 (k1.trans k2) (.tup h2' (.cons (.str _) (rpAll_str ws))) ?_
      rw [show l + 1 + (ws.length - 2) = l + (ws.length - 1) by omega] at a2
      exact a2
    | @join kk ps _ a b c =>
      obtain ⟨j1, j2, j3⟩ := join_some c
      have ec : sumC n ps = m := by
        unfold joinC at c
        split at c
        · exact Option.some.inj c
        · cases c
      have hn1 : 1 ≤ n := by
        match n, ps, j1, j3 with
        | 0, p :: _, _, j3 =>
          obtain ⟨c', hc'⟩ := j3 p List.mem_cons_self
          cases hc'
        | n + 1, _, _, _ => omega
      have hm2 : 2 ≤ m := by
        match ps, j1, j3, ec with
        | p0 :: p1 :: pr, _, j3, ec =>
          obtain ⟨c0, h0⟩ := j3 p0 (by simp)
          obtain ⟨c1, h1⟩ := j3 p1 (by simp)
          have q0 := cnt_pos h0
          have q1 := cnt_pos h1
          have : sumC n (p0 :: p1 :: pr) = c0 + (c1 + sumC n pr) := by
            unfold sumC
            rw [List.map_cons, List.map_cons, h0, h1]
            simp only [List.filterMap_cons, id, List.sum_cons]
          omega
      rw [txl_join a, List.cons_append, List.append_assoc] at hA
      refine a_miss (g := 34) hA hl (by omega) (fun u z => by cases z) ?_
      wtm_at "wp"
      rw [if_pos (decide_eq_true (by omega))]
      wtm_at "wp"
      refine a_hit (g := 40) hA hl (by omega) (fun H1 k1 a1 => ?_)
      obtain ⟨d1, i1, hd1⟩ := a1.ins
      wtm_at "wp"
      refine ⟨r, x, kk, l + 1, n, ps, t, rfl, a1, hl, by omega, a, j1, j2, b, j3, by omega, by omega, fun p H2 k2 r2 a2 => ?_⟩

      refine k p H2 (k1.trans k2) r2 ?_
      rw [ec, show l + 1 + m - 2 = l + (m - 1) by omega] at a2
      exact a2
    | @word wd hw =>
      rw [txl_word] at hA
      refine a_miss (g := 34) hA hl (by omega) (w_first hw (by decide)) ?_
      wtm_at "wp"
      have go : ∀ {R : Prop}, (R) → R := fun h => h
      refine w_dec (fun g1 => ?_) (fun g1 => ?_)
      · wtm_at "wp"
        refine a_miss (g := 40) hA hl (by omega) (w_first hw (by decide)) ?_
        wtm_at "wp"
        refine a_word hA hl hw hf.nolet (fun H1 k1 a1 => ?_)
        obtain ⟨d1, i1, hd1⟩ := a1.ins
        wtm_at "wp"
        refine a_miss (g := 126) a1 hl (by omega) hf.no126 ?_
        wtm_at "wp"
        rename_i t6 n6 H6 s6 h6
        exact k t6 H6 (k1.trans (KB.of s6)) (.tup h6 (.cons (.str _) (.cons (.str _) .nil))) (a1.same s6)
      · wtm_at "wp"
        refine a_word hA hl hw hf.nolet (fun H1 k1 a1 => ?_)
        obtain ⟨d1, i1, hd1⟩ := a1.ins
        wtm_at "wp"
        refine a_miss (g := 126) a1 hl (by omega) hf.no126 ?_
        wtm_at "wp"
        rename_i t6 n6 H6 s6 h6
        exact k t6 H6 (k1.trans (KB.of s6)) (.tup h6 (.cons (.str _) (.cons (.str _) .nil))) (a1.same s6)
    | @near fa wa wb h1 h2 h3 h4 =>
      rw [txl_near] at hA
      simp only [List.append_assoc, List.cons_append] at hA
      refine a_miss (g := 34) hA hl (by omega) (w_first h3 (by decide)) ?_
      wtm_at "wp"
      refine w_dec (fun g1 => ?_) (fun g1 => ?_)
      · wtm_at "wp"
        refine a_miss (g := 40) hA hl (by omega) (w_first h3 (by decide)) ?_
        wtm_at "wp"
        refine a_word hA hl h3 (nolet (by decide +kernel)) (fun H1 k1 a1 => ?_)
        obtain ⟨d1, i1, hd1⟩ := a1.ins
        wtm_at "wp"
        refine a_hit (g := 126) a1 hl (by omega) (fun H2 k2 a2 => ?_)
        obtain ⟨d2, i2, hd2⟩ := a2.ins
        wtm_at "wp"
        refine ⟨r, x, wa, wb, fa, l + 1, t, rfl, a2, hl, h1, h2, h4, hf.nolet, fun p H3 k3 h3' a3 => ?_⟩
        exact k p H3 (k1.trans (k2.trans k3)) (.tup h3' (.cons (.str _) (.cons (.int _) (.cons (.str _) (.cons (.str _) .nil))))) a3
      · wtm_at "wp"
        refine a_word hA hl h3 (nolet (by decide +kernel)) (fun H1 k1 a1 => ?_)
        obtain ⟨d1, i1, hd1⟩ := a1.ins
        wtm_at "wp"
        refine a_hit (g := 126) a1 hl (by omega) (fun H2 k2 a2 => ?_)
        obtain ⟨d2, i2, hd2⟩ := a2.ins
        wtm_at "wp"
        refine ⟨r, x, wa, wb, fa, l + 1, t, rfl, a2, hl, h1, h2, h4, hf.nolet, fun p H3 k3 h3' a3 => ?_⟩
        exact k p H3 (k1.trans (k2.trans k3)) (.tup h3' (.cons (.str _) (.cons (.int _) (.cons (.str _) (.cons (.str _) .nil))))) a3

end
end K24

namespace K24
section
variable {P : Program} {w : World} {K : PySem.W.Frag} {mg : Str → Option Value} {base : Heap} {Z : Zs} {C_QueryReader : Addr}
abbrev s_QueryReader___init__ : Stmt := inClass (topS 43) 0
theorem sc_QueryReader___init__ : FnScope ["self", "text"] ["self", "text"] (defScope s_QueryReader___init__) := ⟨rfl, rfl, rfl, by decide +kernel, rfl, by decide +kernel, by decide +kernel⟩
abbrev s_read : Stmt := topS 44
theorem sc_read : FnScope ["text", "reader", "query"] ["text"] (defScope s_read) := ⟨rfl, rfl, rfl, by decide +kernel, rfl, by decide +kernel, by decide +kernel⟩
def spInitQ (C : Addr) : Sp := fun vs H Q _ => ∃ (r d : Addr) (x : Str), vs = [.ref r, .str x] ∧ H r = some (.ins C d []) ∧ ∀ H', KB r H H' → Rq C H' r x 0 1 → Q .non H'
theorem ok_initq {f : Addr} {fd : FuncData} (F : Fun K "__init__" "QueryReader.__init__" s_QueryReader___init__ f fd) (T : Txt K mg Z C_QueryReader) : FnOk P w K mg base CX0 1 f fd ["self", "text"] (spInitQ C_QueryReader) := by
  have c1 := T.cl_QueryReader
  have n1 := T.na_QueryReader_text
  have n2 := T.na_QueryReader_at
  have n3 := T.na_QueryReader_least
  refine F.ok sc_QueryReader___init__ (fun vs H Q E h => ?_) (fun cdv A outer s H vs Q E hr h => ?_)
  · obtain ⟨r, d, x, rfl, _⟩ := h
    rfl
  · obtain ⟨r, d, x, rfl, hd, k⟩ := h
    refine ⟨_, (pss_cons (ps_if (pt_not (pt_val (pe_callB call_isi (by rfl) T.n_isinstance PyProof.Rows.boot_isinstance (pa_cons (pv 1) (pa_cons (pe_bltn (v := .ty "str") (by rfl) T.n_str PyProof.Rows.boot_str rfl) pa_nil)))))
 (pss_one (ps_never))
 pss_nil)
 (pss_cons (ps_fld (pv 0) (pv 1) rfl)
 (pss_cons (ps_fld (pv 0) pe_int rfl)
 (pss_one (ps_fld (pv 0) pe_int rfl))))), ?_⟩
    wtm_at "w0"
    wtm_at "wp"
    rename_i H1 k1 _ H2 k2 _ H3 k3 h3
    exact k H3 (k1.trans (k2.trans k3)) ⟨d, h3⟩
theorem a_signE {C : Addr} {H : Hp} {r : Addr} {x : Str} {l : Nat} {Q : VK} {E : XK} (h : At C H r x [] l) (hl : x.length ≤ 5000) (k : Q (.str "") H) : spSign C [.ref r] H Q E := by
  obtain ⟨i, h1, h2, h3⟩ := h
  exact ⟨r, x, i, l, rfl, h1, hl, h3, fun c' t' e => (by rw [h2] at e; cases e), fun _ => k⟩
def spReadN (N : Nat) : Sp := fun vs H Q _ => ∃ (m : Nat) (q : PyData), vs = [.str (txS N q)] ∧ cnt N q = some m ∧ m ≤ 12 ∧ ∀ p H', Same H H' → Rp H' (.ref p) q → Q (.ref p) H'
theorem ok_readN {k0 : Nat} {f : Addr} {fd : FuncData} (F : Fun K "read" "read" s_read f fd) (T : Txt K mg Z C_QueryReader) (hk0 : 2 ≤ k0) (mk_QueryReader_1 : Mkr P w K mg base "QueryReader" C_QueryReader 1 ["self", "text"] [] (spInitQ C_QueryReader)) (me_QueryReader_sign : Me P w K mg base C_QueryReader "sign" 1 ["self"] (spSign C_QueryReader)) (me_QueryReader_query : Me P w K mg base C_QueryReader "query" k0 ["self", "deep"] (spQq C_QueryReader 5)) : FnOk P w K mg base CX0 (k0 + 1) f fd ["text"] (spReadN 5) := by
  have c1 := T.cl_QueryReader
  refine F.ok sc_read (fun vs H Q E h => ?_) (fun cdv A outer s H vs Q E hr h => ?_)
  · obtain ⟨m, q, rfl, _⟩ := h
    rfl
  · obtain ⟨m, q, rfl, hc, hm, k⟩ := h
    have hx := tx_length hc
    refine ⟨_, (pss_cons (ps_set (i := 1) sc_read.nd rfl (.inl rfl) (pe_mkr mk_QueryReader_1 (hr.mono (by omega)) rfl (pa_cons (pv 0) pa_nil)))
 (pss_cons (ps_set (i := 2) sc_read.nd rfl (.inl rfl) (pe_me (pv 1) T.cl_QueryReader me_QueryReader_query (hr.mono (by omega)) (pa_cons (pe_gint T.c_DEEPEST rfl) pa_nil)))
 (pss_cons (ps_if (pt_cmpR op_ne (pe_me0 (pv 1) T.cl_QueryReader me_QueryReader_sign (hr.mono (by omega))) pe_str (nomark _))
 (pss_one (ps_never))
 pss_nil)
 (pss_one (ps_ret (pv 2)))))), ?_⟩
    wtm_at "w0"
    wtm_at "wp"
    rename_i r d0 nr _ H1 s1 h1
    refine ⟨r, d0, _, rfl, h1, fun H2 k2 r2 => ⟨rfl, ?_⟩⟩
    have hxl : (txS 5 q).length ≤ 5000 := by omega
    have a2 : At C_QueryReader H2 r (txS 5 q) (txL 5 q ++ []) 1 := ⟨0, r2, by rw [List.append_nil]; rfl, Nat.zero_le _⟩
    obtain ⟨d2, i2, hd2⟩ := a2.ins
    wtm_at "wp"
    refine ⟨r, _, 1, 5, m, q, [], rfl, a2, hxl, by decide, hc, by omega, fun c u e => (by cases e), fun p H3 k3 r3 a3 => ?_⟩
    obtain ⟨d3, i3, hd3⟩ := a3.ins
    wtm_at "wp"
    refine a_signE a3 hxl ?_
    wtm_at "wp"
    exact k p H3 ((k2.trans k3).same s1 nr) r3

abbrev s_law_same : Stmt := topS 59
theorem sc_law_same : FnScope ["_law_one", "_law_other", "_law_mine", "_law_yours"] ["_law_one", "_law_other"] (defScope s_law_same) := ⟨rfl, rfl, rfl, by decide +kernel, rfl, by decide +kernel, by decide +kernel⟩
/-- texts and whole numbers in tuples -/
def TI : Nat → PyData → Prop
  | 0, _ => False
  | n + 1, d => (∃ s, d = .str s ∧ PyData.strOk s = true) ∨ (∃ i, d = .int i) ∨ (∃ ds, d = .tuple ds ∧ ds.length ≤ 100 ∧ ∀ e ∈ ds, TI n e)
theorem ti_str {n : Nat} {s : Str} (h : PyData.strOk s = true) : TI (n + 1) (.str s) := .inl ⟨_, rfl, h⟩
theorem ti_cnt : ∀ {n : Nat} {d : PyData} {m : Nat}, cnt n d = some m → TI (n + 1) d
  | 0, _, _, h => by cases h
  | n + 1, d, m, h => by
    cases cnt_inv h with
    | @word w hw =>
      refine .inr (.inr ⟨_, rfl, by simp, fun e he => ?_⟩)
      simp only [List.mem_cons, List.not_mem_nil, or_false] at he
      rcases he with rfl | rfl
      · exact ti_str (by decide +kernel)
      · exact ti_str (isW_strOk hw)
    | @phrase ws h1 h2 h3 =>
      refine .inr (.inr ⟨_, rfl, by simp; omega, fun e he => ?_⟩)
      rcases List.mem_cons.mp he with rfl | he
      · exact ti_str (by decide +kernel)
      · obtain ⟨x, hx, rfl⟩ := List.mem_map.mp he
        exact ti_str (isW_strOk (h3 x hx))
    | @near f a b h1 h2 h3 h4 =>
      refine .inr (.inr ⟨_, rfl, by simp, fun e he => ?_⟩)
      simp only [List.mem_cons, List.not_mem_nil, or_false] at he
      rcases he with rfl | rfl | rfl | rfl
      · exact ti_str (by decide +kernel)
      · exact .inr (.inl ⟨_, rfl⟩)
      · exact ti_str (isW_strOk h3)
      · exact ti_str (isW_strOk h4)
    | @join k ps _ a b c =>
      obtain ⟨j1, j2, j3⟩ := join_some c
      refine .inr (.inr ⟨_, rfl, by simp; omega, fun e he => ?_⟩)
      rcases List.mem_cons.mp he with rfl | he
      · exact ti_str (by rcases a with rfl | rfl | rfl <;> decide +kernel)
      · obtain ⟨c, hc⟩ := j3 e he
        exact ti_cnt hc
def spSame (N : Nat) : Sp := fun vs H Q _ => ∃ (v1 v2 : V) (d : PyData), vs = [v1, v2] ∧ Rp H v1 d ∧ Rp H v2 d ∧ TI N d ∧ ∀ H', Same H H' → Q (.bl true) H'
theorem spSame0 : ∀ vs H Q E, ¬ spSame 0 vs H Q E := fun vs H Q E ⟨_, _, _, _, _, _, h, _⟩ => h
theorem ok_same {N k0 : Nat} {f : Addr} {fd : FuncData} (F : Fun K "_law_same" "_law_same" s_law_same f fd) (T : Txt K mg Z C_QueryReader) (f__law_same : Fn P w K mg base "_law_same" k0 ["_law_one", "_law_other"] (spSame N)) : FnOk P w K mg base CX0 (k0 + 1) f fd ["_law_one", "_law_other"] (spSame (N + 1)) := by
  refine F.ok sc_law_same (fun vs H Q E h => ?_) (fun cdv A outer s H vs Q E hr h => ?_)
  · obtain ⟨v1, v2, d, rfl, _⟩ := h
    rfl
  · obtain ⟨v1, v2, d, rfl, h1, h2, ht, k⟩ := h
    refine ⟨_, (pss_cons (ps_if (PW.pt (pw_or (pt_cmpR op_ne (pe_callB call_isi (by rfl) T.n_isinstance PyProof.Rows.boot_isinstance (pa_cons (pv 0) (pa_cons (pe_bltn (v := .ty "tuple") (by rfl) T.n_tuple PyProof.Rows.boot_tuple rfl) pa_nil))) (pe_callB call_isi (by rfl) T.n_isinstance PyProof.Rows.boot_isinstance (pa_cons (pv 1) (pa_cons (pe_bltn (v := .ty "tuple") (by rfl) T.n_tuple PyProof.Rows.boot_tuple rfl) pa_nil))) (nomark _)) (pw_or1 (pt_cmpR op_ne (pe_callB call_isi (by rfl) T.n_isinstance PyProof.Rows.boot_isinstance (pa_cons (pv 0) (pa_cons (pe_bltn (v := .ty "bool") (by rfl) T.n_bool PyProof.Rows.boot_bool rfl) pa_nil))) (pe_callB call_isi (by rfl) T.n_isinstance PyProof.Rows.boot_isinstance (pa_cons (pv 1) (pa_cons (pe_bltn (v := .ty "bool") (by rfl) T.n_bool PyProof.Rows.boot_bool rfl) pa_nil))) (nomark _)))))
 (pss_one (ps_ret pe_bl))
 pss_nil)
 (pss_cons (ps_if (pt_not (pt_val (pe_callB call_isi (by rfl) T.n_isinstance PyProof.Rows.boot_isinstance (pa_cons (pv 0) (pa_cons (pe_bltn (v := .ty "tuple") (by rfl) T.n_tuple PyProof.Rows.boot_tuple rfl) pa_nil)))))
 (pss_one (ps_ret (pe_cmpR (op_eqD hr.units) (pv 0) (pv 1) (nomark _))))
 pss_nil)
 (pss_one (ps_ret (pe_and (pe_cmpR op_eq (pe_callB cl_len (by rfl) T.n_len PySem.boot_len (pa_cons (pv 0) pa_nil)) (pe_callB cl_len (by rfl) T.n_len PySem.boot_len (pa_cons (pv 1) pa_nil)) (nomark _)) (pe_one (pe_callB (cr_all rfl) (by rfl) T.n_all PyProof.Rows.boot_all (pa_cons (pe_lc (own := [("_law_mine", 2), ("_law_yours", 3)]) (g := gTup K 2 (gCons (gName 2) (gCons (gName 3) gNil))) (tt := tYes) rfl sc_law_same.nd (RZ.pi_zipA (by rfl) T.n_zip (pa_cons (pv 0) (pa_cons (pv 1) pa_nil))) (blkOk_by (own := [("_law_mine", 2), ("_law_yours", 3)]) (N := ["_law_one", "_law_other", "_law_mine", "_law_yours"]) (sc := defScope s_law_same) (by decide +kernel)) (fun _ _ _ _ _ => (pg_tup rfl (pgs_cons (pg_name (i := 2) sc_law_same.nd rfl (.inl rfl)) (pgs_cons (pg_name (i := 3) sc_law_same.nd rfl (.inl rfl)) pgs_nil)))) (fun _ _ _ _ _ => pts_nil) (fun _ _ _ _ _ => (pe_fn f__law_same (hr.mono (by omega)) rfl (pa_cons (pv 2) (pa_cons (pv 3) pa_nil))))) pa_nil)))))))), ?_⟩
    wtm_at "w0"
    rcases ht with ⟨x, rfl, hx⟩ | ⟨i, rfl⟩ | ⟨ds, rfl, hl, hds⟩
    · cases h1
      cases h2
      wtm_at "wp"
      exact w_eqG (n := 0) (.str _) (.str _) (good_str hx) (by decide) (k _ (.refl _))
    · cases h1
      cases h2
      wtm_at "wp"
      exact w_eqG (n := 0) (.int _) (.int _) good_int (by decide) (k _ (.refl _))
    · cases h1 with
      | @tup a1 xs _ ha1 r1 =>
        cases h2 with
        | @tup a2 ys _ ha2 r2 =>
          have l1 := r1.length
          have l2 := r2.length
          wtm_at "wp"
          refine w_lenT (.of ha1) ?_
          wtm_at "wp"
          refine w_lenT (.of ha2) ?_
          wtm_at "wp"
          rw [if_pos (decide_eq_true (by rw [l1, l2]))]
          wtm_at "wp"
          refine w_zipA ?_
          wtm_at "wp"
          refine ⟨a1, a2, xs, ys, rfl, .inr ⟨.of ha1, .of ha2, ?_⟩⟩
          refine lc_fin (fin_zipT (K := K) (a := a1) (b := a2) (xs := xs) (ys := ys) ds.length (by omega)) (fun i acc H' => Same H H' ∧ acc = (List.replicate i true).map V.bl) (fun D H2 nD s2 hD => ⟨s2, rfl⟩) (fun i acc H2 _ h => ⟨.of (h.1 _ _ ha1), .of (h.1 _ _ ha2)⟩) ?_ ?_
          · rintro D i v acc H5 H6 nD hi hac ⟨s5, e5⟩ hD ⟨tt, x, y, rfl, nT, sT, hT, hx, hy⟩
            obtain ⟨e, he, rx⟩ := r1.at hx
            obtain ⟨e', he', ry⟩ := r2.at hy
            rw [he] at he'
            cases he'
            have s6 := s5.trans sT
            wtm_at "wp"
            refine ⟨rfl, ?_⟩
            wtm_at "wp"
            refine ⟨x, y, e, rfl, rx.same s6, ry.same s6, hds e (List.mem_of_getElem? he), fun H7 s7 => ?_⟩
            wtm_at "wp"
            refine w_acc (s7 _ _ (sT _ _ hD)) hac hi (sz (by omega)) (fun H8 k8 h8 => ⟨k8.same (s6.trans s7) nD, ?_⟩)
            rw [e5, List.replicate_succ', List.map_append]
            rfl
          · rintro D acc H5 nD ⟨s5, e5⟩ hac hD
            wtm_at "wp"
            refine w_all e5 (.of hD) ?_
            have : (List.replicate ds.length true).all id = true := by simp
            rw [this]
            exact k _ s5

end
end K24

namespace K24
abbrev s_law : Stmt := topS 60
theorem sc_law : FnScope ["_law_script", "_law_k", "_law_pool_here", "_law_kinds_here", "_law_some", "_law_query_here", "_law_text_here", "_law_one", "_law_other", "_law_bent"] ["_law_script"] (defScope s_law) := ⟨rfl, rfl, rfl, by decide +kernel, rfl, by decide +kernel, by decide +kernel⟩
section
variable {P : Program} {w : World} {K : PySem.W.Frag} {mg : Str → Option Value} {base : Heap} {Z : Zs} {C_QueryReader : Addr}
theorem grown_kbp {TT : List (Addr × Str)} {H H1 H2 : Hp} {p : Addr} {xs : List V} (g : Grown TT H H1) (n : H p = none) (k : KB p H1 H2) (hp : H1 p = some (.lst xs)) : Grown TT H H2 := ⟨fun b o h no => k b o (g.e b o h no) (ne_of_none h n), tabs_kb g.t hp k⟩
mutual
theorem Rp.extn {H H' : Hp} (e : LamX.ExtN H H') : ∀ {v : V} {d : PyData}, Rp H v d → Rp H' v d
  | _, _, .non => .non
  | _, _, .bl b => .bl b
  | _, _, .int i => .int i
  | _, _, .str x => .str x
  | _, _, .lst h r => .lst (e _ _ h (fun _ z => by cases z)) (RpAll.extn e r)
  | _, _, .tup h r => .tup (e _ _ h (fun _ z => by cases z)) (RpAll.extn e r)
theorem RpAll.extn {H H' : Hp} (e : LamX.ExtN H H') : ∀ {vs : List V} {ds : List PyData}, RpAll H vs ds → RpAll H' vs ds
  | _, _, .nil => .nil
  | _, _, .cons h r => .cons (Rp.extn e h) (RpAll.extn e r)
end

theorem cnt_pos' {n : Nat} {d : PyData} {m : Nat} (h : cnt n d = some m) : 1 ≤ m := cnt_pos h
theorem due_is {d : PyData} : (decide (1 ≤ cntI (cnt 5 d)) && decide (cntI (cnt 5 d) ≤ 12)) = isQ d := by
  unfold isQ
  cases hc : cnt 5 d with
  | none => rfl
  | some m =>
    have := cnt_pos hc
    show (decide ((1 : Int) ≤ (m : Int)) && decide ((m : Int) ≤ 12)) = decide (m ≤ 12)
    rw [decide_eq_true (by omega), Bool.true_and, decide_eq_decide]
    omega
theorem isQ_of {d : PyData} {m : Nat} (h : cnt 5 d = some m) (hm : m ≤ 12) : isQ d = true := by
  unfold isQ
  rw [h]
  exact decide_eq_true hm
theorem isQ_some {d : PyData} (h : isQ d = true) : ∃ m, cnt 5 d = some m ∧ m ≤ 12 := by
  unfold isQ at h
  split at h
  · rename_i m hc
    exact ⟨m, hc, of_decide_eq_true h⟩
  · cases h
theorem ti_eqv : ∀ {n k : Nat} {d e : PyData}, TI n d → TI k e → PyData.eqv d e = true → d = e
  | 0, _, _, _, h, _, _ => h.elim
  | _, 0, _, _, _, h, _ => h.elim
  | n + 1, k + 1, d, e, hd, he, h => by
    rcases hd with ⟨x, rfl, _⟩ | ⟨i, rfl⟩ | ⟨ds, rfl, _, hds⟩ <;> rcases he with ⟨y, rfl, _⟩ | ⟨j, rfl⟩ | ⟨es, rfl, _, hes⟩
    · simp [PyData.eqv] at h
      rw [h]
    · simp [PyData.eqv] at h
    · simp [PyData.eqv] at h
    · simp [PyData.eqv] at h
    · simp [PyData.eqv] at h
      rw [h]
    · simp [PyData.eqv] at h
    · simp [PyData.eqv] at h
    · simp [PyData.eqv] at h
    · have all : ∀ {ds es : List PyData}, (∀ d ∈ ds, TI n d) → (∀ d ∈ es, TI k d) → PyData.eqvAll ds es = true → ds = es := by
        intro ds
        induction ds with
        | nil =>
          intro es _ _ h
          cases es with
          | nil => rfl
          | cons _ _ => simp [PyData.eqvAll] at h
        | cons d ds ih =>
          intro es hd he h
          cases es with
          | nil => simp [PyData.eqvAll] at h
          | cons e es =>
            simp [PyData.eqvAll] at h
            rw [ti_eqv (hd d List.mem_cons_self) (he e List.mem_cons_self) h.1, ih (fun x hx => hd x (List.mem_cons_of_mem _ hx)) (fun x hx => he x (List.mem_cons_of_mem _ hx)) h.2]
      simp [PyData.eqv] at h
      rw [all hds hes h]
theorem ti_good : ∀ {n : Nat} {d : PyData}, TI n d → GoodD d n
  | 0, _, h => h.elim
  | n + 1, d, h => by
    rcases h with ⟨x, rfl, hx⟩ | ⟨i, rfl⟩ | ⟨ds, rfl, _, hds⟩
    · exact good_str hx
    · exact good_int
    · exact good_tuple fun e he => ti_good (hds e he)
theorem shown_eq {d e : PyData} {m m' : Nat} (hd : cnt 5 d = some m) (he : cnt 5 e = some m') : decide (V.str (txS 5 d) = V.str (txS 5 e)) = PyData.eqv d e := by
  by_cases h : d = e
  · subst h
    rw [(ti_good (ti_cnt hd)).refl]
    exact decide_eq_true rfl
  · rw [decide_eq_false (fun z => h (txS_inj hd he (V.str.inj z)))]
    cases hq : PyData.eqv d e with
    | false => rfl
    | true => exact absurd (ti_eqv (ti_cnt hd) (ti_cnt he) hq) h
def dFix : PyData := .tuple [.str "and", .tuple [.str "word", .str "a"], .tuple [.str "phrase", .str "b", .str "c"], .tuple [.str "but", .tuple [.str "word", .str "d"], .tuple [.str "near", .int 2, .str "e", .str "f"]]]
theorem cnt_fix : cnt 5 dFix = some 6 := by decide +kernel
theorem tx_fix : txS 5 dFix = "(a & \"b c\" & (d - e~2~f))" := by decide +kernel
def spLaw (K : PySem.W.Frag) (TT : List (Addr × Str)) : Sp := fun vs H Q _ => ∃ (a : Addr) (ns : List Int), vs = [.ref a] ∧ SqL K H a (ns.map V.int) ∧ ns.length ≤ 63 ∧ LamX.Tabs TT H ∧ ∀ H', Q (.bl true) H'
theorem ok_law {f c P1 : Addr} {fd : FuncData} {TT : List (Addr × Str)} (F : FunC K "law" "law" s_law f fd c) (T : Txt K mg Z C_QueryReader) (hTB : LamX.TabB base mg c P1) (hmT : (P1, lamN "law") ∈ TT) (hu : ∀ p ∈ TT, p.1 = P1 → p.2 = lamN "law")
    (f__law_pool : Fn P w K mg base "_law_pool" 1 ["_law_script", "_law_at"] (spPool K)) (f__law_kinds : Fn P w K mg base "_law_kinds" 2 ["_law_pool_here"] spKinds) (f__law_query : Fn P w K mg base "_law_query" 14 ["_law_pool_here", "_law_kinds_here", "_law_deep", "_law_most"] (spQy K 5)) (f__law_bent_query : Fn P w K mg base "_law_bent_query" 8 ["_law_pool_here", "_law_query_here"] (spBent 7)) (f__law_count : Fn P w K mg base "_law_count" 8 ["_law_thing", "_law_deep"] (spLCnt K 5))
    (f_show : FnX P w K mg base "show" 26 ["query"] (spShowX K Z)) (f_read : Fn P w K mg base "read" 16 ["text"] (spReadN 5)) (f__law_text : Fn P w K mg base "_law_text" 6 ["_law_query_here"] (spTx K 5)) (f__law_same : Fn P w K mg base "_law_same" 7 ["_law_one", "_law_other"] (spSame 6))
    (f__law_how : Asks P w K mg base "_law_how" "_law_deed" ["_law_deed", "_law_e"] s_law_how 2 (TTHow K Z)) : FnOk P w K mg base CX0 30 f fd ["_law_script"] (spLaw K TT) := by
  refine F.ok sc_law (fun vs H Q E h => ?_) (fun A outer s H vs Q E hr h => ?_)
  · obtain ⟨a, ns, rfl, _⟩ := h
    rfl
  · obtain ⟨a, ns, rfl, hS, hlen, hT, k⟩ := h
    have hu0 := hr.units
    refine ⟨_, (pss_cons (ps_for PassesOwn.never rfl (pi_range1 (by rfl) T.n_range (pa_cons (pe_callB (cl_max rfl) (by rfl) T.n_max PyProof.Rows.boot_max (pa_cons pe_int (pa_cons (pe_callB (cl_min rfl) (by rfl) T.n_min PyProof.Rows.boot_min (pa_cons pe_int (pa_cons (pe_callB cl_len (by rfl) T.n_len PySem.boot_len (pa_cons (pv 0) pa_nil)) pa_nil))) pa_nil))) pa_nil)) (pg_name (i := 1) sc_law.nd rfl (.inl rfl))
 (pss_cons (ps_set (i := 2) sc_law.nd rfl (.inl rfl) (pe_fn f__law_pool (hr.mono (by omega)) rfl (pa_cons (pv 0) (pa_cons (pv 1) pa_nil))))
 (pss_cons (ps_set (i := 3) sc_law.nd rfl (.inl rfl) (pe_fn f__law_kinds (hr.mono (by omega)) rfl (pa_cons (pv 2) pa_nil)))
 (pss_cons (ps_set (i := 4) sc_law.nd rfl (.inl rfl) (pe_lst (pa_cons (pe_fn f__law_query (hr.mono (by omega)) rfl (pa_cons (pv 2) (pa_cons (pv 3) (pa_cons pe_int (pa_cons pe_int pa_nil))))) (pa_cons (pe_fn f__law_query (hr.mono (by omega)) rfl (pa_cons (pv 2) (pa_cons (pv 3) (pa_cons pe_int (pa_cons pe_int pa_nil))))) (pa_cons (pe_fn f__law_query (hr.mono (by omega)) rfl (pa_cons (pv 2) (pa_cons (pv 3) (pa_cons pe_int (pa_cons pe_int pa_nil))))) pa_nil)))))
 (pss_cons (ps_for PassesOwn.never rfl (pi_list (pv 4)) (pg_name (i := 5) sc_law.nd rfl (.inl rfl))
 (pss_cons (ps_set (i := 6) sc_law.nd rfl (.inl rfl) (pe_fx f_show lets0 (hr.mono (by omega)) rfl (pa_cons (pv 5) pa_nil)))
 (pss_one (ps_if (PW.pt (pw_or (pt_not (pt_val (pe_callB call_isi (by rfl) T.n_isinstance PyProof.Rows.boot_isinstance (pa_cons (pv 6) (pa_cons (pe_bltn (v := .ty "str") (by rfl) T.n_str PyProof.Rows.boot_str rfl) pa_nil))))) (pw_or (pt_cmpR op_ne (pv 6) (pe_fn f__law_text (hr.mono (by omega)) rfl (pa_cons (pv 5) pa_nil)) (nomark _)) (pw_or1 (pt_not (pt_val (pe_fn f__law_same (hr.mono (by omega)) rfl (pa_cons (pe_fn f_read (hr.mono (by omega)) rfl (pa_cons (pv 6) pa_nil)) (pa_cons (pv 5) pa_nil)))))))))
 (pss_one (ps_ret pe_bl))
 pss_nil))))
 (pss_cons (ps_for PassesOwn.never rfl (pi_list (pv 4)) (pg_name (i := 7) sc_law.nd rfl (.inl rfl))
 (pss_one (ps_for PassesOwn.never rfl (pi_list (pv 4)) (pg_name (i := 8) sc_law.nd rfl (.inl rfl))
 (pss_one (ps_if (pt_cmpR op_ne (pe_cmpR op_eq (pe_fx f_show lets0 (hr.mono (by omega)) rfl (pa_cons (pv 7) pa_nil)) (pe_fx f_show lets0 (hr.mono (by omega)) rfl (pa_cons (pv 8) pa_nil)) (nomark _)) (pe_cmpR (op_eqD hr.units) (pv 7) (pv 8) (nomark _)) (nomark _))
 (pss_one (ps_ret pe_bl))
 pss_nil)))))
 (pss_cons (ps_set (i := 9) sc_law.nd rfl (.inr rfl) (pe_fn f__law_bent_query (hr.mono (by omega)) rfl (pa_cons (pv 2) (pa_cons (pe_ix ix_list (pv 4) pe_int (fun _ _ => rfl)) pa_nil))))
 (pss_one (ps_if (pt_chain op_le op_le pe_int (pe_fn f__law_count (hr.mono (by omega)) rfl (pa_cons (pv 9) (pa_cons pe_int pa_nil))) pe_int)
 (pss_one (ps_if (PW.pt (pw_or (pt_cmpR op_ne (pe_fx f_show lets0 (hr.mono (by omega)) rfl (pa_cons (pv 9) pa_nil)) (pe_fn f__law_text (hr.mono (by omega)) rfl (pa_cons (pv 9) pa_nil)) (nomark _)) (pw_or1 (pt_not (pt_val (pe_fn f__law_same (hr.mono (by omega)) rfl (pa_cons (pe_fn f_read (hr.mono (by omega)) rfl (pa_cons (pe_fx f_show lets0 (hr.mono (by omega)) rfl (pa_cons (pv 9) pa_nil)) pa_nil)) (pa_cons (pv 9) pa_nil))))))))
 (pss_one (ps_ret pe_bl))
 pss_nil))
 (pss_one (ps_if (pt_cmpR op_ne (pe_asks (T := TT) (j := 27) f__law_how rfl (by exact hTB) (by rfl) (by rfl) hmT hu (hr.mono (by omega)) (hr.mono (by omega)) (by rfl) rfl (fun _ _ _ _ _ => rfl) (fun A' outer' s' H' E' f' c' hr' => (pe_fx f_show (lets_of takesLam) (hr'.mono (by omega)) rfl (pa_cons (pv 9) pa_nil)))) pe_str (nomark _))
 (pss_one (ps_ret pe_bl))
 pss_nil)))))))))))
 (pss_cons (ps_set (i := 5) sc_law.nd rfl (.inl rfl) (pe_tup (pa_cons pe_str (pa_cons (pe_tup (pa_cons pe_str (pa_cons pe_str pa_nil))) (pa_cons (pe_tup (pa_cons pe_str (pa_cons pe_str (pa_cons pe_str pa_nil)))) (pa_cons (pe_tup (pa_cons pe_str (pa_cons (pe_tup (pa_cons pe_str (pa_cons pe_str pa_nil))) (pa_cons (pe_tup (pa_cons pe_str (pa_cons pe_int (pa_cons pe_str (pa_cons pe_str pa_nil))))) pa_nil)))) pa_nil))))))
 (pss_one (ps_ret (pe_and (pe_cmpR op_eq (pe_fx f_show lets0 (hr.mono (by omega)) rfl (pa_cons (pv 5) pa_nil)) pe_str (nomark _)) (pe_one (pe_cmpR (op_eqD hr.units) (pe_fn f_read (hr.mono (by omega)) rfl (pa_cons (pe_fx f_show lets0 (hr.mono (by omega)) rfl (pa_cons (pv 5) pa_nil)) pa_nil)) (pv 5) (nomark _)))))))), ?_⟩
    wtm_at "w0"
    wtm_at "wp"
    rw [List.length_map]
    refine ⟨_, rfl, by omega, by omega, for_fin (n := (max (1 : Int) (min (8 : Int) (ns.length : Int))).toNat) fin_rng (fun i σ H' => ∃ v1 v2 v3 v4 v5 v6 v7 v8 v9 : Option V, σ = [some (.ref a), v1, v2, v3, v4, v5, v6, v7, v8, v9] ∧ Grown TT H H') ?_ (fun _ _ _ _ _ => trivial) ?_ ?_⟩
    · exact ⟨_, _, _, _, _, _, _, _, _, rfl, Grown.of hT (.refl _)⟩
    · rintro i x σ H0 H0' hi ⟨v1, v2, v3, v4, v5, v6, v7, v8, v9, rfl, g0⟩ ⟨rfl, rfl⟩
      wtm_at "wp"
      rw [Int.zero_add]
      refine ⟨a, ns, i, rfl, extn_seq g0.e hS, by omega, fun p H1 np s1 p1 => ?_⟩
      wtm_at "wp"
      refine ⟨p, _, rfl, p1, by omega, fun q ws H2 nq k2 p2 hq hw1 hw5 hwW hwN => ?_⟩
      have nqp := p2.ne_strs hq
      wtm_at "wp"
      refine ⟨p, q, _, 5, 12, ws, rfl, by decide, by decide, by omega, by omega, p2, by show _ + 31250 ≤ 10000000; omega, hq, hw1, by omega, hwW, fun o1 d1 m1 H4 r1 hc1 hm1 k4 p4 => ?_⟩
      have hq4 := k4 _ _ hq nqp
      obtain ⟨N4, p4, hN4⟩ : ∃ N, Pool H4 p N ∧ N ≤ 100000 := ⟨_, p4, by show _ + 31250 ≤ _; omega⟩
      wtm_at "wp"
      refine ⟨p, q, _, 3, 6, ws, rfl, by decide, by decide, by decide, by decide, p4, by show _ + 31250 ≤ 10000000; omega, hq4, hw1, by omega, hwW, fun o2 d2 m2 H5 r2 hc2 hm2 k5 p5 => ?_⟩
      have hq5 := k5 _ _ hq4 nqp
      have r1 := r1.tupk (p4.tupk k5) (cnt_noL hc1)
      obtain ⟨N5, p5, hN5⟩ : ∃ N, Pool H5 p N ∧ N ≤ 200000 := ⟨_, p5, by show _ + 31250 ≤ _; omega⟩
      wtm_at "wp"
      refine ⟨p, q, _, 2, 3, ws, rfl, by decide, by decide, by decide, by decide, p5, by show _ + 31250 ≤ 10000000; omega, hq5, hw1, by omega, hwW, fun o3 d3 m3 H6 r3 hc3 hm3 k6 p6 => ?_⟩
      have r1 := r1.tupk (p5.tupk k6) (cnt_noL hc1)
      have r2 := r2.tupk (p5.tupk k6) (cnt_noL hc2)
      obtain ⟨N6, p6, hN6⟩ : ∃ N, Pool H6 p N ∧ N ≤ 300000 := ⟨_, p6, by show _ + 31250 ≤ _; omega⟩
      have hc2' := cnt_mono hc2 (by decide : 3 ≤ 5)
      have hc3' := cnt_mono hc3 (by decide : 2 ≤ 5)
      wtm_at "wp"
      rename_i lt nlt H7 s7 h7
      have all : ∀ y ∈ [V.ref o1, V.ref o2, V.ref o3], ∃ d m, Rp H7 y d ∧ cnt 5 d = some m ∧ m ≤ 12 := by
        intro y hy
        simp only [List.mem_cons, List.not_mem_nil, or_false] at hy
        rcases hy with rfl | rfl | rfl
        · exact ⟨_, _, r1.same s7, hc1, hm1⟩
        · exact ⟨_, _, r2.same s7, hc2', by omega⟩
        · exact ⟨_, _, r3.same s7, hc3', by omega⟩
      have hshow : ∀ {J : Hp} {y : V} {d : PyData} {m : Nat} {Q : VK} {E : XK}, Rp J y d → cnt 5 d = some m → m ≤ 12 → (∀ H', Same J H' → Q (.str (txS 5 d)) H') → spShowX K Z [y] J Q E := fun hR hc hm k => ⟨_, 5, _, rfl, hR, cnt_fit hc, by decide, fun _ => k, fun z => by rw [isQ_of hc hm] at z; cases z⟩
      refine for_fin (fin_list (xs := [V.ref o1, V.ref o2, V.ref o3])) (fun j σ H' => ∃ w5 w6 : Option V, σ = [some (.ref a), some (.int i), some (.ref p), some (.ref q), some (.ref lt), w5, w6, v7, v8, v9] ∧ Same H7 H') ⟨_, _, rfl, .refl _⟩ (fun j σ H' _ h => by obtain ⟨_, _, _, h⟩ := h; exact .of (h _ _ h7)) ?_ ?_
      · rintro j y σ J J' hj ⟨w5, w6, rfl, sJ⟩ ⟨rfl, hy⟩
        obtain ⟨d, m, hRy, hcy, hmy⟩ := all y (List.mem_of_getElem? hy)
        wtm_at "wp"
        refine hshow (hRy.same sJ) hcy hmy (fun J1 z1 => ?_)
        wtm_at "wp"
        refine ⟨y, 5, m, d, rfl, Nat.le_refl _, hRy.same (sJ.trans z1), hcy, by omega, fun J2 z2 => ?_⟩
        wtm_at "wp"
        refine iteF' (by rw [decide_eq_true rfl]; rfl) ?_
        wtm_at "wp"
        refine ⟨m, d, rfl, hcy, hmy, fun r J3 z3 r3' => ?_⟩
        wtm_at "wp"
        refine ⟨_, y, d, rfl, r3', hRy.same (sJ.trans (z1.trans (z2.trans z3))), ti_cnt hcy, fun J4 z4 => ?_⟩
        wtm_at "wp"
        exact ⟨_, _, rfl, sJ.trans (z1.trans (z2.trans (z3.trans z4)))⟩
      · rintro σ J ⟨w5, w6, rfl, sJ⟩
        wtm_at "wp"
        refine for_fin (fin_list (xs := [V.ref o1, V.ref o2, V.ref o3])) (fun j σ H' => ∃ w7 w8 : Option V, σ = [some (.ref a), some (.int i), some (.ref p), some (.ref q), some (.ref lt), w5, w6, w7, w8, v9] ∧ Same H7 H') ⟨_, _, rfl, sJ⟩ (fun j σ H' _ h => by obtain ⟨_, _, _, h⟩ := h; exact .of (h _ _ h7)) ?_ ?_
        · rintro j y σ J1 J1' hj ⟨w7, w8, rfl, sJ1⟩ ⟨rfl, hy⟩
          obtain ⟨d, m, hRy, hcy, hmy⟩ := all y (List.mem_of_getElem? hy)
          wtm_at "wp"
          refine for_fin (fin_list (xs := [V.ref o1, V.ref o2, V.ref o3])) (fun j σ H' => ∃ w8 : Option V, σ = [some (.ref a), some (.int i), some (.ref p), some (.ref q), some (.ref lt), w5, w6, some y, w8, v9] ∧ Same H7 H') ⟨_, rfl, sJ1⟩ (fun j σ H' _ h => by obtain ⟨_, _, h⟩ := h; exact .of (h _ _ h7)) ?_ ?_
          · rintro j' y' σ J2 J2' hj' ⟨w8, rfl, sJ2⟩ ⟨rfl, hy'⟩
            obtain ⟨d', m', hRy', hcy', hmy'⟩ := all y' (List.mem_of_getElem? hy')
            wtm_at "wp"
            refine hshow (hRy.same sJ2) hcy hmy (fun J3 z3 => ?_)
            wtm_at "wp"
            refine hshow (hRy'.same (sJ2.trans z3)) hcy' hmy' (fun J4 z4 => ?_)
            have S4 := sJ2.trans (z3.trans z4)
            wtm_at "wp"
            refine w_eqD (hRy.same S4).dp (hRy'.same S4).dp ((ti_good (ti_cnt hcy)).shaped (by decide)) ((ti_good (ti_cnt hcy')).shaped (by decide)) rfl ?_
            rw [shown_eq hcy hcy']
            wtm_at "wp"
            refine iteF' (by rw [decide_eq_true rfl]; rfl) ?_
            wtm_at "wp"
            exact ⟨_, rfl, S4⟩
          · rintro σ J2 ⟨w8, rfl, sJ2⟩
            exact ⟨_, _, rfl, sJ2⟩
        · rintro σ J1 ⟨w7, w8, rfl, sJ1⟩
          have p1' := p6.mono (s7.trans sJ1) (Nat.le_refl _)
          have SL1 : SL (fun c => c = p) J1 := fun c hc => by rw [hc]; exact p1'.at
          have R2 := r2.same (s7.trans sJ1)
          have X2 := RpX.of SL1 R2 (cnt_noL hc2)
          have L2' : Lim 6 3 d2 := cnt_lim hc2
          obtain ⟨kk1, ps1, xr1, rfl, _, _, _, _⟩ := head_str R2 hc2
          wtm_at "wp"
          refine ⟨p, o2, (fun c => c = p), _, 6, 3, _, rfl, rfl, SL1, p1', by show _ + 28 ≤ 10000000; omega, X2, by decide, by decide, by decide, L2', by simp, fun vb db J2 kJ2 pJ2 _ X3 L3 => ?_⟩
          have Rb := X3.rp
          have Fb : Fit 4 db := L3.fit (by decide)
          have gJ : Grown TT H0' J2 := Grown.of g0.t (((k2.trans (k4.trans (k5.trans (k6.trans ((KB.of (s7.trans sJ1)).trans kJ2))))).same s1 np))
          wtm_at "wp"
          refine ⟨vb, 5, 4, db, rfl, Nat.le_refl _, Rb, Fb, by decide, fun J3 z3 => ?_⟩
          have hd := due_is (d := db)
          wtm_at "wp"
          cases hq : isQ db with
          | true =>
            obtain ⟨mb, hcb, hmb⟩ := isQ_some hq
            rw [hq, Bool.and_eq_true] at hd
            refine iteT' hd.1 ?_
            wtm_at "wp"
            refine iteT' hd.2 ?_
            wtm_at "wp"
            refine hshow (Rb.same z3) hcb hmb (fun J4 z4 => ?_)
            wtm_at "wp"
            refine ⟨vb, 5, mb, db, rfl, Nat.le_refl _, Rb.same (z3.trans z4), hcb, by omega, fun J5 z5 => ?_⟩
            wtm_at "wp"
            refine iteF' (by rw [decide_eq_true rfl]; rfl) ?_
            wtm_at "wp"
            refine hshow (Rb.same (z3.trans (z4.trans z5))) hcb hmb (fun J6 z6 => ?_)
            wtm_at "wp"
            refine ⟨mb, db, rfl, hcb, hmb, fun r J7 z7 r7 => ?_⟩
            wtm_at "wp"
            refine ⟨_, vb, db, rfl, r7, Rb.same (z3.trans (z4.trans (z5.trans (z6.trans z7)))), ti_cnt hcb, fun J8 z8 => ?_⟩
            wtm_at "wp"
            exact ⟨_, _, _, _, _, _, _, _, _, rfl, g0.trans (gJ.same (z3.trans (z4.trans (z5.trans (z6.trans (z7.trans z8))))))⟩
          | false =>
            rw [hq] at hd
            have g3 := gJ.same z3
            cases h1 : decide (1 ≤ cntI (cnt 5 db)) with
            | true =>
              rw [h1, Bool.true_and] at hd
              refine iteT' rfl ?_
              wtm_at "wp"
              refine iteF' hd ?_
              wtm_at "wp"
              refine w_lam g3.t (fun J4 e4 t4 => ?_)
              refine w_how ?_
              wtm_at "wp"
              refine ⟨vb, 4, db, rfl, Rp.extn e4 (Rb.same z3), Fb, by decide, fun hq' => (by rw [hq] at hq'; cases hq'), fun _ J5 s5 => ⟨Z.NoQuery, rfl, .inl ⟨8, "query", T.h_NoQuery, rfl, xdOk_none, fun J6 s6 => ?_⟩⟩⟩
              wtm_at "wp"
              exact ⟨_, _, _, _, _, _, _, _, _, rfl, g0.trans ((g3.trans ⟨e4, t4⟩).same (s5.trans s6))⟩
            | false =>
              refine iteF' rfl ?_
              wtm_at "wp"
              refine w_lam g3.t (fun J4 e4 t4 => ?_)
              refine w_how ?_
              wtm_at "wp"
              refine ⟨vb, 4, db, rfl, Rp.extn e4 (Rb.same z3), Fb, by decide, fun hq' => (by rw [hq] at hq'; cases hq'), fun _ J5 s5 => ⟨Z.NoQuery, rfl, .inl ⟨8, "query", T.h_NoQuery, rfl, xdOk_none, fun J6 s6 => ?_⟩⟩⟩
              wtm_at "wp"
              exact ⟨_, _, _, _, _, _, _, _, _, rfl, g0.trans ((g3.trans ⟨e4, t4⟩).same (s5.trans s6))⟩
    · rintro σ H1 ⟨v1, v2, v3, v4, v5, v6, v7, v8, v9, rfl, g1⟩
      wtm_at "wp"
      rename_i t1 n1 J1 z1 y1 t2 n2 J2 z2 y2 t3 n3 J3 z3 y3 t4 n4 J4 z4 y4 t5 n5 J5 z5 y5 t6 n6 J6 z6 y6
      have Z5 : Same J5 J6 := z6
      have Z4 := z5.trans Z5
      have Z3 := z4.trans Z4
      have Z2 := z3.trans Z3
      have Z1 := z2.trans Z2
      have RF : Rp J6 (.ref t6) dFix := .tup y6 (.cons (.str _) (.cons (.tup (Z1 _ _ y1) (.cons (.str _) (.cons (.str _) .nil))) (.cons (.tup (Z2 _ _ y2) (.cons (.str _) (.cons (.str _) (.cons (.str _) .nil)))) (.cons (.tup (Z5 _ _ y5) (.cons (.str _) (.cons (.tup (Z3 _ _ y3) (.cons (.str _) (.cons (.str _) .nil))) (.cons (.tup (Z4 _ _ y4) (.cons (.str _) (.cons (.int _) (.cons (.str _) (.cons (.str _) .nil))))) .nil)))) .nil))))
      have hshow : ∀ {J : Hp} {y : V} {d : PyData} {m : Nat} {Q : VK} {E : XK}, Rp J y d → cnt 5 d = some m → m ≤ 12 → (∀ H', Same J H' → Q (.str (txS 5 d)) H') → spShowX K Z [y] J Q E := fun hR hc hm k => ⟨_, 5, _, rfl, hR, cnt_fit hc, by decide, fun _ => k, fun z => by rw [isQ_of hc hm] at z; cases z⟩
      refine hshow RF cnt_fix (by decide) (fun J7 z7 => ?_)
      wtm_at "wp"
      refine hshow (RF.same z7) cnt_fix (by decide) (fun J8 z8 => ?_)
      wtm_at "wp"
      refine ⟨6, dFix, rfl, cnt_fix, by decide, fun r J9 z9 r9 => ?_⟩
      wtm_at "wp"
      exact w_eqG r9.dp (RF.same (z7.trans (z8.trans z9))).dp (ti_good (ti_cnt cnt_fix)) (by decide) (k _)

end
end K24

namespace K24
section
variable {P : Program} {w : World} {K : PySem.W.Frag} {mg : Str → Option Value} {base : Heap} {Z : Zs} {C_QueryReader : Addr}
/-! ### the recursions -/
theorem spCnt_no : True := trivial
theorem kk_all {N : Nat} {D fw fp fn fj fb : Addr} {t1 t2 t3 t4 t5 t6 : Tok} {c : Value} {o : Option Addr} {nn : Nat} {sl : Array (Option Value)} {Pm : Params}
    (h : K.lookup D = some ⟨c, o, .dict (([⟨"word", t1, .ref fw⟩, ⟨"phrase", t2, .ref fp⟩, ⟨"near", t3, .ref fn⟩, ⟨"and", t4, .ref fj⟩, ⟨"or", t5, .ref fj⟩, ⟨"but", t6, .ref fb⟩] : List Ent).map (Ent.de Pm)).toArray nn, sl⟩)
    (Hw : L2.Held P w K mg base (4 * N + 5) fw (spPart K N fun _ => wordC)) (Hp : L2.Held P w K mg base (4 * N + 5) fp (spPart K N fun _ => phraseC)) (Hn : L2.Held P w K mg base (4 * N + 5) fn (spPart K N fun _ => nearC)) (Hj : L2.Held P w K mg base (4 * N + 5) fj (spPart K N fun n ds => joinC (ds.map (cnt n)))) (Hb : L2.Held P w K mg base (4 * N + 5) fb (spPart K N fun n ds => butC (ds.map (cnt n)))) :
    ∀ k : Str, (∃ fk g, PySem.W.nsIn K D k = some (some (.ref fk)) ∧ L2.Held P w K mg base (4 * N + 5) fk (spPart K N g) ∧ ∀ n ps, cnt (n + 1) (.tuple (.str k :: ps)) = g n ps) ∨ (PySem.W.nsIn K D k = some none ∧ ∀ n ps, cnt (n + 1) (.tuple (.str k :: ps)) = none) := by
  intro k
  have hns := ns_lits h k
  by_cases h1 : k = "word"
  · subst h1
    exact .inl ⟨fw, _, hns.trans (by rfl), Hw, fun n ps => by rw [cnt, if_pos rfl]⟩
  by_cases h2 : k = "phrase"
  · subst h2
    exact .inl ⟨fp, _, hns.trans (by rfl), Hp, fun n ps => by rw [cnt, if_neg h1, if_pos rfl]⟩
  by_cases h3 : k = "near"
  · subst h3
    exact .inl ⟨fn, _, hns.trans (by rfl), Hn, fun n ps => by rw [cnt, if_neg h1, if_neg h2, if_pos rfl]⟩
  by_cases h4 : k = "and"
  · subst h4
    exact .inl ⟨fj, _, hns.trans (by rfl), Hj, fun n ps => cnt_and⟩
  by_cases h5 : k = "or"
  · subst h5
    exact .inl ⟨fj, _, hns.trans (by rfl), Hj, fun n ps => cnt_or⟩
  by_cases h6 : k = "but"
  · subst h6
    exact .inl ⟨fb, _, hns.trans (by rfl), Hb, fun n ps => cnt_but⟩
  · refine .inr ⟨?_, fun n ps => by rw [cnt, if_neg h1, if_neg h2, if_neg h3, if_neg h4, if_neg h5, if_neg h6]⟩
    rw [hns]
    simp only [List.find?_cons, List.find?_nil, decide_eq_false (Ne.symm h1), decide_eq_false (Ne.symm h2), decide_eq_false (Ne.symm h3), decide_eq_false (Ne.symm h4), decide_eq_false (Ne.symm h5), decide_eq_false (Ne.symm h6)]
    rfl
theorem spMany0 : ∀ vs H Q E, ¬ spMany K 0 vs H Q E := fun vs H Q E ⟨v, n, m, d, _, hn, _, hc, _⟩ => by
  have : n = 0 := by omega
  rw [this] at hc
  cases hc
theorem spQy0 : ∀ vs H Q E, ¬ spQy K 0 vs H Q E := fun vs H Q E ⟨p, q, n, deep, most, ws, _, h1, h2, _⟩ => by omega

theorem kdct_lits {D : Addr} {n : Nat} {es : List Ent} {k : Str} {e : Ent} {v : V} (h : K.lookup D = some ⟨.type "dict", none, .dict (es.map (Ent.de w.params)).toArray n, #[]⟩) (low : (D == sysModules) = false) (hk : (es.find? fun e => decide (e.k = k)) = some e) (hv : RelV v e.v) : KDct K w D k v :=
  ⟨_, _, e.v, h, (kdict_lits h low).lit, by rw [ns_lits h k, hk]; rfl, hv⟩
theorem sig_mk {D : Addr} {n : Nat} {t0 t1 t2 u0 u1 u2 : Tok} (h : K.lookup D = some ⟨.type "dict", none, .dict (([⟨"and", t0, .str "&" u0⟩, ⟨"or", t1, .str "|" u1⟩, ⟨"but", t2, .str "-" u2⟩] : List Ent).map (Ent.de w.params)).toArray n, #[]⟩) (low : (D == sysModules) = false) : Sig K w D := fun k hk => by
  rcases hk with rfl | rfl | rfl
  · exact kdct_lits h low rfl ⟨_, rfl⟩
  · exact kdct_lits h low rfl ⟨_, rfl⟩
  · exact kdct_lits h low rfl ⟨_, rfl⟩
theorem knd_mk {D : Addr} {n : Nat} {t0 t1 t2 u0 u1 u2 : Tok} (h : K.lookup D = some ⟨.type "dict", none, .dict (([⟨"&", t0, .str "and" u0⟩, ⟨"|", t1, .str "or" u1⟩, ⟨"-", t2, .str "but" u2⟩] : List Ent).map (Ent.de w.params)).toArray n, #[]⟩) (low : (D == sysModules) = false) : Knd K w D := fun k hk => by
  rcases hk with rfl | rfl | rfl
  · exact kdct_lits h low rfl ⟨_, rfl⟩
  · exact kdct_lits h low rfl ⟨_, rfl⟩
  · exact kdct_lits h low rfl ⟨_, rfl⟩
end
theorem all_mk {l : PySem.W.OpenLaw} {w : World} {K : PySem.W.Frag} {h : Heap} {mg : Str → Option Value} {fa : Addr} (X : K.In h) (G : h.Ns mainGlobals mg) (hfa : mg "law" = some (.ref fa))
    {C_Wrong : Addr}
    {C_NoWord : Addr}
    {C_NoText : Addr}
    {C_NoNumber : Addr}
    {C_NoSize : Addr}
    {C_NoLengths : Addr}
    {C_NoQuery : Addr}
    {C_NoCode : Addr}
    {C_NoRow : Addr}
    {C_NoEntries : Addr}
    {C_NoQueryText : Addr}
    {C_NoPages : Addr}
    {C_NoName : Addr}
    {C_NoQueries : Addr}
    {C_NoShelf : Addr}
    {C_NoDeed : Addr}
    {C_Taken : Addr}
    {C_NoPlace : Addr}
    {C_NoSlot : Addr}
    {tc_LETTERS : Tok}
    {tc_LONGEST : Tok}
    {tc_DEEPEST : Tok}
    {tc_MOST_WORDS : Tok}
    {tc_FARTHEST : Tok}
    {C_QueryReader : Addr}
    {f_law_kind : Addr} {od_law_kind an_law_kind : Option Addr} {sl_law_kind : Array (Option Value)} {oc_law_kind kV_law_kind dc_law_kind pm_law_kind ct_law_kind : Value} {cd_law_kind : Value}
    {f_law_how : Addr} {od_law_how an_law_how : Option Addr} {sl_law_how : Array (Option Value)} {oc_law_how kV_law_how dc_law_how pm_law_how ct_law_how : Value} {cd_law_how : Value}
    {f_is_whole : Addr} {od_is_whole an_is_whole : Option Addr} {sl_is_whole : Array (Option Value)} {oc_is_whole kV_is_whole dc_is_whole pm_is_whole ct_is_whole : Value} {cd_is_whole : Value}
    {f_is_word : Addr} {od_is_word an_is_word : Option Addr} {sl_is_word : Array (Option Value)} {oc_is_word kV_is_word dc_is_word pm_is_word ct_is_word : Value} {cd_is_word : Value}
    {f_count_word : Addr} {od_count_word an_count_word : Option Addr} {sl_count_word : Array (Option Value)} {oc_count_word kV_count_word dc_count_word pm_count_word ct_count_word : Value} {cd_count_word : Value}
    {f_count_phrase : Addr} {od_count_phrase an_count_phrase : Option Addr} {sl_count_phrase : Array (Option Value)} {oc_count_phrase kV_count_phrase dc_count_phrase pm_count_phrase ct_count_phrase : Value} {cd_count_phrase : Value}
    {f_count_near : Addr} {od_count_near an_count_near : Option Addr} {sl_count_near : Array (Option Value)} {oc_count_near kV_count_near dc_count_near pm_count_near ct_count_near : Value} {cd_count_near : Value}
    {f_count_joined : Addr} {od_count_joined an_count_joined : Option Addr} {sl_count_joined : Array (Option Value)} {oc_count_joined kV_count_joined dc_count_joined pm_count_joined ct_count_joined : Value} {cd_count_joined : Value}
    {f_count_but : Addr} {od_count_but an_count_but : Option Addr} {sl_count_but : Array (Option Value)} {oc_count_but kV_count_but dc_count_but pm_count_but ct_count_but : Value} {cd_count_but : Value}
    {f_count_words : Addr} {od_count_words an_count_words : Option Addr} {sl_count_words : Array (Option Value)} {oc_count_words kV_count_words dc_count_words pm_count_words ct_count_words : Value} {cd_count_words : Value}
    {f_is_query : Addr} {od_is_query an_is_query : Option Addr} {sl_is_query : Array (Option Value)} {oc_is_query kV_is_query dc_is_query pm_is_query ct_is_query : Value} {cd_is_query : Value}
    {f_look_query : Addr} {od_look_query an_look_query : Option Addr} {sl_look_query : Array (Option Value)} {oc_look_query kV_look_query dc_look_query pm_look_query ct_look_query : Value} {cd_look_query : Value}
    {f_text_in : Addr} {od_text_in an_text_in : Option Addr} {sl_text_in : Array (Option Value)} {oc_text_in kV_text_in dc_text_in pm_text_in ct_text_in : Value} {cd_text_in : Value}
    {f_law_text : Addr} {od_law_text an_law_text : Option Addr} {sl_law_text : Array (Option Value)} {oc_law_text kV_law_text dc_law_text pm_law_text ct_law_text : Value} {cd_law_text : Value}
    {f_law_same : Addr} {od_law_same an_law_same : Option Addr} {sl_law_same : Array (Option Value)} {oc_law_same kV_law_same dc_law_same pm_law_same ct_law_same : Value} {cd_law_same : Value}
    {f_show : Addr} {od_show an_show : Option Addr} {sl_show : Array (Option Value)} {oc_show kV_show dc_show pm_show ct_show : Value} {cd_show : Value}
    {f_law_pool : Addr} {od_law_pool an_law_pool : Option Addr} {sl_law_pool : Array (Option Value)} {oc_law_pool kV_law_pool dc_law_pool pm_law_pool ct_law_pool : Value} {cd_law_pool : Value}
    {f_law_take : Addr} {od_law_take an_law_take : Option Addr} {sl_law_take : Array (Option Value)} {oc_law_take kV_law_take dc_law_take pm_law_take ct_law_take : Value} {cd_law_take : Value}
    {f_law_letters : Addr} {od_law_letters an_law_letters : Option Addr} {sl_law_letters : Array (Option Value)} {oc_law_letters kV_law_letters dc_law_letters pm_law_letters ct_law_letters : Value} {cd_law_letters : Value}
    {f_law_is_word : Addr} {od_law_is_word an_law_is_word : Option Addr} {sl_law_is_word : Array (Option Value)} {oc_law_is_word kV_law_is_word dc_law_is_word pm_law_is_word ct_law_is_word : Value} {cd_law_is_word : Value}
    {f_law_kinds : Addr} {od_law_kinds an_law_kinds : Option Addr} {sl_law_kinds : Array (Option Value)} {oc_law_kinds kV_law_kinds dc_law_kinds pm_law_kinds ct_law_kinds : Value} {cd_law_kinds : Value}
    {f_law_whole : Addr} {od_law_whole an_law_whole : Option Addr} {sl_law_whole : Array (Option Value)} {oc_law_whole kV_law_whole dc_law_whole pm_law_whole ct_law_whole : Value} {cd_law_whole : Value}
    {f_law_many : Addr} {od_law_many an_law_many : Option Addr} {sl_law_many : Array (Option Value)} {oc_law_many kV_law_many dc_law_many pm_law_many ct_law_many : Value} {cd_law_many : Value}
    {f_law_query : Addr} {od_law_query an_law_query : Option Addr} {sl_law_query : Array (Option Value)} {oc_law_query kV_law_query dc_law_query pm_law_query ct_law_query : Value} {cd_law_query : Value}
    {f_law_count : Addr} {od_law_count an_law_count : Option Addr} {sl_law_count : Array (Option Value)} {oc_law_count kV_law_count dc_law_count pm_law_count ct_law_count : Value} {cd_law_count : Value}
    {f_law_bent_query : Addr} {od_law_bent_query an_law_bent_query : Option Addr} {sl_law_bent_query : Array (Option Value)} {oc_law_bent_query kV_law_bent_query dc_law_bent_query pm_law_bent_query ct_law_bent_query : Value} {cd_law_bent_query : Value}
    {f_QueryReader___init__ : Addr} {od_QueryReader___init__ an_QueryReader___init__ : Option Addr} {sl_QueryReader___init__ : Array (Option Value)} {oc_QueryReader___init__ kV_QueryReader___init__ dc_QueryReader___init__ pm_QueryReader___init__ ct_QueryReader___init__ cd_QueryReader___init__ : Value}
    {f_QueryReader_sign : Addr} {od_QueryReader_sign an_QueryReader_sign : Option Addr} {sl_QueryReader_sign : Array (Option Value)} {oc_QueryReader_sign kV_QueryReader_sign dc_QueryReader_sign pm_QueryReader_sign ct_QueryReader_sign cd_QueryReader_sign : Value}
    {f_QueryReader_take : Addr} {od_QueryReader_take an_QueryReader_take : Option Addr} {sl_QueryReader_take : Array (Option Value)} {oc_QueryReader_take kV_QueryReader_take dc_QueryReader_take pm_QueryReader_take ct_QueryReader_take cd_QueryReader_take : Value}
    {f_QueryReader_take_one_more : Addr} {od_QueryReader_take_one_more an_QueryReader_take_one_more : Option Addr} {sl_QueryReader_take_one_more : Array (Option Value)} {oc_QueryReader_take_one_more kV_QueryReader_take_one_more dc_QueryReader_take_one_more pm_QueryReader_take_one_more ct_QueryReader_take_one_more cd_QueryReader_take_one_more : Value}
    {f_QueryReader_take_word : Addr} {od_QueryReader_take_word an_QueryReader_take_word : Option Addr} {sl_QueryReader_take_word : Array (Option Value)} {oc_QueryReader_take_word kV_QueryReader_take_word dc_QueryReader_take_word pm_QueryReader_take_word ct_QueryReader_take_word cd_QueryReader_take_word : Value}
    {f_QueryReader_phrase : Addr} {od_QueryReader_phrase an_QueryReader_phrase : Option Addr} {sl_QueryReader_phrase : Array (Option Value)} {oc_QueryReader_phrase kV_QueryReader_phrase dc_QueryReader_phrase pm_QueryReader_phrase ct_QueryReader_phrase cd_QueryReader_phrase : Value}
    {f_QueryReader_near : Addr} {od_QueryReader_near an_QueryReader_near : Option Addr} {sl_QueryReader_near : Array (Option Value)} {oc_QueryReader_near kV_QueryReader_near dc_QueryReader_near pm_QueryReader_near ct_QueryReader_near cd_QueryReader_near : Value}
    {f_QueryReader_group : Addr} {od_QueryReader_group an_QueryReader_group : Option Addr} {sl_QueryReader_group : Array (Option Value)} {oc_QueryReader_group kV_QueryReader_group dc_QueryReader_group pm_QueryReader_group ct_QueryReader_group cd_QueryReader_group : Value}
    {f_QueryReader_query : Addr} {od_QueryReader_query an_QueryReader_query : Option Addr} {sl_QueryReader_query : Array (Option Value)} {oc_QueryReader_query kV_QueryReader_query dc_QueryReader_query pm_QueryReader_query ct_QueryReader_query cd_QueryReader_query : Value}
    {f_read : Addr} {od_read an_read : Option Addr} {sl_read : Array (Option Value)} {oc_read kV_read dc_read pm_read ct_read : Value} {cd_read : Value}
    {f_law : Addr} {od_law an_law : Option Addr} {sl_law : Array (Option Value)} {oc_law kV_law dc_law pm_law ct_law : Value} {c0_law P_law : Addr}
    {D_KINDS_queries : Addr} {nD_KINDS_queries : Nat} {tD0_KINDS_queries : Tok} {tD1_KINDS_queries : Tok} {tD2_KINDS_queries : Tok} {tD3_KINDS_queries : Tok} {tD4_KINDS_queries : Tok} {tD5_KINDS_queries : Tok}
    {D_SIGNS : Addr} {nD_SIGNS : Nat} {tD0_SIGNS : Tok} {tD1_SIGNS : Tok} {tD2_SIGNS : Tok} {uD0_SIGNS : Tok}  {uD1_SIGNS : Tok}  {uD2_SIGNS : Tok}
    {D_KINDS_querytexts : Addr} {nD_KINDS_querytexts : Nat} {tD0_KINDS_querytexts : Tok} {tD1_KINDS_querytexts : Tok} {tD2_KINDS_querytexts : Tok} {uD0_KINDS_querytexts : Tok}  {uD1_KINDS_querytexts : Tok}  {uD2_KINDS_querytexts : Tok}
    (aC_Wrong : PySem.W.nsIn K mainGlobals "Wrong" = some (some (.ref C_Wrong)))
    (aC_NoWord : PySem.W.nsIn K mainGlobals "NoWord" = some (some (.ref C_NoWord)))
    (aC_NoText : PySem.W.nsIn K mainGlobals "NoText" = some (some (.ref C_NoText)))
    (aC_NoNumber : PySem.W.nsIn K mainGlobals "NoNumber" = some (some (.ref C_NoNumber)))
    (aC_NoSize : PySem.W.nsIn K mainGlobals "NoSize" = some (some (.ref C_NoSize)))
    (aC_NoLengths : PySem.W.nsIn K mainGlobals "NoLengths" = some (some (.ref C_NoLengths)))
    (aC_NoQuery : PySem.W.nsIn K mainGlobals "NoQuery" = some (some (.ref C_NoQuery)))
    (aC_NoCode : PySem.W.nsIn K mainGlobals "NoCode" = some (some (.ref C_NoCode)))
    (aC_NoRow : PySem.W.nsIn K mainGlobals "NoRow" = some (some (.ref C_NoRow)))
    (aC_NoEntries : PySem.W.nsIn K mainGlobals "NoEntries" = some (some (.ref C_NoEntries)))
    (aC_NoQueryText : PySem.W.nsIn K mainGlobals "NoQueryText" = some (some (.ref C_NoQueryText)))
    (aC_NoPages : PySem.W.nsIn K mainGlobals "NoPages" = some (some (.ref C_NoPages)))
    (aC_NoName : PySem.W.nsIn K mainGlobals "NoName" = some (some (.ref C_NoName)))
    (aC_NoQueries : PySem.W.nsIn K mainGlobals "NoQueries" = some (some (.ref C_NoQueries)))
    (aC_NoShelf : PySem.W.nsIn K mainGlobals "NoShelf" = some (some (.ref C_NoShelf)))
    (aC_NoDeed : PySem.W.nsIn K mainGlobals "NoDeed" = some (some (.ref C_NoDeed)))
    (aC_Taken : PySem.W.nsIn K mainGlobals "Taken" = some (some (.ref C_Taken)))
    (aC_NoPlace : PySem.W.nsIn K mainGlobals "NoPlace" = some (some (.ref C_NoPlace)))
    (aC_NoSlot : PySem.W.nsIn K mainGlobals "NoSlot" = some (some (.ref C_NoSlot)))
    (g_LETTERS : PySem.W.nsIn K mainGlobals "LETTERS" = some (some (.str "abcdefghijklmnopqrstuvwxyz" tc_LETTERS)))
    (g_LONGEST : PySem.W.nsIn K mainGlobals "LONGEST" = some (some (.int 12 tc_LONGEST)))
    (g_DEEPEST : PySem.W.nsIn K mainGlobals "DEEPEST" = some (some (.int 5 tc_DEEPEST)))
    (g_MOST_WORDS : PySem.W.nsIn K mainGlobals "MOST_WORDS" = some (some (.int 12 tc_MOST_WORDS)))
    (g_FARTHEST : PySem.W.nsIn K mainGlobals "FARTHEST" = some (some (.int 20 tc_FARTHEST)))
    (z_isinstance : PySem.W.nsIn K mainGlobals "isinstance" = some none)
    (z_bool : PySem.W.nsIn K mainGlobals "bool" = some none)
    (z_int : PySem.W.nsIn K mainGlobals "int" = some none)
    (z_str : PySem.W.nsIn K mainGlobals "str" = some none)
    (z_list : PySem.W.nsIn K mainGlobals "list" = some none)
    (z_tuple : PySem.W.nsIn K mainGlobals "tuple" = some none)
    (z_len : PySem.W.nsIn K mainGlobals "len" = some none)
    (z_all : PySem.W.nsIn K mainGlobals "all" = some none)
    (z_max : PySem.W.nsIn K mainGlobals "max" = some none)
    (z_min : PySem.W.nsIn K mainGlobals "min" = some none)
    (z_range : PySem.W.nsIn K mainGlobals "range" = some none)
    (z_abs : PySem.W.nsIn K mainGlobals "abs" = some none)
    (z_sum : PySem.W.nsIn K mainGlobals "sum" = some none)
    (z_zip : PySem.W.nsIn K mainGlobals "zip" = some none)
    (z_ValueError : PySem.W.nsIn K mainGlobals "ValueError" = some none)
    (z_IndexError : PySem.W.nsIn K mainGlobals "IndexError" = some none)
    (q_NoQuery : PySem.W.excIn K C_NoQuery PySem.HandSPX.veTail "ValueError.__new__" = true)
    (kp_NoQuery : PySem.W.keepIn K (.ref C_NoQuery) = true)
    (e1_NoQuery : PySem.W.subIn K (.ref C_NoQuery) (.type "BaseException") = some true)
    (e2_NoQuery : PySem.W.typeIn K (.ref C_NoQuery) = some (.type "type"))
    (h_NoQuery : howPlB K (⟨C_Wrong, C_NoWord, C_NoText, C_NoNumber, C_NoSize, C_NoLengths, C_NoQuery, C_NoCode, C_NoRow, C_NoEntries, C_NoQueryText, C_NoPages, C_NoName, C_NoQueries, C_NoShelf, C_NoDeed, C_Taken, C_NoPlace, C_NoSlot⟩ : Zs) C_NoQuery 8 = true)
    (aC_QueryReader : PySem.W.nsIn K mainGlobals "QueryReader" = some (some (.ref C_QueryReader)))
    (pg_QueryReader : PySem.W.plainGet K C_QueryReader Str.empty = true)
    (hd_QueryReader : PySem.W.hasDictIn K C_QueryReader = true)
    (po_QueryReader : PySem.W.plainOver K C_QueryReader = true)
    (sa_QueryReader : PySem.W.findIn K (.ref C_QueryReader) "__setattr__" = some (some (.builtin "object.__setattr__")))
    (na_QueryReader_text : PySem.W.findIn K (.ref C_QueryReader) "text" = some none)
    (na_QueryReader_at : PySem.W.findIn K (.ref C_QueryReader) "at" = some none)
    (na_QueryReader_least : PySem.W.findIn K (.ref C_QueryReader) "least" = some none)
    (a_law_kind : PySem.W.nsIn K mainGlobals "_law_kind" = some (some (.ref f_law_kind)))
    (l_law_kind : K.lookup f_law_kind = some ⟨oc_law_kind, od_law_kind, .func (PySem.W.fnOf "_law_kind" "_law_kind" (defArgs s_law_kind) (defBody s_law_kind) (defScope s_law_kind) .none kV_law_kind dc_law_kind pm_law_kind an_law_kind cd_law_kind ct_law_kind), sl_law_kind⟩)
    (c_law_kind : PySem.W.codeIn K cd_law_kind "_law_kind" = true)
    (k_law_kind : PySem.W.keepIn K (.ref f_law_kind) = true)
    (a_law_how : PySem.W.nsIn K mainGlobals "_law_how" = some (some (.ref f_law_how)))
    (l_law_how : K.lookup f_law_how = some ⟨oc_law_how, od_law_how, .func (PySem.W.fnOf "_law_how" "_law_how" (defArgs s_law_how) (defBody s_law_how) (defScope s_law_how) .none kV_law_how dc_law_how pm_law_how an_law_how cd_law_how ct_law_how), sl_law_how⟩)
    (c_law_how : PySem.W.codeIn K cd_law_how "_law_how" = true)
    (k_law_how : PySem.W.keepIn K (.ref f_law_how) = true)
    (a_is_whole : PySem.W.nsIn K mainGlobals "is_whole" = some (some (.ref f_is_whole)))
    (l_is_whole : K.lookup f_is_whole = some ⟨oc_is_whole, od_is_whole, .func (PySem.W.fnOf "is_whole" "is_whole" (defArgs s_is_whole) (defBody s_is_whole) (defScope s_is_whole) .none kV_is_whole dc_is_whole pm_is_whole an_is_whole cd_is_whole ct_is_whole), sl_is_whole⟩)
    (c_is_whole : PySem.W.codeIn K cd_is_whole "is_whole" = true)
    (k_is_whole : PySem.W.keepIn K (.ref f_is_whole) = true)
    (a_is_word : PySem.W.nsIn K mainGlobals "is_word" = some (some (.ref f_is_word)))
    (l_is_word : K.lookup f_is_word = some ⟨oc_is_word, od_is_word, .func (PySem.W.fnOf "is_word" "is_word" (defArgs s_is_word) (defBody s_is_word) (defScope s_is_word) .none kV_is_word dc_is_word pm_is_word an_is_word cd_is_word ct_is_word), sl_is_word⟩)
    (c_is_word : PySem.W.codeIn K cd_is_word "is_word" = true)
    (k_is_word : PySem.W.keepIn K (.ref f_is_word) = true)
    (a_count_word : PySem.W.nsIn K mainGlobals "count_word" = some (some (.ref f_count_word)))
    (l_count_word : K.lookup f_count_word = some ⟨oc_count_word, od_count_word, .func (PySem.W.fnOf "count_word" "count_word" (defArgs s_count_word) (defBody s_count_word) (defScope s_count_word) .none kV_count_word dc_count_word pm_count_word an_count_word cd_count_word ct_count_word), sl_count_word⟩)
    (c_count_word : PySem.W.codeIn K cd_count_word "count_word" = true)
    (k_count_word : PySem.W.keepIn K (.ref f_count_word) = true)
    (a_count_phrase : PySem.W.nsIn K mainGlobals "count_phrase" = some (some (.ref f_count_phrase)))
    (l_count_phrase : K.lookup f_count_phrase = some ⟨oc_count_phrase, od_count_phrase, .func (PySem.W.fnOf "count_phrase" "count_phrase" (defArgs s_count_phrase) (defBody s_count_phrase) (defScope s_count_phrase) .none kV_count_phrase dc_count_phrase pm_count_phrase an_count_phrase cd_count_phrase ct_count_phrase), sl_count_phrase⟩)
    (c_count_phrase : PySem.W.codeIn K cd_count_phrase "count_phrase" = true)
    (k_count_phrase : PySem.W.keepIn K (.ref f_count_phrase) = true)
    (a_count_near : PySem.W.nsIn K mainGlobals "count_near" = some (some (.ref f_count_near)))
    (l_count_near : K.lookup f_count_near = some ⟨oc_count_near, od_count_near, .func (PySem.W.fnOf "count_near" "count_near" (defArgs s_count_near) (defBody s_count_near) (defScope s_count_near) .none kV_count_near dc_count_near pm_count_near an_count_near cd_count_near ct_count_near), sl_count_near⟩)
    (c_count_near : PySem.W.codeIn K cd_count_near "count_near" = true)
    (k_count_near : PySem.W.keepIn K (.ref f_count_near) = true)
    (a_count_joined : PySem.W.nsIn K mainGlobals "count_joined" = some (some (.ref f_count_joined)))
    (l_count_joined : K.lookup f_count_joined = some ⟨oc_count_joined, od_count_joined, .func (PySem.W.fnOf "count_joined" "count_joined" (defArgs s_count_joined) (defBody s_count_joined) (defScope s_count_joined) .none kV_count_joined dc_count_joined pm_count_joined an_count_joined cd_count_joined ct_count_joined), sl_count_joined⟩)
    (c_count_joined : PySem.W.codeIn K cd_count_joined "count_joined" = true)
    (k_count_joined : PySem.W.keepIn K (.ref f_count_joined) = true)
    (a_count_but : PySem.W.nsIn K mainGlobals "count_but" = some (some (.ref f_count_but)))
    (l_count_but : K.lookup f_count_but = some ⟨oc_count_but, od_count_but, .func (PySem.W.fnOf "count_but" "count_but" (defArgs s_count_but) (defBody s_count_but) (defScope s_count_but) .none kV_count_but dc_count_but pm_count_but an_count_but cd_count_but ct_count_but), sl_count_but⟩)
    (c_count_but : PySem.W.codeIn K cd_count_but "count_but" = true)
    (k_count_but : PySem.W.keepIn K (.ref f_count_but) = true)
    (a_count_words : PySem.W.nsIn K mainGlobals "count_words" = some (some (.ref f_count_words)))
    (l_count_words : K.lookup f_count_words = some ⟨oc_count_words, od_count_words, .func (PySem.W.fnOf "count_words" "count_words" (defArgs s_count_words) (defBody s_count_words) (defScope s_count_words) .none kV_count_words dc_count_words pm_count_words an_count_words cd_count_words ct_count_words), sl_count_words⟩)
    (c_count_words : PySem.W.codeIn K cd_count_words "count_words" = true)
    (k_count_words : PySem.W.keepIn K (.ref f_count_words) = true)
    (a_is_query : PySem.W.nsIn K mainGlobals "is_query" = some (some (.ref f_is_query)))
    (l_is_query : K.lookup f_is_query = some ⟨oc_is_query, od_is_query, .func (PySem.W.fnOf "is_query" "is_query" (defArgs s_is_query) (defBody s_is_query) (defScope s_is_query) .none kV_is_query dc_is_query pm_is_query an_is_query cd_is_query ct_is_query), sl_is_query⟩)
    (c_is_query : PySem.W.codeIn K cd_is_query "is_query" = true)
    (k_is_query : PySem.W.keepIn K (.ref f_is_query) = true)
    (a_look_query : PySem.W.nsIn K mainGlobals "look_query" = some (some (.ref f_look_query)))
    (l_look_query : K.lookup f_look_query = some ⟨oc_look_query, od_look_query, .func (PySem.W.fnOf "look_query" "look_query" (defArgs s_look_query) (defBody s_look_query) (defScope s_look_query) .none kV_look_query dc_look_query pm_look_query an_look_query cd_look_query ct_look_query), sl_look_query⟩)
    (c_look_query : PySem.W.codeIn K cd_look_query "look_query" = true)
    (k_look_query : PySem.W.keepIn K (.ref f_look_query) = true)
    (a_text_in : PySem.W.nsIn K mainGlobals "text_in" = some (some (.ref f_text_in)))
    (l_text_in : K.lookup f_text_in = some ⟨oc_text_in, od_text_in, .func (PySem.W.fnOf "text_in" "text_in" (defArgs s_text_in) (defBody s_text_in) (defScope s_text_in) .none kV_text_in dc_text_in pm_text_in an_text_in cd_text_in ct_text_in), sl_text_in⟩)
    (c_text_in : PySem.W.codeIn K cd_text_in "text_in" = true)
    (k_text_in : PySem.W.keepIn K (.ref f_text_in) = true)
    (a_law_text : PySem.W.nsIn K mainGlobals "_law_text" = some (some (.ref f_law_text)))
    (l_law_text : K.lookup f_law_text = some ⟨oc_law_text, od_law_text, .func (PySem.W.fnOf "_law_text" "_law_text" (defArgs s_law_text) (defBody s_law_text) (defScope s_law_text) .none kV_law_text dc_law_text pm_law_text an_law_text cd_law_text ct_law_text), sl_law_text⟩)
    (c_law_text : PySem.W.codeIn K cd_law_text "_law_text" = true)
    (k_law_text : PySem.W.keepIn K (.ref f_law_text) = true)
    (a_law_same : PySem.W.nsIn K mainGlobals "_law_same" = some (some (.ref f_law_same)))
    (l_law_same : K.lookup f_law_same = some ⟨oc_law_same, od_law_same, .func (PySem.W.fnOf "_law_same" "_law_same" (defArgs s_law_same) (defBody s_law_same) (defScope s_law_same) .none kV_law_same dc_law_same pm_law_same an_law_same cd_law_same ct_law_same), sl_law_same⟩)
    (c_law_same : PySem.W.codeIn K cd_law_same "_law_same" = true)
    (k_law_same : PySem.W.keepIn K (.ref f_law_same) = true)
    (a_show : PySem.W.nsIn K mainGlobals "show" = some (some (.ref f_show)))
    (l_show : K.lookup f_show = some ⟨oc_show, od_show, .func (PySem.W.fnOf "show" "show" (defArgs s_show) (defBody s_show) (defScope s_show) .none kV_show dc_show pm_show an_show cd_show ct_show), sl_show⟩)
    (c_show : PySem.W.codeIn K cd_show "show" = true)
    (k_show : PySem.W.keepIn K (.ref f_show) = true)
    (a_law_pool : PySem.W.nsIn K mainGlobals "_law_pool" = some (some (.ref f_law_pool)))
    (l_law_pool : K.lookup f_law_pool = some ⟨oc_law_pool, od_law_pool, .func (PySem.W.fnOf "_law_pool" "_law_pool" (defArgs s_law_pool) (defBody s_law_pool) (defScope s_law_pool) .none kV_law_pool dc_law_pool pm_law_pool an_law_pool cd_law_pool ct_law_pool), sl_law_pool⟩)
    (c_law_pool : PySem.W.codeIn K cd_law_pool "_law_pool" = true)
    (k_law_pool : PySem.W.keepIn K (.ref f_law_pool) = true)
    (a_law_take : PySem.W.nsIn K mainGlobals "_law_take" = some (some (.ref f_law_take)))
    (l_law_take : K.lookup f_law_take = some ⟨oc_law_take, od_law_take, .func (PySem.W.fnOf "_law_take" "_law_take" (defArgs s_law_take) (defBody s_law_take) (defScope s_law_take) .none kV_law_take dc_law_take pm_law_take an_law_take cd_law_take ct_law_take), sl_law_take⟩)
    (c_law_take : PySem.W.codeIn K cd_law_take "_law_take" = true)
    (k_law_take : PySem.W.keepIn K (.ref f_law_take) = true)
    (a_law_letters : PySem.W.nsIn K mainGlobals "_law_letters" = some (some (.ref f_law_letters)))
    (l_law_letters : K.lookup f_law_letters = some ⟨oc_law_letters, od_law_letters, .func (PySem.W.fnOf "_law_letters" "_law_letters" (defArgs s_law_letters) (defBody s_law_letters) (defScope s_law_letters) .none kV_law_letters dc_law_letters pm_law_letters an_law_letters cd_law_letters ct_law_letters), sl_law_letters⟩)
    (c_law_letters : PySem.W.codeIn K cd_law_letters "_law_letters" = true)
    (k_law_letters : PySem.W.keepIn K (.ref f_law_letters) = true)
    (a_law_is_word : PySem.W.nsIn K mainGlobals "_law_is_word" = some (some (.ref f_law_is_word)))
    (l_law_is_word : K.lookup f_law_is_word = some ⟨oc_law_is_word, od_law_is_word, .func (PySem.W.fnOf "_law_is_word" "_law_is_word" (defArgs s_law_is_word) (defBody s_law_is_word) (defScope s_law_is_word) .none kV_law_is_word dc_law_is_word pm_law_is_word an_law_is_word cd_law_is_word ct_law_is_word), sl_law_is_word⟩)
    (c_law_is_word : PySem.W.codeIn K cd_law_is_word "_law_is_word" = true)
    (k_law_is_word : PySem.W.keepIn K (.ref f_law_is_word) = true)
    (a_law_kinds : PySem.W.nsIn K mainGlobals "_law_kinds" = some (some (.ref f_law_kinds)))
    (l_law_kinds : K.lookup f_law_kinds = some ⟨oc_law_kinds, od_law_kinds, .func (PySem.W.fnOf "_law_kinds" "_law_kinds" (defArgs s_law_kinds) (defBody s_law_kinds) (defScope s_law_kinds) .none kV_law_kinds dc_law_kinds pm_law_kinds an_law_kinds cd_law_kinds ct_law_kinds), sl_law_kinds⟩)
    (c_law_kinds : PySem.W.codeIn K cd_law_kinds "_law_kinds" = true)
    (k_law_kinds : PySem.W.keepIn K (.ref f_law_kinds) = true)
    (a_law_whole : PySem.W.nsIn K mainGlobals "_law_whole" = some (some (.ref f_law_whole)))
    (l_law_whole : K.lookup f_law_whole = some ⟨oc_law_whole, od_law_whole, .func (PySem.W.fnOf "_law_whole" "_law_whole" (defArgs s_law_whole) (defBody s_law_whole) (defScope s_law_whole) .none kV_law_whole dc_law_whole pm_law_whole an_law_whole cd_law_whole ct_law_whole), sl_law_whole⟩)
    (c_law_whole : PySem.W.codeIn K cd_law_whole "_law_whole" = true)
    (k_law_whole : PySem.W.keepIn K (.ref f_law_whole) = true)
    (a_law_many : PySem.W.nsIn K mainGlobals "_law_many" = some (some (.ref f_law_many)))
    (l_law_many : K.lookup f_law_many = some ⟨oc_law_many, od_law_many, .func (PySem.W.fnOf "_law_many" "_law_many" (defArgs s_law_many) (defBody s_law_many) (defScope s_law_many) .none kV_law_many dc_law_many pm_law_many an_law_many cd_law_many ct_law_many), sl_law_many⟩)
    (c_law_many : PySem.W.codeIn K cd_law_many "_law_many" = true)
    (k_law_many : PySem.W.keepIn K (.ref f_law_many) = true)
    (a_law_query : PySem.W.nsIn K mainGlobals "_law_query" = some (some (.ref f_law_query)))
    (l_law_query : K.lookup f_law_query = some ⟨oc_law_query, od_law_query, .func (PySem.W.fnOf "_law_query" "_law_query" (defArgs s_law_query) (defBody s_law_query) (defScope s_law_query) .none kV_law_query dc_law_query pm_law_query an_law_query cd_law_query ct_law_query), sl_law_query⟩)
    (c_law_query : PySem.W.codeIn K cd_law_query "_law_query" = true)
    (k_law_query : PySem.W.keepIn K (.ref f_law_query) = true)
    (a_law_count : PySem.W.nsIn K mainGlobals "_law_count" = some (some (.ref f_law_count)))
    (l_law_count : K.lookup f_law_count = some ⟨oc_law_count, od_law_count, .func (PySem.W.fnOf "_law_count" "_law_count" (defArgs s_law_count) (defBody s_law_count) (defScope s_law_count) .none kV_law_count dc_law_count pm_law_count an_law_count cd_law_count ct_law_count), sl_law_count⟩)
    (c_law_count : PySem.W.codeIn K cd_law_count "_law_count" = true)
    (k_law_count : PySem.W.keepIn K (.ref f_law_count) = true)
    (a_law_bent_query : PySem.W.nsIn K mainGlobals "_law_bent_query" = some (some (.ref f_law_bent_query)))
    (l_law_bent_query : K.lookup f_law_bent_query = some ⟨oc_law_bent_query, od_law_bent_query, .func (PySem.W.fnOf "_law_bent_query" "_law_bent_query" (defArgs s_law_bent_query) (defBody s_law_bent_query) (defScope s_law_bent_query) .none kV_law_bent_query dc_law_bent_query pm_law_bent_query an_law_bent_query cd_law_bent_query ct_law_bent_query), sl_law_bent_query⟩)
    (c_law_bent_query : PySem.W.codeIn K cd_law_bent_query "_law_bent_query" = true)
    (k_law_bent_query : PySem.W.keepIn K (.ref f_law_bent_query) = true)
    (a_QueryReader___init__ : PySem.W.findIn K (.ref C_QueryReader) "__init__" = some (some (.ref f_QueryReader___init__)))
    (i_QueryReader___init__ : PySem.W.isFn K (.ref f_QueryReader___init__) = true)
    (l_QueryReader___init__ : K.lookup f_QueryReader___init__ = some ⟨oc_QueryReader___init__, od_QueryReader___init__, .func (PySem.W.fnOf "__init__" "QueryReader.__init__" (defArgs s_QueryReader___init__) (defBody s_QueryReader___init__) (defScope s_QueryReader___init__) .none kV_QueryReader___init__ dc_QueryReader___init__ pm_QueryReader___init__ an_QueryReader___init__ cd_QueryReader___init__ ct_QueryReader___init__), sl_QueryReader___init__⟩)
    (c_QueryReader___init__ : PySem.W.codeIn K cd_QueryReader___init__ "QueryReader.__init__" = true)
    (k_QueryReader___init__ : PySem.W.keepIn K (.ref f_QueryReader___init__) = true)
    (mk_QueryReader : PySem.W.makesIn K C_QueryReader = true)
    (kc_QueryReader : PySem.W.keepIn K (.ref C_QueryReader) = true)
    (a_QueryReader_sign : PySem.W.findIn K (.ref C_QueryReader) "sign" = some (some (.ref f_QueryReader_sign)))
    (i_QueryReader_sign : PySem.W.isFn K (.ref f_QueryReader_sign) = true)
    (l_QueryReader_sign : K.lookup f_QueryReader_sign = some ⟨oc_QueryReader_sign, od_QueryReader_sign, .func (PySem.W.fnOf "sign" "QueryReader.sign" (defArgs s_QueryReader_sign) (defBody s_QueryReader_sign) (defScope s_QueryReader_sign) .none kV_QueryReader_sign dc_QueryReader_sign pm_QueryReader_sign an_QueryReader_sign cd_QueryReader_sign ct_QueryReader_sign), sl_QueryReader_sign⟩)
    (c_QueryReader_sign : PySem.W.codeIn K cd_QueryReader_sign "QueryReader.sign" = true)
    (k_QueryReader_sign : PySem.W.keepIn K (.ref f_QueryReader_sign) = true)
    (a_QueryReader_take : PySem.W.findIn K (.ref C_QueryReader) "take" = some (some (.ref f_QueryReader_take)))
    (i_QueryReader_take : PySem.W.isFn K (.ref f_QueryReader_take) = true)
    (l_QueryReader_take : K.lookup f_QueryReader_take = some ⟨oc_QueryReader_take, od_QueryReader_take, .func (PySem.W.fnOf "take" "QueryReader.take" (defArgs s_QueryReader_take) (defBody s_QueryReader_take) (defScope s_QueryReader_take) .none kV_QueryReader_take dc_QueryReader_take pm_QueryReader_take an_QueryReader_take cd_QueryReader_take ct_QueryReader_take), sl_QueryReader_take⟩)
    (c_QueryReader_take : PySem.W.codeIn K cd_QueryReader_take "QueryReader.take" = true)
    (k_QueryReader_take : PySem.W.keepIn K (.ref f_QueryReader_take) = true)
    (a_QueryReader_take_one_more : PySem.W.findIn K (.ref C_QueryReader) "take_one_more" = some (some (.ref f_QueryReader_take_one_more)))
    (i_QueryReader_take_one_more : PySem.W.isFn K (.ref f_QueryReader_take_one_more) = true)
    (l_QueryReader_take_one_more : K.lookup f_QueryReader_take_one_more = some ⟨oc_QueryReader_take_one_more, od_QueryReader_take_one_more, .func (PySem.W.fnOf "take_one_more" "QueryReader.take_one_more" (defArgs s_QueryReader_take_one_more) (defBody s_QueryReader_take_one_more) (defScope s_QueryReader_take_one_more) .none kV_QueryReader_take_one_more dc_QueryReader_take_one_more pm_QueryReader_take_one_more an_QueryReader_take_one_more cd_QueryReader_take_one_more ct_QueryReader_take_one_more), sl_QueryReader_take_one_more⟩)
    (c_QueryReader_take_one_more : PySem.W.codeIn K cd_QueryReader_take_one_more "QueryReader.take_one_more" = true)
    (k_QueryReader_take_one_more : PySem.W.keepIn K (.ref f_QueryReader_take_one_more) = true)
    (a_QueryReader_take_word : PySem.W.findIn K (.ref C_QueryReader) "take_word" = some (some (.ref f_QueryReader_take_word)))
    (i_QueryReader_take_word : PySem.W.isFn K (.ref f_QueryReader_take_word) = true)
    (l_QueryReader_take_word : K.lookup f_QueryReader_take_word = some ⟨oc_QueryReader_take_word, od_QueryReader_take_word, .func (PySem.W.fnOf "take_word" "QueryReader.take_word" (defArgs s_QueryReader_take_word) (defBody s_QueryReader_take_word) (defScope s_QueryReader_take_word) .none kV_QueryReader_take_word dc_QueryReader_take_word pm_QueryReader_take_word an_QueryReader_take_word cd_QueryReader_take_word ct_QueryReader_take_word), sl_QueryReader_take_word⟩)
    (c_QueryReader_take_word : PySem.W.codeIn K cd_QueryReader_take_word "QueryReader.take_word" = true)
    (k_QueryReader_take_word : PySem.W.keepIn K (.ref f_QueryReader_take_word) = true)
    (a_QueryReader_phrase : PySem.W.findIn K (.ref C_QueryReader) "phrase" = some (some (.ref f_QueryReader_phrase)))
    (i_QueryReader_phrase : PySem.W.isFn K (.ref f_QueryReader_phrase) = true)
    (l_QueryReader_phrase : K.lookup f_QueryReader_phrase = some ⟨oc_QueryReader_phrase, od_QueryReader_phrase, .func (PySem.W.fnOf "phrase" "QueryReader.phrase" (defArgs s_QueryReader_phrase) (defBody s_QueryReader_phrase) (defScope s_QueryReader_phrase) .none kV_QueryReader_phrase dc_QueryReader_phrase pm_QueryReader_phrase an_QueryReader_phrase cd_QueryReader_phrase ct_QueryReader_phrase), sl_QueryReader_phrase⟩)
    (c_QueryReader_phrase : PySem.W.codeIn K cd_QueryReader_phrase "QueryReader.phrase" = true)
    (k_QueryReader_phrase : PySem.W.keepIn K (.ref f_QueryReader_phrase) = true)
    (a_QueryReader_near : PySem.W.findIn K (.ref C_QueryReader) "near" = some (some (.ref f_QueryReader_near)))
    (i_QueryReader_near : PySem.W.isFn K (.ref f_QueryReader_near) = true)
    (l_QueryReader_near : K.lookup f_QueryReader_near = some ⟨oc_QueryReader_near, od_QueryReader_near, .func (PySem.W.fnOf "near" "QueryReader.near" (defArgs s_QueryReader_near) (defBody s_QueryReader_near) (defScope s_QueryReader_near) .none kV_QueryReader_near dc_QueryReader_near pm_QueryReader_near an_QueryReader_near cd_QueryReader_near ct_QueryReader_near), sl_QueryReader_near⟩)
    (c_QueryReader_near : PySem.W.codeIn K cd_QueryReader_near "QueryReader.near" = true)
    (k_QueryReader_near : PySem.W.keepIn K (.ref f_QueryReader_near) = true)
    (a_QueryReader_group : PySem.W.findIn K (.ref C_QueryReader) "group" = some (some (.ref f_QueryReader_group)))
    (i_QueryReader_group : PySem.W.isFn K (.ref f_QueryReader_group) = true)
    (l_QueryReader_group : K.lookup f_QueryReader_group = some ⟨oc_QueryReader_group, od_QueryReader_group, .func (PySem.W.fnOf "group" "QueryReader.group" (defArgs s_QueryReader_group) (defBody s_QueryReader_group) (defScope s_QueryReader_group) .none kV_QueryReader_group dc_QueryReader_group pm_QueryReader_group an_QueryReader_group cd_QueryReader_group ct_QueryReader_group), sl_QueryReader_group⟩)
    (c_QueryReader_group : PySem.W.codeIn K cd_QueryReader_group "QueryReader.group" = true)
    (k_QueryReader_group : PySem.W.keepIn K (.ref f_QueryReader_group) = true)
    (a_QueryReader_query : PySem.W.findIn K (.ref C_QueryReader) "query" = some (some (.ref f_QueryReader_query)))
    (i_QueryReader_query : PySem.W.isFn K (.ref f_QueryReader_query) = true)
    (l_QueryReader_query : K.lookup f_QueryReader_query = some ⟨oc_QueryReader_query, od_QueryReader_query, .func (PySem.W.fnOf "query" "QueryReader.query" (defArgs s_QueryReader_query) (defBody s_QueryReader_query) (defScope s_QueryReader_query) .none kV_QueryReader_query dc_QueryReader_query pm_QueryReader_query an_QueryReader_query cd_QueryReader_query ct_QueryReader_query), sl_QueryReader_query⟩)
    (c_QueryReader_query : PySem.W.codeIn K cd_QueryReader_query "QueryReader.query" = true)
    (k_QueryReader_query : PySem.W.keepIn K (.ref f_QueryReader_query) = true)
    (a_read : PySem.W.nsIn K mainGlobals "read" = some (some (.ref f_read)))
    (l_read : K.lookup f_read = some ⟨oc_read, od_read, .func (PySem.W.fnOf "read" "read" (defArgs s_read) (defBody s_read) (defScope s_read) .none kV_read dc_read pm_read an_read cd_read ct_read), sl_read⟩)
    (c_read : PySem.W.codeIn K cd_read "read" = true)
    (k_read : PySem.W.keepIn K (.ref f_read) = true)
    (a_law : PySem.W.nsIn K mainGlobals "law" = some (some (.ref f_law)))
    (l_law : K.lookup f_law = some ⟨oc_law, od_law, .func (PySem.W.fnOf "law" "law" (defArgs s_law) (defBody s_law) (defScope s_law) .none kV_law dc_law pm_law an_law (.ref c0_law) ct_law), sl_law⟩)
    (c_law : PySem.W.codeIn K (.ref c0_law) "law" = true)
    (k_law : PySem.W.keepIn K (.ref f_law) = true)
    (a_KINDS_queries : PySem.W.nsIn K mainGlobals "KINDS_queries" = some (some (.ref D_KINDS_queries)))
    (l_KINDS_queries : K.lookup D_KINDS_queries = some ⟨.type "dict", none, .dict (([⟨"word", tD0_KINDS_queries, .ref f_count_word⟩, ⟨"phrase", tD1_KINDS_queries, .ref f_count_phrase⟩, ⟨"near", tD2_KINDS_queries, .ref f_count_near⟩, ⟨"and", tD3_KINDS_queries, .ref f_count_joined⟩, ⟨"or", tD4_KINDS_queries, .ref f_count_joined⟩, ⟨"but", tD5_KINDS_queries, .ref f_count_but⟩] : List Ent).map (Ent.de w.params)).toArray nD_KINDS_queries, #[]⟩)
    (lo_KINDS_queries : (D_KINDS_queries == sysModules) = false)
    (a_SIGNS : PySem.W.nsIn K mainGlobals "SIGNS" = some (some (.ref D_SIGNS)))
    (l_SIGNS : K.lookup D_SIGNS = some ⟨.type "dict", none, .dict (([⟨"and", tD0_SIGNS, .str "&" uD0_SIGNS⟩, ⟨"or", tD1_SIGNS, .str "|" uD1_SIGNS⟩, ⟨"but", tD2_SIGNS, .str "-" uD2_SIGNS⟩] : List Ent).map (Ent.de w.params)).toArray nD_SIGNS, #[]⟩)
    (lo_SIGNS : (D_SIGNS == sysModules) = false)
    (a_KINDS_querytexts : PySem.W.nsIn K mainGlobals "KINDS_querytexts" = some (some (.ref D_KINDS_querytexts)))
    (l_KINDS_querytexts : K.lookup D_KINDS_querytexts = some ⟨.type "dict", none, .dict (([⟨"&", tD0_KINDS_querytexts, .str "and" uD0_KINDS_querytexts⟩, ⟨"|", tD1_KINDS_querytexts, .str "or" uD1_KINDS_querytexts⟩, ⟨"-", tD2_KINDS_querytexts, .str "but" uD2_KINDS_querytexts⟩] : List Ent).map (Ent.de w.params)).toArray nD_KINDS_querytexts, #[]⟩)
    (lo_KINDS_querytexts : (D_KINDS_querytexts == sysModules) = false)
    (t_law : h.get? P_law = some (PySem.W.tabObj #[]))
    (ch_law : PySem.W.codeHdIn K c0_law P_law = true)
    (nk_law : K.lookup P_law = none) :
    LamX.LawAtS l w K CX0 30 63 "_law_script" mg fa h := by
  have e := hfa.symm.trans (PySem.W.mg_of X G a_law)
  cases e
  have T : Txt K mg (⟨C_Wrong, C_NoWord, C_NoText, C_NoNumber, C_NoSize, C_NoLengths, C_NoQuery, C_NoCode, C_NoRow, C_NoEntries, C_NoQueryText, C_NoPages, C_NoName, C_NoQueries, C_NoShelf, C_NoDeed, C_Taken, C_NoPlace, C_NoSlot⟩ : Zs) C_QueryReader := { c_LETTERS := ⟨_, PySem.W.mg_of X G g_LETTERS⟩, c_LONGEST := ⟨_, PySem.W.mg_of X G g_LONGEST⟩, c_DEEPEST := ⟨_, PySem.W.mg_of X G g_DEEPEST⟩, c_MOST_WORDS := ⟨_, PySem.W.mg_of X G g_MOST_WORDS⟩, c_FARTHEST := ⟨_, PySem.W.mg_of X G g_FARTHEST⟩, n_isinstance := PySem.W.mg_none_of X G z_isinstance, n_bool := PySem.W.mg_none_of X G z_bool, n_int := PySem.W.mg_none_of X G z_int, n_str := PySem.W.mg_none_of X G z_str, n_list := PySem.W.mg_none_of X G z_list, n_tuple := PySem.W.mg_none_of X G z_tuple, n_len := PySem.W.mg_none_of X G z_len, n_all := PySem.W.mg_none_of X G z_all, n_max := PySem.W.mg_none_of X G z_max, n_min := PySem.W.mg_none_of X G z_min, n_range := PySem.W.mg_none_of X G z_range, n_abs := PySem.W.mg_none_of X G z_abs, n_sum := PySem.W.mg_none_of X G z_sum, n_zip := PySem.W.mg_none_of X G z_zip, n_ValueError := PySem.W.mg_none_of X G z_ValueError, n_IndexError := PySem.W.mg_none_of X G z_IndexError, m_Wrong := PySem.W.mg_of X G aC_Wrong, m_NoWord := PySem.W.mg_of X G aC_NoWord, m_NoText := PySem.W.mg_of X G aC_NoText, m_NoNumber := PySem.W.mg_of X G aC_NoNumber, m_NoSize := PySem.W.mg_of X G aC_NoSize, m_NoLengths := PySem.W.mg_of X G aC_NoLengths, m_NoQuery := PySem.W.mg_of X G aC_NoQuery, m_NoCode := PySem.W.mg_of X G aC_NoCode, m_NoRow := PySem.W.mg_of X G aC_NoRow, m_NoEntries := PySem.W.mg_of X G aC_NoEntries, m_NoQueryText := PySem.W.mg_of X G aC_NoQueryText, m_NoPages := PySem.W.mg_of X G aC_NoPages, m_NoName := PySem.W.mg_of X G aC_NoName, m_NoQueries := PySem.W.mg_of X G aC_NoQueries, m_NoShelf := PySem.W.mg_of X G aC_NoShelf, m_NoDeed := PySem.W.mg_of X G aC_NoDeed, m_Taken := PySem.W.mg_of X G aC_Taken, m_NoPlace := PySem.W.mg_of X G aC_NoPlace, m_NoSlot := PySem.W.mg_of X G aC_NoSlot, x_NoQuery := ⟨q_NoQuery, kp_NoQuery, e1_NoQuery, e2_NoQuery⟩, h_NoQuery := howPlB_ok h_NoQuery, na_QueryReader_text := na_QueryReader_text, na_QueryReader_at := na_QueryReader_at, na_QueryReader_least := na_QueryReader_least, cl_QueryReader := ⟨pg_QueryReader, hd_QueryReader, po_QueryReader, sa_QueryReader⟩, m_QueryReader := PySem.W.mg_of X G aC_QueryReader }
  have F_law_kind := fun_mk (st := s_law_kind) l_law_kind c_law_kind k_law_kind
  have b_law_kind := F_law_kind.binds (ps := ["_law_e"]) fun _ _ _ _ _ _ us hl => match us, hl with | [_], _ => rfl
  have F_law_how := fun_mk (st := s_law_how) l_law_how c_law_how k_law_how
  have b_law_how := F_law_how.binds (ps := ["_law_deed"]) fun _ _ _ _ _ _ us hl => match us, hl with | [_], _ => rfl
  have F_is_whole := fun_mk (st := s_is_whole) l_is_whole c_is_whole k_is_whole
  have b_is_whole := F_is_whole.binds (ps := ["thing"]) fun _ _ _ _ _ _ us hl => match us, hl with | [_], _ => rfl
  have F_is_word := fun_mk (st := s_is_word) l_is_word c_is_word k_is_word
  have b_is_word := F_is_word.binds (ps := ["thing"]) fun _ _ _ _ _ _ us hl => match us, hl with | [_], _ => rfl
  have F_count_word := fun_mk (st := s_count_word) l_count_word c_count_word k_count_word
  have b_count_word := F_count_word.binds (ps := ["parts", "deep"]) fun _ _ _ _ _ _ us hl => match us, hl with | [_, _], _ => rfl
  have F_count_phrase := fun_mk (st := s_count_phrase) l_count_phrase c_count_phrase k_count_phrase
  have b_count_phrase := F_count_phrase.binds (ps := ["parts", "deep"]) fun _ _ _ _ _ _ us hl => match us, hl with | [_, _], _ => rfl
  have F_count_near := fun_mk (st := s_count_near) l_count_near c_count_near k_count_near
  have b_count_near := F_count_near.binds (ps := ["parts", "deep"]) fun _ _ _ _ _ _ us hl => match us, hl with | [_, _], _ => rfl
  have F_count_joined := fun_mk (st := s_count_joined) l_count_joined c_count_joined k_count_joined
  have b_count_joined := F_count_joined.binds (ps := ["parts", "deep"]) fun _ _ _ _ _ _ us hl => match us, hl with | [_, _], _ => rfl
  have F_count_but := fun_mk (st := s_count_but) l_count_but c_count_but k_count_but
  have b_count_but := F_count_but.binds (ps := ["parts", "deep"]) fun _ _ _ _ _ _ us hl => match us, hl with | [_, _], _ => rfl
  have F_count_words := fun_mk (st := s_count_words) l_count_words c_count_words k_count_words
  have b_count_words := F_count_words.binds (ps := ["thing", "deep"]) fun _ _ _ _ _ _ us hl => match us, hl with | [_, _], _ => rfl
  have F_is_query := fun_mk (st := s_is_query) l_is_query c_is_query k_is_query
  have b_is_query := F_is_query.binds (ps := ["thing"]) fun _ _ _ _ _ _ us hl => match us, hl with | [_], _ => rfl
  have F_look_query := fun_mk (st := s_look_query) l_look_query c_look_query k_look_query
  have b_look_query := F_look_query.binds (ps := ["thing"]) fun _ _ _ _ _ _ us hl => match us, hl with | [_], _ => rfl
  have F_text_in := fun_mk (st := s_text_in) l_text_in c_text_in k_text_in
  have b_text_in := F_text_in.binds (ps := ["query"]) fun _ _ _ _ _ _ us hl => match us, hl with | [_], _ => rfl
  have F_law_text := fun_mk (st := s_law_text) l_law_text c_law_text k_law_text
  have b_law_text := F_law_text.binds (ps := ["_law_query_here"]) fun _ _ _ _ _ _ us hl => match us, hl with | [_], _ => rfl
  have F_law_same := fun_mk (st := s_law_same) l_law_same c_law_same k_law_same
  have b_law_same := F_law_same.binds (ps := ["_law_one", "_law_other"]) fun _ _ _ _ _ _ us hl => match us, hl with | [_, _], _ => rfl
  have F_show := fun_mk (st := s_show) l_show c_show k_show
  have b_show := F_show.binds (ps := ["query"]) fun _ _ _ _ _ _ us hl => match us, hl with | [_], _ => rfl
  have F_law_pool := fun_mk (st := s_law_pool) l_law_pool c_law_pool k_law_pool
  have b_law_pool := F_law_pool.binds (ps := ["_law_script", "_law_at"]) fun _ _ _ _ _ _ us hl => match us, hl with | [_, _], _ => rfl
  have F_law_take := fun_mk (st := s_law_take) l_law_take c_law_take k_law_take
  have b_law_take := F_law_take.binds (ps := ["_law_pool_here", "_law_many_here"]) fun _ _ _ _ _ _ us hl => match us, hl with | [_, _], _ => rfl
  have F_law_letters := fun_mk (st := s_law_letters) l_law_letters c_law_letters k_law_letters
  have b_law_letters := F_law_letters.binds (ps := []) fun _ _ _ _ _ _ us hl => match us, hl with | [], _ => rfl
  have F_law_is_word := fun_mk (st := s_law_is_word) l_law_is_word c_law_is_word k_law_is_word
  have b_law_is_word := F_law_is_word.binds (ps := ["_law_thing"]) fun _ _ _ _ _ _ us hl => match us, hl with | [_], _ => rfl
  have F_law_kinds := fun_mk (st := s_law_kinds) l_law_kinds c_law_kinds k_law_kinds
  have b_law_kinds := F_law_kinds.binds (ps := ["_law_pool_here"]) fun _ _ _ _ _ _ us hl => match us, hl with | [_], _ => rfl
  have F_law_whole := fun_mk (st := s_law_whole) l_law_whole c_law_whole k_law_whole
  have b_law_whole := F_law_whole.binds (ps := ["_law_thing"]) fun _ _ _ _ _ _ us hl => match us, hl with | [_], _ => rfl
  have F_law_many := fun_mk (st := s_law_many) l_law_many c_law_many k_law_many
  have b_law_many := F_law_many.binds (ps := ["_law_query_here"]) fun _ _ _ _ _ _ us hl => match us, hl with | [_], _ => rfl
  have F_law_query := fun_mk (st := s_law_query) l_law_query c_law_query k_law_query
  have b_law_query := F_law_query.binds (ps := ["_law_pool_here", "_law_kinds_here", "_law_deep", "_law_most"]) fun _ _ _ _ _ _ us hl => match us, hl with | [_, _, _, _], _ => rfl
  have F_law_count := fun_mk (st := s_law_count) l_law_count c_law_count k_law_count
  have b_law_count := F_law_count.binds (ps := ["_law_thing", "_law_deep"]) fun _ _ _ _ _ _ us hl => match us, hl with | [_, _], _ => rfl
  have F_law_bent_query := fun_mk (st := s_law_bent_query) l_law_bent_query c_law_bent_query k_law_bent_query
  have b_law_bent_query := F_law_bent_query.binds (ps := ["_law_pool_here", "_law_query_here"]) fun _ _ _ _ _ _ us hl => match us, hl with | [_, _], _ => rfl
  have F_QueryReader___init__ := fun_mk (st := s_QueryReader___init__) l_QueryReader___init__ c_QueryReader___init__ k_QueryReader___init__
  have b_QueryReader___init__ := F_QueryReader___init__.binds (ps := ["self", "text"]) fun _ _ _ _ _ _ us hl => match us, hl with | [_, _], _ => rfl
  have F_QueryReader_sign := fun_mk (st := s_QueryReader_sign) l_QueryReader_sign c_QueryReader_sign k_QueryReader_sign
  have b_QueryReader_sign := F_QueryReader_sign.binds (ps := ["self"]) fun _ _ _ _ _ _ us hl => match us, hl with | [_], _ => rfl
  have F_QueryReader_take := fun_mk (st := s_QueryReader_take) l_QueryReader_take c_QueryReader_take k_QueryReader_take
  have b_QueryReader_take := F_QueryReader_take.binds (ps := ["self", "signs"]) fun _ _ _ _ _ _ us hl => match us, hl with | [_, _], _ => rfl
  have F_QueryReader_take_one_more := fun_mk (st := s_QueryReader_take_one_more) l_QueryReader_take_one_more c_QueryReader_take_one_more k_QueryReader_take_one_more
  have b_QueryReader_take_one_more := F_QueryReader_take_one_more.binds (ps := ["self", "sign"]) fun _ _ _ _ _ _ us hl => match us, hl with | [_, _], _ => rfl
  have F_QueryReader_take_word := fun_mk (st := s_QueryReader_take_word) l_QueryReader_take_word c_QueryReader_take_word k_QueryReader_take_word
  have b_QueryReader_take_word := F_QueryReader_take_word.binds (ps := ["self"]) fun _ _ _ _ _ _ us hl => match us, hl with | [_], _ => rfl
  have F_QueryReader_phrase := fun_mk (st := s_QueryReader_phrase) l_QueryReader_phrase c_QueryReader_phrase k_QueryReader_phrase
  have b_QueryReader_phrase := F_QueryReader_phrase.binds (ps := ["self"]) fun _ _ _ _ _ _ us hl => match us, hl with | [_], _ => rfl
  have F_QueryReader_near := fun_mk (st := s_QueryReader_near) l_QueryReader_near c_QueryReader_near k_QueryReader_near
  have b_QueryReader_near := F_QueryReader_near.binds (ps := ["self", "word"]) fun _ _ _ _ _ _ us hl => match us, hl with | [_, _], _ => rfl
  have F_QueryReader_group := fun_mk (st := s_QueryReader_group) l_QueryReader_group c_QueryReader_group k_QueryReader_group
  have b_QueryReader_group := F_QueryReader_group.binds (ps := ["self", "deep"]) fun _ _ _ _ _ _ us hl => match us, hl with | [_, _], _ => rfl
  have F_QueryReader_query := fun_mk (st := s_QueryReader_query) l_QueryReader_query c_QueryReader_query k_QueryReader_query
  have b_QueryReader_query := F_QueryReader_query.binds (ps := ["self", "deep"]) fun _ _ _ _ _ _ us hl => match us, hl with | [_, _], _ => rfl
  have F_read := fun_mk (st := s_read) l_read c_read k_read
  have b_read := F_read.binds (ps := ["text"]) fun _ _ _ _ _ _ us hl => match us, hl with | [_], _ => rfl
  have FC_law := funC_mk (st := s_law) l_law c_law k_law
  have F_law := FC_law.fun_
  refine ⟨PySem.W.fnOf "law" "law" (defArgs s_law) (defBody s_law) (defScope s_law) .none kV_law dc_law pm_law an_law (.ref c0_law) ct_law, [(c0_law, P_law)], spLaw K [(P_law, lamN "law")], ?_, ?_, ?_, fun s v => .of_eq rfl, ?_, fun base _ _ hTB => ?_⟩
  · intro p hp
    simp only [List.mem_cons, List.not_mem_nil, or_false] at hp
    rcases hp with rfl
    · exact t_law
  · intro p hp
    simp only [List.mem_cons, List.not_mem_nil, or_false] at hp
    rcases hp with rfl
    · exact nk_law
  · intro p hp
    simp only [List.mem_cons, List.not_mem_nil, or_false] at hp
    rcases hp with rfl
    · exact PySem.W.codeHd_of_K X ch_law
  · intro H a ns hl _ hE hS
    refine ⟨a, ns, rfl, hS, hl, fun p hp => ?_, fun _ => rfl⟩
    simp only [List.mem_cons, List.not_mem_nil, or_false] at hp
    rcases hp with rfl
    · exact LamX.TabS.nil (hE (c0_law, P_law) (by simp))
  have tb_law := hTB (c0_law, P_law) (by simp)
  have kd_KINDS_queries := kdict_lits l_KINDS_queries lo_KINDS_queries
  have kc_KINDS_queries := PySem.W.mg_of X G a_KINDS_queries
  have kd_SIGNS := kdict_lits l_SIGNS lo_SIGNS
  have kc_SIGNS := PySem.W.mg_of X G a_SIGNS
  have kd_KINDS_querytexts := kdict_lits l_KINDS_querytexts lo_KINDS_querytexts
  have kc_KINDS_querytexts := PySem.W.mg_of X G a_KINDS_querytexts
  have f__law_kind : FnP l.prog w K mg base "_law_kind" _ _ _ := ⟨_, _, ok_kind F_law_kind T, PySem.W.mg_of X G a_law_kind, k_law_kind, b_law_kind⟩
  have f__law_how := how_asks (P := l.prog) (w := w) (base := base) T F_law_how (PySem.W.mg_of X G a_law_how) b_law_how f__law_kind
  have f_is_whole : Fn l.prog w K mg base "is_whole" _ _ _ := ⟨_, _, ok_whole F_is_whole T, PySem.W.mg_of X G a_is_whole, k_is_whole, b_is_whole⟩
  have f_is_word : Fn l.prog w K mg base "is_word" _ _ _ := ⟨_, _, ok_is_word F_is_word T, PySem.W.mg_of X G a_is_word, k_is_word, b_is_word⟩
  have c0 : Fn l.prog w K mg base "count_words" (4 * 0 + 3) _ (spCnt K 0) := ⟨_, _, ok_cnt0 F_count_words T kc_KINDS_queries kd_KINDS_queries, PySem.W.mg_of X G a_count_words, k_count_words, b_count_words⟩
  have j0 : Fn l.prog w K mg base "count_joined" (4 * 0 + 4) _ _ := ⟨_, _, ok_cjoin (N := 0) F_count_joined T c0, PySem.W.mg_of X G a_count_joined, k_count_joined, b_count_joined⟩
  have c1 : Fn l.prog w K mg base "count_words" (4 * 1 + 3) _ (spCnt K 1) := ⟨_, _, ok_cntS (N := 0) F_count_words T kc_KINDS_queries kd_KINDS_queries (kk_all l_KINDS_queries ⟨_, _, fnok_mono (ok_cword F_count_word T f_is_word) (by omega), k_count_word, b_count_word⟩ ⟨_, _, fnok_mono (ok_cphrase F_count_phrase T f_is_word) (by omega), k_count_phrase, b_count_phrase⟩ ⟨_, _, fnok_mono (ok_cnear F_count_near T f_is_word f_is_whole) (by omega), k_count_near, b_count_near⟩ ⟨_, _, fnok_mono (ok_cjoin (N := 0) F_count_joined T c0) (by omega), k_count_joined, b_count_joined⟩ ⟨_, _, ok_cbut (N := 0) F_count_but T j0, k_count_but, b_count_but⟩), PySem.W.mg_of X G a_count_words, k_count_words, b_count_words⟩
  have j1 : Fn l.prog w K mg base "count_joined" (4 * 1 + 4) _ _ := ⟨_, _, ok_cjoin (N := 1) F_count_joined T c1, PySem.W.mg_of X G a_count_joined, k_count_joined, b_count_joined⟩
  have c2 : Fn l.prog w K mg base "count_words" (4 * 2 + 3) _ (spCnt K 2) := ⟨_, _, ok_cntS (N := 1) F_count_words T kc_KINDS_queries kd_KINDS_queries (kk_all l_KINDS_queries ⟨_, _, fnok_mono (ok_cword F_count_word T f_is_word) (by omega), k_count_word, b_count_word⟩ ⟨_, _, fnok_mono (ok_cphrase F_count_phrase T f_is_word) (by omega), k_count_phrase, b_count_phrase⟩ ⟨_, _, fnok_mono (ok_cnear F_count_near T f_is_word f_is_whole) (by omega), k_count_near, b_count_near⟩ ⟨_, _, fnok_mono (ok_cjoin (N := 1) F_count_joined T c1) (by omega), k_count_joined, b_count_joined⟩ ⟨_, _, ok_cbut (N := 1) F_count_but T j1, k_count_but, b_count_but⟩), PySem.W.mg_of X G a_count_words, k_count_words, b_count_words⟩
  have j2 : Fn l.prog w K mg base "count_joined" (4 * 2 + 4) _ _ := ⟨_, _, ok_cjoin (N := 2) F_count_joined T c2, PySem.W.mg_of X G a_count_joined, k_count_joined, b_count_joined⟩
  have c3 : Fn l.prog w K mg base "count_words" (4 * 3 + 3) _ (spCnt K 3) := ⟨_, _, ok_cntS (N := 2) F_count_words T kc_KINDS_queries kd_KINDS_queries (kk_all l_KINDS_queries ⟨_, _, fnok_mono (ok_cword F_count_word T f_is_word) (by omega), k_count_word, b_count_word⟩ ⟨_, _, fnok_mono (ok_cphrase F_count_phrase T f_is_word) (by omega), k_count_phrase, b_count_phrase⟩ ⟨_, _, fnok_mono (ok_cnear F_count_near T f_is_word f_is_whole) (by omega), k_count_near, b_count_near⟩ ⟨_, _, fnok_mono (ok_cjoin (N := 2) F_count_joined T c2) (by omega), k_count_joined, b_count_joined⟩ ⟨_, _, ok_cbut (N := 2) F_count_but T j2, k_count_but, b_count_but⟩), PySem.W.mg_of X G a_count_words, k_count_words, b_count_words⟩
  have j3 : Fn l.prog w K mg base "count_joined" (4 * 3 + 4) _ _ := ⟨_, _, ok_cjoin (N := 3) F_count_joined T c3, PySem.W.mg_of X G a_count_joined, k_count_joined, b_count_joined⟩
  have c4 : Fn l.prog w K mg base "count_words" (4 * 4 + 3) _ (spCnt K 4) := ⟨_, _, ok_cntS (N := 3) F_count_words T kc_KINDS_queries kd_KINDS_queries (kk_all l_KINDS_queries ⟨_, _, fnok_mono (ok_cword F_count_word T f_is_word) (by omega), k_count_word, b_count_word⟩ ⟨_, _, fnok_mono (ok_cphrase F_count_phrase T f_is_word) (by omega), k_count_phrase, b_count_phrase⟩ ⟨_, _, fnok_mono (ok_cnear F_count_near T f_is_word f_is_whole) (by omega), k_count_near, b_count_near⟩ ⟨_, _, fnok_mono (ok_cjoin (N := 3) F_count_joined T c3) (by omega), k_count_joined, b_count_joined⟩ ⟨_, _, ok_cbut (N := 3) F_count_but T j3, k_count_but, b_count_but⟩), PySem.W.mg_of X G a_count_words, k_count_words, b_count_words⟩
  have j4 : Fn l.prog w K mg base "count_joined" (4 * 4 + 4) _ _ := ⟨_, _, ok_cjoin (N := 4) F_count_joined T c4, PySem.W.mg_of X G a_count_joined, k_count_joined, b_count_joined⟩
  have c5 : Fn l.prog w K mg base "count_words" (4 * 5 + 3) _ (spCnt K 5) := ⟨_, _, ok_cntS (N := 4) F_count_words T kc_KINDS_queries kd_KINDS_queries (kk_all l_KINDS_queries ⟨_, _, fnok_mono (ok_cword F_count_word T f_is_word) (by omega), k_count_word, b_count_word⟩ ⟨_, _, fnok_mono (ok_cphrase F_count_phrase T f_is_word) (by omega), k_count_phrase, b_count_phrase⟩ ⟨_, _, fnok_mono (ok_cnear F_count_near T f_is_word f_is_whole) (by omega), k_count_near, b_count_near⟩ ⟨_, _, fnok_mono (ok_cjoin (N := 4) F_count_joined T c4) (by omega), k_count_joined, b_count_joined⟩ ⟨_, _, ok_cbut (N := 4) F_count_but T j4, k_count_but, b_count_but⟩), PySem.W.mg_of X G a_count_words, k_count_words, b_count_words⟩
  have f_is_query : Fn l.prog w K mg base "is_query" _ _ _ := ⟨_, _, ok_isq F_is_query T c5, PySem.W.mg_of X G a_is_query, k_is_query, b_is_query⟩
  have f_look_query : FnX l.prog w K mg base "look_query" _ _ _ := ⟨_, _, ok_lookqX F_look_query T f_is_query, PySem.W.mg_of X G a_look_query, k_look_query, b_look_query⟩
  have sig := sig_mk l_SIGNS lo_SIGNS
  have knd := knd_mk l_KINDS_querytexts lo_KINDS_querytexts
  have tx0 : Fn l.prog w K mg base "text_in" (0 + 1) ["query"] (spTx K 0) := ⟨_, _, fnok_no spTx0, PySem.W.mg_of X G a_text_in, k_text_in, b_text_in⟩
  have tx1 : Fn l.prog w K mg base "text_in" (0 + 2) _ (spTx K 1) := ⟨_, _, ok_txS (N := 0) (k0 := 0 + 1) F_text_in T kc_SIGNS sig tx0, PySem.W.mg_of X G a_text_in, k_text_in, b_text_in⟩
  have tx2 : Fn l.prog w K mg base "text_in" (1 + 2) _ (spTx K 2) := ⟨_, _, ok_txS (N := 1) (k0 := 1 + 1) F_text_in T kc_SIGNS sig tx1, PySem.W.mg_of X G a_text_in, k_text_in, b_text_in⟩
  have tx3 : Fn l.prog w K mg base "text_in" (2 + 2) _ (spTx K 3) := ⟨_, _, ok_txS (N := 2) (k0 := 2 + 1) F_text_in T kc_SIGNS sig tx2, PySem.W.mg_of X G a_text_in, k_text_in, b_text_in⟩
  have tx4 : Fn l.prog w K mg base "text_in" (3 + 2) _ (spTx K 4) := ⟨_, _, ok_txS (N := 3) (k0 := 3 + 1) F_text_in T kc_SIGNS sig tx3, PySem.W.mg_of X G a_text_in, k_text_in, b_text_in⟩
  have tx5 : Fn l.prog w K mg base "text_in" (4 + 2) _ (spTx K 5) := ⟨_, _, ok_txS (N := 4) (k0 := 4 + 1) F_text_in T kc_SIGNS sig tx4, PySem.W.mg_of X G a_text_in, k_text_in, b_text_in⟩
  have f_show : FnX l.prog w K mg base "show" _ _ _ := ⟨_, _, ok_showX F_show T f_look_query tx5, PySem.W.mg_of X G a_show, k_show, b_show⟩
  have f__law_pool : Fn l.prog w K mg base "_law_pool" _ _ _ := ⟨_, _, ok_pool F_law_pool T, PySem.W.mg_of X G a_law_pool, k_law_pool, b_law_pool⟩
  have f__law_take : Fn l.prog w K mg base "_law_take" _ _ _ := ⟨_, _, ok_take F_law_take , PySem.W.mg_of X G a_law_take, k_law_take, b_law_take⟩
  have f__law_letters : Fn l.prog w K mg base "_law_letters" _ _ _ := ⟨_, _, ok_letters F_law_letters , PySem.W.mg_of X G a_law_letters, k_law_letters, b_law_letters⟩
  have f__law_is_word : Fn l.prog w K mg base "_law_is_word" _ _ _ := ⟨_, _, ok_law_is_word F_law_is_word T f__law_letters, PySem.W.mg_of X G a_law_is_word, k_law_is_word, b_law_is_word⟩
  have f__law_kinds : Fn l.prog w K mg base "_law_kinds" _ _ _ := ⟨_, _, ok_kinds F_law_kinds T f__law_take, PySem.W.mg_of X G a_law_kinds, k_law_kinds, b_law_kinds⟩
  have f__law_whole : Fn l.prog w K mg base "_law_whole" _ _ _ := ⟨_, _, ok_lwhole F_law_whole T, PySem.W.mg_of X G a_law_whole, k_law_whole, b_law_whole⟩
  have m0 : Fn l.prog w K mg base "_law_many" 2 ["_law_query_here"] (spMany K 0) := ⟨_, _, fnok_no spMany0, PySem.W.mg_of X G a_law_many, k_law_many, b_law_many⟩
  have m1 : Fn l.prog w K mg base "_law_many" 3 _ (spMany K 1) := ⟨_, _, ok_manyS (N := 0) F_law_many T m0, PySem.W.mg_of X G a_law_many, k_law_many, b_law_many⟩
  have m2 : Fn l.prog w K mg base "_law_many" 4 _ (spMany K 2) := ⟨_, _, ok_manyS (N := 1) F_law_many T m1, PySem.W.mg_of X G a_law_many, k_law_many, b_law_many⟩
  have m3 : Fn l.prog w K mg base "_law_many" 5 _ (spMany K 3) := ⟨_, _, ok_manyS (N := 2) F_law_many T m2, PySem.W.mg_of X G a_law_many, k_law_many, b_law_many⟩
  have m4 : Fn l.prog w K mg base "_law_many" 6 _ (spMany K 4) := ⟨_, _, ok_manyS (N := 3) F_law_many T m3, PySem.W.mg_of X G a_law_many, k_law_many, b_law_many⟩
  have m5 : Fn l.prog w K mg base "_law_many" 7 _ (spMany K 5) := ⟨_, _, ok_manyS (N := 4) F_law_many T m4, PySem.W.mg_of X G a_law_many, k_law_many, b_law_many⟩
  have q0 : Fn l.prog w K mg base "_law_query" 9 ["_law_pool_here", "_law_kinds_here", "_law_deep", "_law_most"] (spQy K 0) := ⟨_, _, fnok_no spQy0, PySem.W.mg_of X G a_law_query, k_law_query, b_law_query⟩
  have q1 : Fn l.prog w K mg base "_law_query" 10 _ (spQy K 1) := ⟨_, _, ok_queryS (N := 0) (by decide) F_law_query T f__law_take m5 (by decide) q0, PySem.W.mg_of X G a_law_query, k_law_query, b_law_query⟩
  have q2 : Fn l.prog w K mg base "_law_query" 11 _ (spQy K 2) := ⟨_, _, ok_queryS (N := 1) (by decide) F_law_query T f__law_take m5 (by decide) q1, PySem.W.mg_of X G a_law_query, k_law_query, b_law_query⟩
  have q3 : Fn l.prog w K mg base "_law_query" 12 _ (spQy K 3) := ⟨_, _, ok_queryS (N := 2) (by decide) F_law_query T f__law_take m5 (by decide) q2, PySem.W.mg_of X G a_law_query, k_law_query, b_law_query⟩
  have q4 : Fn l.prog w K mg base "_law_query" 13 _ (spQy K 4) := ⟨_, _, ok_queryS (N := 3) (by decide) F_law_query T f__law_take m5 (by decide) q3, PySem.W.mg_of X G a_law_query, k_law_query, b_law_query⟩
  have q5 : Fn l.prog w K mg base "_law_query" 14 _ (spQy K 5) := ⟨_, _, ok_queryS (N := 4) (by decide) F_law_query T f__law_take m5 (by decide) q4, PySem.W.mg_of X G a_law_query, k_law_query, b_law_query⟩
  have y_ : Fn l.prog w K mg base "_law_count" 2 ["_law_thing", "_law_deep"] (fun _ _ _ _ => False) := ⟨_, _, fnok_no (fun _ _ _ _ h => h), PySem.W.mg_of X G a_law_count, k_law_count, b_law_count⟩
  have y0 : Fn l.prog w K mg base "_law_count" 3 _ (spLCnt K 0) := ⟨_, _, ok_lcnt0 F_law_count T f__law_is_word f__law_whole y_, PySem.W.mg_of X G a_law_count, k_law_count, b_law_count⟩
  have y1 : Fn l.prog w K mg base "_law_count" (1 + 3) _ (spLCnt K 1) := ⟨_, _, ok_lcntS (N := 0) (k0 := 1) F_law_count T f__law_is_word f__law_whole y0, PySem.W.mg_of X G a_law_count, k_law_count, b_law_count⟩
  have y2 : Fn l.prog w K mg base "_law_count" (2 + 3) _ (spLCnt K 2) := ⟨_, _, ok_lcntS (N := 1) (k0 := 2) F_law_count T f__law_is_word f__law_whole y1, PySem.W.mg_of X G a_law_count, k_law_count, b_law_count⟩
  have y3 : Fn l.prog w K mg base "_law_count" (3 + 3) _ (spLCnt K 3) := ⟨_, _, ok_lcntS (N := 2) (k0 := 3) F_law_count T f__law_is_word f__law_whole y2, PySem.W.mg_of X G a_law_count, k_law_count, b_law_count⟩
  have y4 : Fn l.prog w K mg base "_law_count" (4 + 3) _ (spLCnt K 4) := ⟨_, _, ok_lcntS (N := 3) (k0 := 4) F_law_count T f__law_is_word f__law_whole y3, PySem.W.mg_of X G a_law_count, k_law_count, b_law_count⟩
  have y5 : Fn l.prog w K mg base "_law_count" (5 + 3) _ (spLCnt K 5) := ⟨_, _, ok_lcntS (N := 4) (k0 := 5) F_law_count T f__law_is_word f__law_whole y4, PySem.W.mg_of X G a_law_count, k_law_count, b_law_count⟩
  have e0 : Fn l.prog w K mg base "_law_bent_query" (0 + 1) ["_law_pool_here", "_law_query_here"] (spBent 0) := ⟨_, _, fnok_no spBent0, PySem.W.mg_of X G a_law_bent_query, k_law_bent_query, b_law_bent_query⟩
  have e1 : Fn l.prog w K mg base "_law_bent_query" (0 + 2) _ (spBent 1) := ⟨_, _, ok_bentS (N := 0) (k0 := 0) (by decide) F_law_bent_query T f__law_take e0, PySem.W.mg_of X G a_law_bent_query, k_law_bent_query, b_law_bent_query⟩
  have e2 : Fn l.prog w K mg base "_law_bent_query" (1 + 2) _ (spBent 2) := ⟨_, _, ok_bentS (N := 1) (k0 := 1) (by decide) F_law_bent_query T f__law_take e1, PySem.W.mg_of X G a_law_bent_query, k_law_bent_query, b_law_bent_query⟩
  have e3 : Fn l.prog w K mg base "_law_bent_query" (2 + 2) _ (spBent 3) := ⟨_, _, ok_bentS (N := 2) (k0 := 2) (by decide) F_law_bent_query T f__law_take e2, PySem.W.mg_of X G a_law_bent_query, k_law_bent_query, b_law_bent_query⟩
  have e4 : Fn l.prog w K mg base "_law_bent_query" (3 + 2) _ (spBent 4) := ⟨_, _, ok_bentS (N := 3) (k0 := 3) (by decide) F_law_bent_query T f__law_take e3, PySem.W.mg_of X G a_law_bent_query, k_law_bent_query, b_law_bent_query⟩
  have e5 : Fn l.prog w K mg base "_law_bent_query" (4 + 2) _ (spBent 5) := ⟨_, _, ok_bentS (N := 4) (k0 := 4) (by decide) F_law_bent_query T f__law_take e4, PySem.W.mg_of X G a_law_bent_query, k_law_bent_query, b_law_bent_query⟩
  have e6 : Fn l.prog w K mg base "_law_bent_query" (5 + 2) _ (spBent 6) := ⟨_, _, ok_bentS (N := 5) (k0 := 5) (by decide) F_law_bent_query T f__law_take e5, PySem.W.mg_of X G a_law_bent_query, k_law_bent_query, b_law_bent_query⟩
  have e7 : Fn l.prog w K mg base "_law_bent_query" (6 + 2) _ (spBent 7) := ⟨_, _, ok_bentS (N := 6) (k0 := 6) (by decide) F_law_bent_query T f__law_take e6, PySem.W.mg_of X G a_law_bent_query, k_law_bent_query, b_law_bent_query⟩
  have lx0 : Fn l.prog w K mg base "_law_text" (0 + 1) ["_law_query_here"] (spTx K 0) := ⟨_, _, fnok_no spTx0, PySem.W.mg_of X G a_law_text, k_law_text, b_law_text⟩
  have lx1 : Fn l.prog w K mg base "_law_text" (0 + 2) _ (spTx K 1) := ⟨_, _, ok_ltxS (N := 0) (k0 := 0 + 1) F_law_text T lx0, PySem.W.mg_of X G a_law_text, k_law_text, b_law_text⟩
  have lx2 : Fn l.prog w K mg base "_law_text" (1 + 2) _ (spTx K 2) := ⟨_, _, ok_ltxS (N := 1) (k0 := 1 + 1) F_law_text T lx1, PySem.W.mg_of X G a_law_text, k_law_text, b_law_text⟩
  have lx3 : Fn l.prog w K mg base "_law_text" (2 + 2) _ (spTx K 3) := ⟨_, _, ok_ltxS (N := 2) (k0 := 2 + 1) F_law_text T lx2, PySem.W.mg_of X G a_law_text, k_law_text, b_law_text⟩
  have lx4 : Fn l.prog w K mg base "_law_text" (3 + 2) _ (spTx K 4) := ⟨_, _, ok_ltxS (N := 3) (k0 := 3 + 1) F_law_text T lx3, PySem.W.mg_of X G a_law_text, k_law_text, b_law_text⟩
  have lx5 : Fn l.prog w K mg base "_law_text" (4 + 2) _ (spTx K 5) := ⟨_, _, ok_ltxS (N := 4) (k0 := 4 + 1) F_law_text T lx4, PySem.W.mg_of X G a_law_text, k_law_text, b_law_text⟩
  have sm0 : Fn l.prog w K mg base "_law_same" (0 + 1) ["_law_one", "_law_other"] (spSame 0) := ⟨_, _, fnok_no spSame0, PySem.W.mg_of X G a_law_same, k_law_same, b_law_same⟩
  have sm1 : Fn l.prog w K mg base "_law_same" (0 + 2) _ (spSame 1) := ⟨_, _, ok_same (N := 0) (k0 := 0 + 1) F_law_same T sm0, PySem.W.mg_of X G a_law_same, k_law_same, b_law_same⟩
  have sm2 : Fn l.prog w K mg base "_law_same" (1 + 2) _ (spSame 2) := ⟨_, _, ok_same (N := 1) (k0 := 1 + 1) F_law_same T sm1, PySem.W.mg_of X G a_law_same, k_law_same, b_law_same⟩
  have sm3 : Fn l.prog w K mg base "_law_same" (2 + 2) _ (spSame 3) := ⟨_, _, ok_same (N := 2) (k0 := 2 + 1) F_law_same T sm2, PySem.W.mg_of X G a_law_same, k_law_same, b_law_same⟩
  have sm4 : Fn l.prog w K mg base "_law_same" (3 + 2) _ (spSame 4) := ⟨_, _, ok_same (N := 3) (k0 := 3 + 1) F_law_same T sm3, PySem.W.mg_of X G a_law_same, k_law_same, b_law_same⟩
  have sm5 : Fn l.prog w K mg base "_law_same" (4 + 2) _ (spSame 5) := ⟨_, _, ok_same (N := 4) (k0 := 4 + 1) F_law_same T sm4, PySem.W.mg_of X G a_law_same, k_law_same, b_law_same⟩
  have sm6 : Fn l.prog w K mg base "_law_same" (5 + 2) _ (spSame 6) := ⟨_, _, ok_same (N := 5) (k0 := 5 + 1) F_law_same T sm5, PySem.W.mg_of X G a_law_same, k_law_same, b_law_same⟩
  have mk_QueryReader_1 : Mkr l.prog w K mg base "QueryReader" C_QueryReader _ _ [] _ := ⟨_, _, _, ⟨mk_QueryReader, a_QueryReader___init__, i_QueryReader___init__, kc_QueryReader⟩, ok_initq F_QueryReader___init__ T, PySem.W.mg_of X G aC_QueryReader, b_QueryReader___init__, .nil⟩
  have me_QueryReader_sign : Me l.prog w K mg base C_QueryReader "sign" _ _ _ := ⟨_, _, ok_sign F_QueryReader_sign T, ⟨a_QueryReader_sign, i_QueryReader_sign, k_QueryReader_sign⟩, b_QueryReader_sign⟩
  have me_QueryReader_take : Me l.prog w K mg base C_QueryReader "take" _ _ _ := ⟨_, _, ok_takeq F_QueryReader_take T me_QueryReader_sign, ⟨a_QueryReader_take, i_QueryReader_take, k_QueryReader_take⟩, b_QueryReader_take⟩
  have me_QueryReader_take_one_more : Me l.prog w K mg base C_QueryReader "take_one_more" _ _ _ := ⟨_, _, ok_more F_QueryReader_take_one_more T me_QueryReader_sign, ⟨a_QueryReader_take_one_more, i_QueryReader_take_one_more, k_QueryReader_take_one_more⟩, b_QueryReader_take_one_more⟩
  have me_QueryReader_take_word : Me l.prog w K mg base C_QueryReader "take_word" _ _ _ := ⟨_, _, ok_wordq F_QueryReader_take_word T me_QueryReader_sign me_QueryReader_take, ⟨a_QueryReader_take_word, i_QueryReader_take_word, k_QueryReader_take_word⟩, b_QueryReader_take_word⟩
  have me_QueryReader_phrase : Me l.prog w K mg base C_QueryReader "phrase" _ _ _ := ⟨_, _, ok_phrq F_QueryReader_phrase T me_QueryReader_take me_QueryReader_take_one_more me_QueryReader_take_word, ⟨a_QueryReader_phrase, i_QueryReader_phrase, k_QueryReader_phrase⟩, b_QueryReader_phrase⟩
  have me_QueryReader_near : Me l.prog w K mg base C_QueryReader "near" _ _ _ := ⟨_, _, ok_nearq F_QueryReader_near T me_QueryReader_sign me_QueryReader_take me_QueryReader_take_word, ⟨a_QueryReader_near, i_QueryReader_near, k_QueryReader_near⟩, b_QueryReader_near⟩
  have qq0 : Me l.prog w K mg base C_QueryReader "query" 5 ["self", "deep"] (spQq C_QueryReader 0) := ⟨_, _, fnok_no (spQq0 (C := C_QueryReader)), ⟨a_QueryReader_query, i_QueryReader_query, k_QueryReader_query⟩, b_QueryReader_query⟩
  have gg0 : Me l.prog w K mg base C_QueryReader "group" 6 ["self", "deep"] (spGrp C_QueryReader 0) := ⟨_, _, ok_grp (N := 0) (k0 := 5) F_QueryReader_group T (by decide) kc_KINDS_querytexts knd me_QueryReader_take me_QueryReader_take_one_more qq0, ⟨a_QueryReader_group, i_QueryReader_group, k_QueryReader_group⟩, b_QueryReader_group⟩
  have qq1 : Me l.prog w K mg base C_QueryReader "query" 7 ["self", "deep"] (spQq C_QueryReader 1) := ⟨_, _, ok_qry (N := 0) (k0 := 6) F_QueryReader_query T (by decide) me_QueryReader_take_one_more me_QueryReader_take_word me_QueryReader_phrase me_QueryReader_near gg0, ⟨a_QueryReader_query, i_QueryReader_query, k_QueryReader_query⟩, b_QueryReader_query⟩
  have gg1 : Me l.prog w K mg base C_QueryReader "group" 8 ["self", "deep"] (spGrp C_QueryReader 1) := ⟨_, _, ok_grp (N := 1) (k0 := 7) F_QueryReader_group T (by decide) kc_KINDS_querytexts knd me_QueryReader_take me_QueryReader_take_one_more qq1, ⟨a_QueryReader_group, i_QueryReader_group, k_QueryReader_group⟩, b_QueryReader_group⟩
  have qq2 : Me l.prog w K mg base C_QueryReader "query" 9 ["self", "deep"] (spQq C_QueryReader 2) := ⟨_, _, ok_qry (N := 1) (k0 := 8) F_QueryReader_query T (by decide) me_QueryReader_take_one_more me_QueryReader_take_word me_QueryReader_phrase me_QueryReader_near gg1, ⟨a_QueryReader_query, i_QueryReader_query, k_QueryReader_query⟩, b_QueryReader_query⟩
  have gg2 : Me l.prog w K mg base C_QueryReader "group" 10 ["self", "deep"] (spGrp C_QueryReader 2) := ⟨_, _, ok_grp (N := 2) (k0 := 9) F_QueryReader_group T (by decide) kc_KINDS_querytexts knd me_QueryReader_take me_QueryReader_take_one_more qq2, ⟨a_QueryReader_group, i_QueryReader_group, k_QueryReader_group⟩, b_QueryReader_group⟩
  have qq3 : Me l.prog w K mg base C_QueryReader "query" 11 ["self", "deep"] (spQq C_QueryReader 3) := ⟨_, _, ok_qry (N := 2) (k0 := 10) F_QueryReader_query T (by decide) me_QueryReader_take_one_more me_QueryReader_take_word me_QueryReader_phrase me_QueryReader_near gg2, ⟨a_QueryReader_query, i_QueryReader_query, k_QueryReader_query⟩, b_QueryReader_query⟩
  have gg3 : Me l.prog w K mg base C_QueryReader "group" 12 ["self", "deep"] (spGrp C_QueryReader 3) := ⟨_, _, ok_grp (N := 3) (k0 := 11) F_QueryReader_group T (by decide) kc_KINDS_querytexts knd me_QueryReader_take me_QueryReader_take_one_more qq3, ⟨a_QueryReader_group, i_QueryReader_group, k_QueryReader_group⟩, b_QueryReader_group⟩
  have qq4 : Me l.prog w K mg base C_QueryReader "query" 13 ["self", "deep"] (spQq C_QueryReader 4) := ⟨_, _, ok_qry (N := 3) (k0 := 12) F_QueryReader_query T (by decide) me_QueryReader_take_one_more me_QueryReader_take_word me_QueryReader_phrase me_QueryReader_near gg3, ⟨a_QueryReader_query, i_QueryReader_query, k_QueryReader_query⟩, b_QueryReader_query⟩
  have gg4 : Me l.prog w K mg base C_QueryReader "group" 14 ["self", "deep"] (spGrp C_QueryReader 4) := ⟨_, _, ok_grp (N := 4) (k0 := 13) F_QueryReader_group T (by decide) kc_KINDS_querytexts knd me_QueryReader_take me_QueryReader_take_one_more qq4, ⟨a_QueryReader_group, i_QueryReader_group, k_QueryReader_group⟩, b_QueryReader_group⟩
  have qq5 : Me l.prog w K mg base C_QueryReader "query" 15 ["self", "deep"] (spQq C_QueryReader 5) := ⟨_, _, ok_qry (N := 4) (k0 := 14) F_QueryReader_query T (by decide) me_QueryReader_take_one_more me_QueryReader_take_word me_QueryReader_phrase me_QueryReader_near gg4, ⟨a_QueryReader_query, i_QueryReader_query, k_QueryReader_query⟩, b_QueryReader_query⟩
  have f_read : Fn l.prog w K mg base "read" _ _ _ := ⟨_, _, ok_readN (k0 := 15) F_read T (by decide) mk_QueryReader_1 me_QueryReader_sign qq5, PySem.W.mg_of X G a_read, k_read, b_read⟩
  exact ok_law FC_law (TT := [(P_law, lamN "law")]) T tb_law List.mem_cons_self (fun p hp _ => by rw [List.mem_singleton.mp hp]) f__law_pool f__law_kinds q5 e7 y5 f_show f_read lx5 sm6 f__law_how
end K24

open PySem PySem.W PyProof.Rows
set_option maxRecDepth 100000 in
set_option maxHeartbeats 0 in
theorem PySem.Challenge.cw_blocksearch_k24_queries_shown_holds : PySem.Challenge.rw_blocksearch_k24_queries_shown.Holds := by
  w_on; o_law; k_head; (case hw => w_witness2)
  k_fill
  refine LamX.walk_ofTsE (l := PySem.Challenge.rw_blocksearch_k24_queries_shown) (n := 63) (k := 30) (x := "_law_script") (CX := fun _ => L2.CX0) rfl (by decide) rfl ⟨rfl, by decide, by decide⟩ ?F (fun _ _ _ _ _ h => h.elim)
  case F =>
    intro w mg fa h Y G hmg
    refine ⟨_, PySem.W.km_in_of Y, ?_⟩
    refine' K24.all_mk (PySem.W.km_in_of Y) G hmg ?aC_Wrong ?aC_NoWord ?aC_NoText ?aC_NoNumber ?aC_NoSize ?aC_NoLengths ?aC_NoQuery ?aC_NoCode ?aC_NoRow ?aC_NoEntries ?aC_NoQueryText ?aC_NoPages ?aC_NoName ?aC_NoQueries ?aC_NoShelf ?aC_NoDeed ?aC_Taken ?aC_NoPlace ?aC_NoSlot ?g_LETTERS ?g_LONGEST ?g_DEEPEST ?g_MOST_WORDS ?g_FARTHEST ?z_isinstance ?z_bool ?z_int ?z_str ?z_list ?z_tuple ?z_len ?z_all ?z_max ?z_min ?z_range ?z_abs ?z_sum ?z_zip ?z_ValueError ?z_IndexError ?q_NoQuery ?kp_NoQuery ?e1_NoQuery ?e2_NoQuery ?h_NoQuery ?aC_QueryReader ?pg_QueryReader ?hd_QueryReader ?po_QueryReader ?sa_QueryReader ?na_QueryReader_text ?na_QueryReader_at ?na_QueryReader_least ?a_law_kind ?l_law_kind ?c_law_kind ?k_law_kind ?a_law_how ?l_law_how ?c_law_how ?k_law_how ?a_is_whole ?l_is_whole ?c_is_whole ?k_is_whole ?a_is_word ?l_is_word ?c_is_word ?k_is_word ?a_count_word ?l_count_word ?c_count_word ?k_count_word ?a_count_phrase ?l_count_phrase ?c_count_phrase ?k_count_phrase ?a_count_near ?l_count_near ?c_count_near ?k_count_near ?a_count_joined ?l_count_joined ?c_count_joined ?k_count_joined ?a_count_but ?l_count_but ?c_count_but ?k_count_but ?a_count_words ?l_count_words ?c_count_words ?k_count_words ?a_is_query ?l_is_query ?c_is_query ?k_is_query ?a_look_query ?l_look_query ?c_look_query ?k_look_query ?a_text_in ?l_text_in ?c_text_in ?k_text_in ?a_law_text ?l_law_text ?c_law_text ?k_law_text ?a_law_same ?l_law_same ?c_law_same ?k_law_same ?a_show ?l_show ?c_show ?k_show ?a_law_pool ?l_law_pool ?c_law_pool ?k_law_pool ?a_law_take ?l_law_take ?c_law_take ?k_law_take ?a_law_letters ?l_law_letters ?c_law_letters ?k_law_letters ?a_law_is_word ?l_law_is_word ?c_law_is_word ?k_law_is_word ?a_law_kinds ?l_law_kinds ?c_law_kinds ?k_law_kinds ?a_law_whole ?l_law_whole ?c_law_whole ?k_law_whole ?a_law_many ?l_law_many ?c_law_many ?k_law_many ?a_law_query ?l_law_query ?c_law_query ?k_law_query ?a_law_count ?l_law_count ?c_law_count ?k_law_count ?a_law_bent_query ?l_law_bent_query ?c_law_bent_query ?k_law_bent_query ?a_QueryReader___init__ ?i_QueryReader___init__ ?l_QueryReader___init__ ?c_QueryReader___init__ ?k_QueryReader___init__ ?mk_QueryReader ?kc_QueryReader ?a_QueryReader_sign ?i_QueryReader_sign ?l_QueryReader_sign ?c_QueryReader_sign ?k_QueryReader_sign ?a_QueryReader_take ?i_QueryReader_take ?l_QueryReader_take ?c_QueryReader_take ?k_QueryReader_take ?a_QueryReader_take_one_more ?i_QueryReader_take_one_more ?l_QueryReader_take_one_more ?c_QueryReader_take_one_more ?k_QueryReader_take_one_more ?a_QueryReader_take_word ?i_QueryReader_take_word ?l_QueryReader_take_word ?c_QueryReader_take_word ?k_QueryReader_take_word ?a_QueryReader_phrase ?i_QueryReader_phrase ?l_QueryReader_phrase ?c_QueryReader_phrase ?k_QueryReader_phrase ?a_QueryReader_near ?i_QueryReader_near ?l_QueryReader_near ?c_QueryReader_near ?k_QueryReader_near ?a_QueryReader_group ?i_QueryReader_group ?l_QueryReader_group ?c_QueryReader_group ?k_QueryReader_group ?a_QueryReader_query ?i_QueryReader_query ?l_QueryReader_query ?c_QueryReader_query ?k_QueryReader_query ?a_read ?l_read ?c_read ?k_read ?a_law ?l_law ?c_law ?k_law ?a_KINDS_queries ?l_KINDS_queries ?lo_KINDS_queries ?a_SIGNS ?l_SIGNS ?lo_SIGNS ?a_KINDS_querytexts ?l_KINDS_querytexts ?lo_KINDS_querytexts ?t_law ?ch_law ?nk_law
    (case aC_Wrong => k_is); (case aC_NoWord => k_is); (case aC_NoText => k_is); (case aC_NoNumber => k_is); (case aC_NoSize => k_is); (case aC_NoLengths => k_is); (case aC_NoQuery => k_is); (case aC_NoCode => k_is); (case aC_NoRow => k_is); (case aC_NoEntries => k_is); (case aC_NoQueryText => k_is); (case aC_NoPages => k_is); (case aC_NoName => k_is); (case aC_NoQueries => k_is); (case aC_NoShelf => k_is); (case aC_NoDeed => k_is); (case aC_Taken => k_is); (case aC_NoPlace => k_is); (case aC_NoSlot => k_is); (case g_LETTERS => k_is); (case g_LONGEST => k_is); (case g_DEEPEST => k_is); (case g_MOST_WORDS => k_is); (case g_FARTHEST => k_is); (case z_isinstance => k_is); (case z_bool => k_is); (case z_int => k_is); (case z_str => k_is); (case z_list => k_is); (case z_tuple => k_is); (case z_len => k_is); (case z_all => k_is); (case z_max => k_is); (case z_min => k_is); (case z_range => k_is); (case z_abs => k_is); (case z_sum => k_is); (case z_zip => k_is); (case z_ValueError => k_is); (case z_IndexError => k_is); (case q_NoQuery => k_exc); (case kp_NoQuery => k_is); (case e1_NoQuery => k_is); (case e2_NoQuery => k_is); (case h_NoQuery => exact Eq.refl true); (case aC_QueryReader => k_is); (case pg_QueryReader => k_is); (case hd_QueryReader => k_is); (case po_QueryReader => k_is); (case sa_QueryReader => k_is); (case na_QueryReader_text => k_is); (case na_QueryReader_at => k_is); (case na_QueryReader_least => k_is); (case a_law_kind => k_is); (case l_law_kind => k_is); (case c_law_kind => k_is); (case k_law_kind => k_is); (case a_law_how => k_is); (case l_law_how => k_is); (case c_law_how => k_is); (case k_law_how => k_is); (case a_is_whole => k_is); (case l_is_whole => k_is); (case c_is_whole => k_is); (case k_is_whole => k_is); (case a_is_word => k_is); (case l_is_word => k_is); (case c_is_word => k_is); (case k_is_word => k_is); (case a_count_word => k_is); (case l_count_word => k_is); (case c_count_word => k_is); (case k_count_word => k_is); (case a_count_phrase => k_is); (case l_count_phrase => k_is); (case c_count_phrase => k_is); (case k_count_phrase => k_is); (case a_count_near => k_is); (case l_count_near => k_is); (case c_count_near => k_is); (case k_count_near => k_is); (case a_count_joined => k_is); (case l_count_joined => k_is); (case c_count_joined => k_is); (case k_count_joined => k_is); (case a_count_but => k_is); (case l_count_but => k_is); (case c_count_but => k_is); (case k_count_but => k_is); (case a_count_words => k_is); (case l_count_words => k_is); (case c_count_words => k_is); (case k_count_words => k_is); (case a_is_query => k_is); (case l_is_query => k_is); (case c_is_query => k_is); (case k_is_query => k_is); (case a_look_query => k_is); (case l_look_query => k_is); (case c_look_query => k_is); (case k_look_query => k_is); (case a_text_in => k_is); (case l_text_in => k_is); (case c_text_in => k_is); (case k_text_in => k_is); (case a_law_text => k_is); (case l_law_text => k_is); (case c_law_text => k_is); (case k_law_text => k_is); (case a_law_same => k_is); (case l_law_same => k_is); (case c_law_same => k_is); (case k_law_same => k_is); (case a_show => k_is); (case l_show => k_is); (case c_show => k_is); (case k_show => k_is); (case a_law_pool => k_is); (case l_law_pool => k_is); (case c_law_pool => k_is); (case k_law_pool => k_is); (case a_law_take => k_is); (case l_law_take => k_is); (case c_law_take => k_is); (case k_law_take => k_is); (case a_law_letters => k_is); (case l_law_letters => k_is); (case c_law_letters => k_is); (case k_law_letters => k_is); (case a_law_is_word => k_is); (case l_law_is_word => k_is); (case c_law_is_word => k_is); (case k_law_is_word => k_is); (case a_law_kinds => k_is); (case l_law_kinds => k_is); (case c_law_kinds => k_is); (case k_law_kinds => k_is); (case a_law_whole => k_is); (case l_law_whole => k_is); (case c_law_whole => k_is); (case k_law_whole => k_is); (case a_law_many => k_is); (case l_law_many => k_is); (case c_law_many => k_is); (case k_law_many => k_is); (case a_law_query => k_is); (case l_law_query => k_is); (case c_law_query => k_is); (case k_law_query => k_is); (case a_law_count => k_is); (case l_law_count => k_is); (case c_law_count => k_is); (case k_law_count => k_is); (case a_law_bent_query => k_is); (case l_law_bent_query => k_is); (case c_law_bent_query => k_is); (case k_law_bent_query => k_is); (case a_QueryReader___init__ => k_is); (case i_QueryReader___init__ => k_is); (case l_QueryReader___init__ => k_is); (case c_QueryReader___init__ => k_is); (case k_QueryReader___init__ => k_is); (case mk_QueryReader => k_is); (case kc_QueryReader => k_is); (case a_QueryReader_sign => k_is); (case i_QueryReader_sign => k_is); (case l_QueryReader_sign => k_is); (case c_QueryReader_sign => k_is); (case k_QueryReader_sign => k_is); (case a_QueryReader_take => k_is); (case i_QueryReader_take => k_is); (case l_QueryReader_take => k_is); (case c_QueryReader_take => k_is); (case k_QueryReader_take => k_is); (case a_QueryReader_take_one_more => k_is); (case i_QueryReader_take_one_more => k_is); (case l_QueryReader_take_one_more => k_is); (case c_QueryReader_take_one_more => k_is); (case k_QueryReader_take_one_more => k_is); (case a_QueryReader_take_word => k_is); (case i_QueryReader_take_word => k_is); (case l_QueryReader_take_word => k_is); (case c_QueryReader_take_word => k_is); (case k_QueryReader_take_word => k_is); (case a_QueryReader_phrase => k_is); (case i_QueryReader_phrase => k_is); (case l_QueryReader_phrase => k_is); (case c_QueryReader_phrase => k_is); (case k_QueryReader_phrase => k_is); (case a_QueryReader_near => k_is); (case i_QueryReader_near => k_is); (case l_QueryReader_near => k_is); (case c_QueryReader_near => k_is); (case k_QueryReader_near => k_is); (case a_QueryReader_group => k_is); (case i_QueryReader_group => k_is); (case l_QueryReader_group => k_is); (case c_QueryReader_group => k_is); (case k_QueryReader_group => k_is); (case a_QueryReader_query => k_is); (case i_QueryReader_query => k_is); (case l_QueryReader_query => k_is); (case c_QueryReader_query => k_is); (case k_QueryReader_query => k_is); (case a_read => k_is); (case l_read => k_is); (case c_read => k_is); (case k_read => k_is); (case a_law => k_is); (case l_law => k_is); (case c_law => k_is); (case k_law => k_is); (case a_KINDS_queries => k_is); (case l_KINDS_queries => k_is); (case lo_KINDS_queries => exact Eq.refl false); (case a_SIGNS => k_is); (case l_SIGNS => k_is); (case lo_SIGNS => exact Eq.refl false); (case a_KINDS_querytexts => k_is); (case l_KINDS_querytexts => k_is); (case lo_KINDS_querytexts => exact Eq.refl false); (case t_law => exact PySem.W.km_tabs_of Y _ List.mem_cons_self); (case ch_law => exact Eq.refl true); (case nk_law => exact Eq.refl none)

