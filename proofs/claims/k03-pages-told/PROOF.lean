import PyProof.Rows.All
import Wide.All
import OpenK.AllK
import Wide.FinOn
import HandS.ForMost
import HandS.Evl
import HandS.Wide
import HandS.IsInst
import HandS.Exc
import HandS.Defaults
import HandS.TryMany
import HandS.ExcOwn
import HandS.ExcIs
import HandS.HotCalls
import HandS.ExcField
import HandS.Lambda
import HandS.ExcInit
import HandS.WordsExc
import HandS.Deep
import KE.KExcIs
import KE.DataFind
import HandS.Small
import HandS.RaiseMore
import HandS.Steps
import PyProof.CollectIter
import PyProof.WalksMore
import HandS.More
import HandS.WideBits
import HandS.Replace
import HandS.Style
import HandS.SetKeys
import HandS.MakeKwOnly
import HandS.IntHex
import HandS.StrMore
import HandS.Rindex
import PyProof.Rows.StrNews2
import PyProof.StrLawsLast
import HandS.OwnEq
import HandS.FStr
import OpenK.KOps
import KE.KCallOwn
import HandS.CallLocal
import HandS.TupAny
import HandS.SetFor
import HandS.Comp
import HandS.SetBool
import HandS.Strs
import HandS.EndTab
import HandS.HeadWalk
import HandS.Ends
import PyProof.ReprRoads
import PyProof.ReprBulk
import HandS.MakeKw
import PySem.Challenge.RW_blocksearch_k03_pages_told
set_option Elab.async false
set_option linter.all false
set_option maxRecDepth 100000
set_option maxHeartbeats 4000000
set_option autoImplicit false
/-! The layer of this work: bundles of defs, readings as steps. -/
namespace Bw
open PySem PySem.Spec L2

/-! ### a def that lets nothing out, as its callers want it -/
structure Fn (P : Program) (w : World) (K : PySem.W.Frag) (mg : Str → Option Value) (base : Heap) (x : Str) (k : Nat) (ps : List Str) (sp : Sp) : Prop where
  ex : ∃ (f : Addr) (fd : FuncData), FnOk P w K mg base CX0 k f fd ps sp ∧ mg x = some (.ref f) ∧ PySem.W.keepIn K (.ref f) = true ∧ Binds K fd ps []
section
variable {X : Cx}
theorem pe_fn {x : Str} {k : Nat} {ps : List Str} {sp : Sp} {e : Expr} {es : List Expr} {t : TA} {p pos : Pos} (F : Fn X.prog X.w X.K X.mg X.base x k ps sp) (hr : Room k X.A) (hg : Gl X x) (ha : PA X (e :: es) t)
    (hdb : (x == ("__debug__" : Str)) = false := by decide) (he : starEach (e :: es) X.env = (false, eval e X.env) :: starEach es X.env := by rfl) (hpl : (backTo pos (starEach es X.env)).any (·.1) = false := by rfl) :
    PE X (.Call (.Name x p) (e :: es) [] pos) (tCall sp [] E0 t) := by
  obtain ⟨f, fd, G, hm, hk, hb⟩ := F.ex
  exact pe_call G hr hg hm hk hb .nil pass0 ha hdb he hpl
theorem pe_fn0 {x : Str} {k : Nat} {ps : List Str} {sp : Sp} {p pos : Pos} (F : Fn X.prog X.w X.K X.mg X.base x k ps sp) (hr : Room k X.A) (hg : Gl X x)
    (hdb : (x == ("__debug__" : Str)) = false := by decide) : PE X (.Call (.Name x p) [] [] pos) (tCall sp [] E0 tNil) := by
  obtain ⟨f, fd, G, hm, hk, hb⟩ := F.ex
  exact pe_call0 G hr hg hm hk hb .nil pass0 hdb
end
/-! ### methods and makers as their callers want them -/
structure Me (P : Program) (w : World) (K : PySem.W.Frag) (mg : Str → Option Value) (base : Heap) (C : Addr) (m : Str) (k : Nat) (ps : List Str) (sp : Sp) : Prop where
  ex : ∃ (f : Addr) (fd : FuncData), FnOk P w K mg base CX0 k f fd ps sp ∧ Meth K C m f ∧ Binds K fd ps []
structure Mkr (P : Program) (w : World) (K : PySem.W.Frag) (mg : Str → Option Value) (base : Heap) (x : Str) (C : Addr) (k : Nat) (ps : List Str) (dvs : List V) (sp : Sp) : Prop where
  ex : ∃ (f : Addr) (fd : FuncData) (ds : List Value), Mk K C f ∧ FnOk P w K mg base CX0 k f fd ps sp ∧ mg x = some (.ref C) ∧ Binds K fd ps ds ∧ Vals dvs ds
section
variable {X : Cx}
theorem pe_me {pl : Sem Bool} {C : Addr} {m : Str} {k : Nat} {ps : List Str} {sp : Sp} {o e : Expr} {es : List Expr} {t : TA} {ta : TE} {apos pos : Pos} (he : PE X o ta) (c : Cls X.K C) (M : Me X.prog X.w X.K X.mg X.base C m k ps sp) (hr : Room k X.A) (ha : PA X (e :: es) t)
    (hst : starEach (e :: es) X.env = (false, eval e X.env) :: starEach es X.env := by rfl) (hpl : (backTo pos (starEach es X.env)).any (·.1) = false := by rfl)
    (ht : eval (.Call (.Attribute o m apos) (e :: es) [] pos) X.env = (do
      let ov ← eval o X.env
      standAt apos.atName
      let (f, first) ← holding [ov] (getMethod ov m pl)
      callWith pos f first (backTo pos (starEach (e :: es) X.env)) (backToKw pos (keywordEach [] X.env))) := by rfl) :
    PE X (.Call (.Attribute o m apos) (e :: es) [] pos) (tMeth C m sp [] E0 ta t) := by
  obtain ⟨f, fd, G, hm, hb⟩ := M.ex
  exact pe_meth he c hm G hr hb .nil pass0 ha hst hpl ht
theorem pe_me0 {pl : Sem Bool} {C : Addr} {m : Str} {k : Nat} {ps : List Str} {sp : Sp} {o : Expr} {ta : TE} {apos pos : Pos} (he : PE X o ta) (c : Cls X.K C) (M : Me X.prog X.w X.K X.mg X.base C m k ps sp) (hr : Room k X.A)
    (ht : eval (.Call (.Attribute o m apos) [] [] pos) X.env = (do
      let ov ← eval o X.env
      standAt apos.atName
      let (f, first) ← holding [ov] (getMethod ov m pl)
      callWith pos f first (backTo pos (starEach [] X.env)) (backToKw pos (keywordEach [] X.env))) := by rfl) :
    PE X (.Call (.Attribute o m apos) [] [] pos) (tMeth C m sp [] E0 ta tNil) := by
  obtain ⟨f, fd, G, hm, hb⟩ := M.ex
  exact pe_meth0 he c hm G hr hb .nil pass0 ht
theorem pe_mkr {x : Str} {C : Addr} {k : Nat} {ps : List Str} {dvs : List V} {sp : Sp} {e : Expr} {es : List Expr} {t : TA} {p pos : Pos} (M : Mkr X.prog X.w X.K X.mg X.base x C k ps dvs sp) (hr : Room (k + 1) X.A) (hg : Gl X x) (ha : PA X (e :: es) t)
    (hdb : (x == ("__debug__" : Str)) = false := by decide) (he : starEach (e :: es) X.env = (false, eval e X.env) :: starEach es X.env := by rfl) (hpl : (backTo pos (starEach es X.env)).any (·.1) = false := by rfl) :
    PE X (.Call (.Name x p) (e :: es) [] pos) (tMake C sp dvs E0 t) := by
  obtain ⟨f, fd, ds, M, G, hm, hb, hd⟩ := M.ex
  exact pe_make M G hr hg hm hb hd pass0 ha hdb he hpl
theorem pe_gint {x : Str} {n : Int} {p : Pos} (h : ∃ t, X.mg x = some (.int n t)) (hg : Gl X x) (hd : (x == ("__debug__" : Str)) = false := by decide) : PE X (.Name x p) (tC (.int n)) := by
  obtain ⟨t, h⟩ := h
  exact pe_glob hg h ⟨t, rfl⟩ hd
theorem pe_gstr {x : Str} {z : Str} {p : Pos} (h : ∃ t, X.mg x = some (.str z t)) (hg : Gl X x) (hd : (x == ("__debug__" : Str)) = false := by decide) : PE X (.Name x p) (tC (.str z)) := by
  obtain ⟨t, h⟩ := h
  exact pe_glob hg h ⟨t, rfl⟩ hd
end
section
variable {X : Cx}
/-! ### an attribute as a target -/
def gFld (K : PySem.W.Frag) (to : TE) (f : Str) : TG := fun v σ H Q => to σ H fun x H1 => ∃ a C dx fs, x = .ref a ∧ H1 a = some (.ins C dx fs) ∧ Cls K C ∧ NoAttr K C f ∧ fs.length < 1000 ∧ Q σ (upd H1 a (.ins C dx (putF f v fs)))
theorem pg_fld {o : Expr} {f : Str} {pos : Pos} {to : TE} (ho : PE X o to) : PG X (.Attribute o f pos) (gFld X.K to f) := by
  refine ⟨fun pins s σ H v u Q I r h => ?_⟩
  rw [assign_Attribute]
  refine wpAny_bind (wpAny_holding (thn (ho.run pins s σ H _ I h) fun ov s1 ⟨x, H1, I1, r1, a, C, dx, fs, ex, ea, c, n, l, q1⟩ => ?_))
  subst ex
  obtain rfl : ov = Value.ref a := r1
  refine wpAny_bind (wpAny_standAt (wpAny_bind (wpAny_holding (setattr_ok I1 ea c n l r fun s3 I3 => ?_))))
  exact wpAny_release ⟨σ, _, I3, q1⟩

/-! ### ints of any size -/
def CDivU (_ j : Int) : Prop := j ≠ 0 ∧ j.natAbs.log2 < 9000
theorem op_fdivU : OpR X (binaryOp .FloorDiv) (rI CDivU fun i j => .int (i.fdiv j)) := opI fun i j _ _ _ _ _ hc q =>
  PyProof.Rows.floordiv_int hc.1 q (.inl (PyProof.noPylong_of_log2 hc.2))
def CMulU (i j : Int) : Prop := IntMulOk i j
theorem op_mulU : OpR X (binaryOp .Mult) (rI CMulU fun i j => .int (i * j)) := opI fun _ _ _ _ _ _ _ hc q => PyProof.Rows.mul_int q hc
def CPowU (i j : Int) : Prop := 0 ≤ j ∧ (Builtin.Int.intBits i : Int) * j ≤ 2 ^ 27
theorem op_powU : OpR X (binaryOp .Pow) (rI CPowU fun i j => .int (i ^ j.toNat)) := opI fun _ _ _ _ _ _ _ hc q => PyProof.Rows.pow_int hc.1 hc.2 q
end
theorem bits_le {x : Int} {a : Nat} (h : x.natAbs < 2 ^ a) (h0 : 0 < a) : Builtin.Int.intBits x ≤ a := by
  unfold Builtin.Int.intBits
  split
  · omega
  · exact PySem.Flt.log2_lt_of h0 h
theorem powU {i j : Int} {a : Nat} (h : i.natAbs < 2 ^ a) (h0 : 0 < a) (hj : 0 ≤ j) (hs : (a : Int) * j ≤ 2 ^ 27) : CPowU i j := by
  refine ⟨hj, Int.le_trans (Int.mul_le_mul_of_nonneg_right (Int.ofNat_le.mpr (bits_le h h0)) hj) hs⟩
theorem divU {i j : Int} {b : Nat} (h : j ≠ 0) (hb : j.natAbs < 2 ^ b) (h0 : 0 < b) (h9 : b ≤ 9000) : CDivU i j := ⟨h, Nat.lt_of_lt_of_le (PySem.Flt.log2_lt_of h0 hb) h9⟩

/-! ### named readings of calls -/
section
variable {X : Cx}
theorem callR_imp {f : Value} {r r' : List V → Hp → VK → Prop} (h : CallR X f r) (i : ∀ xs H Q, r' xs H Q → r xs H Q) : CallR X f r' :=
  fun pins s σ H xs us Q I rv q => h pins s σ H xs us Q I rv (i _ _ _ q)
theorem opR_imp {f : Value → Value → Sem Value} {r r' : R2} (h : OpR X f r) (i : ∀ x y H Q, r' x y H Q → r x y H Q) : OpR X f r' :=
  fun pins s σ H x y v u Q I rx ry q => h pins s σ H x y v u Q I rx ry (i _ _ _ _ q)
def rAbs : List V → Hp → VK → Prop := fun xs H Q => ∃ i : Int, xs = [.int i] ∧ Q (.int i.natAbs) H
theorem cl_abs : CallR X (.builtin "abs") rAbs := callR_imp call_abs fun xs H Q ⟨i, e, q⟩ => ⟨i, e, by
  have : (if i < 0 then -i else i) = (i.natAbs : Int) := by split <;> omega
  rw [this]; exact q⟩
def rMaxI : List V → Hp → VK → Prop := fun xs H Q => ∃ i j : Int, xs = [.int i, .int j] ∧ Q (.int (max i j)) H
def rMinI : List V → Hp → VK → Prop := fun xs H Q => ∃ i j : Int, xs = [.int i, .int j] ∧ Q (.int (min i j)) H
theorem cl_max (hc : X.calm = true) : CallR X (.builtin "max") rMaxI := callR_imp (call_max2 hc) fun xs H Q ⟨i, j, e, q⟩ => ⟨i, j, e, by
  have : (if j > i then j else i) = max i j := by split <;> omega
  rw [this]; exact q⟩
theorem cl_min (hc : X.calm = true) : CallR X (.builtin "min") rMinI := callR_imp (call_min2 hc) fun xs H Q ⟨i, j, e, q⟩ => ⟨i, j, e, by
  have : (if j < i then j else i) = min i j := by split <;> omega
  rw [this]; exact q⟩
def rIntOf : List V → Hp → VK → Prop := fun xs H Q => (∃ i, xs = [.int i] ∧ Q (.int i) H) ∨ ∃ k : Bool, xs = [.bl k] ∧ Q (.int (if k then 1 else 0)) H
theorem cl_int : CallR X (.type "int") rIntOf := call_int1
def rLen (K : PySem.W.Frag) : List V → Hp → VK → Prop := fun xs H Q => ∃ x n, xs = [x] ∧ LenV K x H n ∧ Q (.int n) H
theorem cl_len : CallR X (.builtin "len") (rLen X.K) := call_len
def rStrI : List V → Hp → VK → Prop := fun xs H Q => ∃ i : Int, xs = [.int i] ∧ i.natAbs.log2 < 1920 ∧ Q (.str (toString i)) H
theorem cl_str : CallR X (.type "str") rStrI := call_str_int
def rOrd : List V → Hp → VK → Prop := fun xs H Q => ∃ x, xs = [.str x] ∧ x.length = 1 ∧ Q (.int (x.cps.getD 0 0 : Nat)) H
theorem cl_ord : CallR X (.builtin "ord") rOrd := call_ord
def rAddS : R2 := fun x y H Q => ∃ i j, x = .str i ∧ y = .str j ∧ i.length + j.length ≤ sizeLine ∧ Q (.str (i ++ j)) H
theorem op_addS : OpR X (binaryOp .Add) rAddS := op_add_str
def rIs0 : R2 := fun x y H Q => y = .non ∧ Q (.bl (decide (x = .non))) H
def rIsNot0 : R2 := fun x y H Q => y = .non ∧ Q (.bl (!decide (x = .non))) H
theorem op_is0 : OpR X (compareOp .Is) rIs0 := op_isN
theorem op_isnot0 : OpR X (compareOp .IsNot) rIsNot0 := op_notN
end

/-! ### readings, step by step -/
section
variable {σ : St} {H H' : Hp} {i : Nat} {v x y z : V} {ta tb te tv tc : TE} {b : Bool} {K : PySem.W.Frag} {Q : VK} {QB : Bool → Hp → Prop} {D : Ends} {t u : TS} {tt tu : TT} {a : Addr} {r r' : R2}
theorem w_seq (h : t { D with nx := u D } σ H) : tSeq t u D σ H := h
theorem w_next (h : D.nx σ H) : tNext D σ H := h
theorem w_set (h : te σ H fun x H1 => D.nx (σ.set i (some x)) H1) : tAsg te (gName i) D σ H := h
theorem w_asg {g : TG} (h : te σ H fun x H1 => g x σ H1 D.nx) : tAsg te g D σ H := h
theorem w_par {j : Nat} {tA : TA} (h : tA σ H fun vs H1 => ∃ v w, vs = [v, w] ∧ D.nx ((σ.set i (some v)).set j (some w)) H1) : tPar i j tA D σ H := h
theorem w_ret (h : te σ H D.rt) : tRet te D σ H := h
theorem w_retN (h : D.rt .non H) : tRetN D σ H := h
theorem w_drop (h : te σ H fun _ H1 => D.nx σ H1) : tDrop te D σ H := h
theorem w_if (h : tt σ H fun b H1 => if b = true then t D σ H1 else u D σ H1) : tIfS tt t u D σ H := h
theorem w_ifE (h : tt σ H fun b H1 => if b = true then ta σ H1 Q else tb σ H1 Q) : tIf tt ta tb σ H Q := h
theorem w_var (h : σ[i]? = some (some v)) (q : Q v H) : tVar i σ H Q := ⟨v, h, q⟩
theorem w_c (q : Q v H) : tC v σ H Q := q
theorem w_op (h : ta σ H fun x H1 => tb σ H1 fun y H2 => r x y H2 Q) : tOp r ta tb σ H Q := h
theorem w_un {r : V → Hp → VK → Prop} (h : ta σ H fun x H1 => r x H1 Q) : tUn r ta σ H Q := h
theorem w_I0 {g : Int → Int → V} {m n : Int} (q : Q (g m n) H) : rI0 g (.int m) (.int n) H Q := ⟨m, n, rfl, rfl, q⟩
theorem w_I {C : Int → Int → Prop} {g : Int → Int → V} {m n : Int} (hc : C m n) (q : Q (g m n) H) : rI C g (.int m) (.int n) H Q := ⟨m, n, rfl, rfl, hc, q⟩
theorem w_U {g : Int → V} {m : Int} (q : Q (g m) H) : rU g (.int m) H Q := ⟨m, rfl, q⟩
theorem w_eq (h : scal x y = true) (q : Q (.bl (decide (x = y))) H) : rEq x y H Q := ⟨h, q⟩
theorem w_ne (h : scal x y = true) (q : Q (.bl (!decide (x = y))) H) : rNe x y H Q := ⟨h, q⟩
theorem w_is0 (q : Q (.bl (decide (x = .non))) H) : rIs0 x .non H Q := ⟨rfl, q⟩
theorem w_isnot0 (q : Q (.bl (!decide (x = .non))) H) : rIsNot0 x .non H Q := ⟨rfl, q⟩
theorem w_test (h : te σ H fun x H' => ∃ k, x = .bl k ∧ QB k H') : tTest te σ H QB := h
theorem w_tB (h : te σ H fun x H' => ∃ k, x = .bl k ∧ QB k H') : tB te σ H QB := h
theorem w_bl {R : Bool → Prop} (q : R b) : ∃ k, V.bl b = .bl k ∧ R k := ⟨b, rfl, q⟩
theorem w_and (h : tt σ H fun c H1 => if c = true then tu σ H1 QB else QB false H1) : tAnd tt tu σ H QB := h
theorem w_or (h : tt σ H fun c H1 => if c = true then QB true H1 else tu σ H1 QB) : tOr tt tu σ H QB := h
theorem w_not (h : tt σ H fun c H1 => QB (!c) H1) : tNot tt σ H QB := h
theorem w_andV (h : ta σ H fun x H1 => ∃ c, x = .bl c ∧ if c = true then tb σ H1 Q else Q (.bl false) H1) : tAndV ta tb σ H Q := h
theorem w_orV (h : ta σ H fun x H1 => ∃ c, x = .bl c ∧ if c = true then Q (.bl true) H1 else tb σ H1 Q) : tOrV ta tb σ H Q := h
theorem w_notV (h : ta σ H fun x H1 => ∃ c, x = .bl c ∧ Q (.bl (!c)) H1) : tNotV ta σ H Q := h
theorem w_chain (h : ta σ H fun x H1 => tb σ H1 fun y H2 => r x y H2 fun z H3 => ∃ k, z = .bl k ∧ (if k = true then tc σ H3 fun w' H4 => r' y w' H4 Q else Q (.bl false) H3)) : tChain r r' ta tb tc σ H Q := h
theorem w_cons {tr : TA} {QA : List V → Hp → Prop} (h : ta σ H fun x H1 => tr σ H1 fun xs H2 => QA (x :: xs) H2) : tCons ta tr σ H QA := h
theorem w_nil {QA : List V → Hp → Prop} (q : QA [] H) : tNil σ H QA := q
theorem w_call {sp : Sp} {tA : TA} {E : XK} (h : tA σ H fun vs H1 => sp (vs ++ []) H1 Q E) : tCall sp [] E tA σ H Q := h
theorem w_cb {r : List V → Hp → VK → Prop} {tA : TA} (h : tA σ H fun vs H1 => r vs H1 Q) : tCB r tA σ H Q := h

/-! ### new objects: the heap as a letter -/
theorem same_new {p : Addr} {o : HO} (h : H p = none) : Same H (upd H p o) := fun c w e => by
  rw [upd_ne (ne_of_none e h)]
  exact e
theorem w_tup {tA : TA} (h : tA σ H fun xs H1 => xs.length ≤ sizeLine ∧ ∀ p H2, H1 p = none → Same H1 H2 → H2 p = some (.tup xs) → Q (.ref p) H2) (mono : ∀ σ H (Q Q' : List V → Hp → Prop), (∀ xs H, Q xs H → Q' xs H) → tA σ H Q → tA σ H Q') : tTup tA σ H Q :=
  mono _ _ _ _ (fun xs H1 ⟨l, k⟩ => ⟨l, fun p hp => k p _ hp (same_new hp) upd_same⟩) h
theorem w_newT {xs : List V} {H1 : Hp} (hl : xs.length ≤ sizeLine) (k : ∀ p H2, H1 p = none → Same H1 H2 → H2 p = some (.tup xs) → Q (.ref p) H2) : xs.length ≤ sizeLine ∧ ∀ p, H1 p = none → Q (.ref p) (upd H1 p (.tup xs)) :=
  ⟨hl, fun p hp => k p _ hp (same_new hp) upd_same⟩
theorem w_newL {xs : List V} {H1 : Hp} (hl : xs.length ≤ sizeLine) (k : ∀ p H2, H1 p = none → Same H1 H2 → H2 p = some (.lst xs) → Q (.ref p) H2) : xs.length ≤ sizeLine ∧ ∀ p, H1 p = none → Q (.ref p) (upd H1 p (.lst xs)) :=
  ⟨hl, fun p hp => k p _ hp (same_new hp) upd_same⟩
theorem w_tupE {tA : TA} (h : tA σ H fun xs H1 => xs.length ≤ sizeLine ∧ ∀ p, H1 p = none → Q (.ref p) (upd H1 p (.tup xs))) : tTup tA σ H Q := h
theorem w_lstE {tA : TA} (h : tA σ H fun xs H1 => xs.length ≤ sizeLine ∧ ∀ p, H1 p = none → Q (.ref p) (upd H1 p (.lst xs))) : tLst tA σ H Q := h
/-! ### calls of built-ins, subscripts -/
theorem w_abs {m : Int} (q : Q (.int m.natAbs) H) : rAbs [.int m] H Q := ⟨m, rfl, q⟩
theorem w_max {m n : Int} (q : Q (.int (max m n)) H) : rMaxI [.int m, .int n] H Q := ⟨m, n, rfl, q⟩
theorem w_min {m n : Int} (q : Q (.int (min m n)) H) : rMinI [.int m, .int n] H Q := ⟨m, n, rfl, q⟩
theorem w_intI {m : Int} (q : Q (.int m) H) : rIntOf [.int m] H Q := .inl ⟨m, rfl, q⟩
theorem w_intB {k : Bool} (q : Q (.int (if k then 1 else 0)) H) : rIntOf [.bl k] H Q := .inr ⟨k, rfl, q⟩
theorem w_lenL {p : Addr} {xs : List V} (h : SqL K H p xs) (q : Q (.int xs.length) H) : rLen K [.ref p] H Q := ⟨_, _, rfl, .inl ⟨xs, h, rfl⟩, q⟩
theorem w_lenT {p : Addr} {xs : List V} (h : SqT K H p xs) (q : Q (.int xs.length) H) : rLen K [.ref p] H Q := ⟨_, _, rfl, .inr ⟨xs, h, rfl⟩, q⟩
theorem w_lenS {w : Str} (h : w.length ≤ sizeLine) (q : Q (.int w.length) H) : rLen K [.str w] H Q := ⟨_, _, rfl, ⟨h, rfl⟩, q⟩
theorem w_ixL {p : Addr} {xs : List V} {m : Int} (h : SqL K H p xs) (ha : atI xs m = some v) (q : Q v H) : rIxL K (.ref p) (.int m) H Q := ⟨p, xs, m, v, rfl, rfl, h, ha, q⟩
theorem w_ixT {p : Addr} {xs : List V} {m : Int} (h : SqT K H p xs) (ha : atI xs m = some v) (q : Q v H) : rIxT K (.ref p) (.int m) H Q := ⟨p, xs, m, v, rfl, rfl, h, ha, q⟩
theorem w_ixS {w : Str} {m : Int} {c : Nat} (h : w.length ≤ sizeLine) (ha : atI w.cps.toList m = some c) (q : Q (.str ⟨#[c]⟩) H) : rIxS (.str w) (.int m) H Q := ⟨w, m, c, rfl, rfl, h, ha, q⟩
theorem w_isi {c : V} {tv cv : Value} {k : Bool} (hc : ClsV c cv) (ht : TyX K H x tv) (hk : PySem.W.kitOne K tv cv = some k) (q : Q (.bl k) H) : rIsi K [x, c] H Q := ⟨x, c, tv, cv, k, rfl, hc, ht, hk, q⟩
theorem w_gname {Q2 : L2.St → Hp → Prop} (q : Q2 (σ.set i (some v)) H) : gName i v σ H Q2 := q
theorem w_gsub {to ti : TE} {ts : TSet} {Q2 : L2.St → Hp → Prop} (h : to σ H fun o H1 => ti σ H1 fun i H2 => ts o i v H2 fun H3 => Q2 σ H3) : gSub to ti ts v σ H Q2 := h
theorem w_fld {C dx : Addr} {fs : List (Str × V)} {f : Str} {R : V → Prop} (ho : H a = some (.ins C dx fs)) (hc : Cls K C) (hn : NoAttr K C f) (hl : fs.lookup f = some v) (q : R v) : ∃ a' C dx fs v, V.ref a = .ref a' ∧ H a' = some (.ins C dx fs) ∧ Cls K C ∧ NoAttr K C f ∧ fs.lookup f = some v ∧ R v := ⟨a, C, dx, fs, v, rfl, ho, hc, hn, hl, q⟩
theorem w_fldE {f : Str} (h : ta σ H fun x H1 => ∃ a C dx fs v, x = .ref a ∧ H1 a = some (.ins C dx fs) ∧ Cls K C ∧ NoAttr K C f ∧ fs.lookup f = some v ∧ Q v H1) : tFld K ta f σ H Q := h
end

section
variable {σ : L2.St} {H H' : Hp} {i : Nat} {v x y z : V} {ta tb te tv tc : TE} {b : Bool} {K : PySem.W.Frag} {Q : VK} {QB : Bool → Hp → Prop} {D : Ends} {a C dx : Addr} {fs : List (Str × V)} {f m : Str}
theorem w_two {R : V → V → Prop} (q : R x y) : ∃ v w, [x, y] = [v, w] ∧ R v w := ⟨x, y, rfl, q⟩
theorem w_methE {sp : Sp} {dvs : List V} {E : XK} {t : TA} (h : ta σ H fun x H1 => ∃ a dx fs, x = .ref a ∧ H1 a = some (.ins C dx fs) ∧ fs.lookup m = none ∧ t σ H1 fun vs H2 => sp (x :: (vs ++ dvs)) H2 Q E) : tMeth C m sp dvs E ta t σ H Q := h
theorem w_meth {R : Prop} (ho : H a = some (.ins C dx fs)) (hl : fs.lookup m = none) (q : R) : ∃ a' dx fs, V.ref a = .ref a' ∧ H a' = some (.ins C dx fs) ∧ fs.lookup m = none ∧ R := ⟨a, dx, fs, rfl, ho, hl, q⟩
theorem w_makeE {sp : Sp} {dvs : List V} {E : XK} {t : TA} (h : t σ H fun vs H1 => ∀ x dx, H1 x = none → H1 dx = none → dx ≠ x →
  sp (.ref x :: (vs ++ dvs)) (upd (upd H1 dx (.own x)) x (.ins C dx [])) (fun v H2 => v = .non ∧ Q (.ref x) H2) E) : tMake C sp dvs E t σ H Q := h
theorem w_make {sp : Sp} {vs : List V} {E : XK} {H1 : Hp} (k : ∀ r dr H2, H1 r = none → H1 dr = none → Same H1 H2 → H2 r = some (.ins C dr []) → sp (.ref r :: vs) H2 (fun v H3 => v = .non ∧ Q (.ref r) H3) E) :
    ∀ x dx, H1 x = none → H1 dx = none → dx ≠ x → sp (.ref x :: vs) (upd (upd H1 dx (.own x)) x (.ins C dx [])) (fun v H2 => v = .non ∧ Q (.ref x) H2) E := by
  intro r dr nr nd ne
  refine k r dr _ nr nd (fun c o e => ?_) upd_same
  rw [upd_ne (ne_of_none e nr), upd_ne (ne_of_none e nd)]
  exact e
theorem w_isiB {tx tn : String} {k : Bool} (ht : TyX K H x (.type tx)) (hk : kitB tx tn = some k) (q : Q (.bl k) H) : rIsi K [x, .ty tn] H Q := ⟨x, .ty tn, _, _, k, rfl, .ty tn, ht, kit_ty hk, q⟩
theorem w_sfld {D : Ends} (h : tv σ H fun y H1 => ta σ H1 fun x H2 => ∃ a C dx fs, x = .ref a ∧ H2 a = some (.ins C dx fs) ∧ Cls K C ∧ NoAttr K C f ∧ fs.length < 1000 ∧ D.nx σ (upd H2 a (.ins C dx (putF f y fs)))) : sFld K ta tv f D σ H := h
theorem w_gfldE {to : TE} {Q2 : L2.St → Hp → Prop} (h : to σ H fun x H1 => ∃ a C dx fs, x = .ref a ∧ H1 a = some (.ins C dx fs) ∧ Cls K C ∧ NoAttr K C f ∧ fs.length < 1000 ∧ Q2 σ (upd H1 a (.ins C dx (putF f v fs)))) : gFld K to f v σ H Q2 := h
/-- a store to an attribute: the heap as a letter -/
def KB (p : Addr) (H H' : Hp) : Prop := ∀ c o, H c = some o → c ≠ p → H' c = some o
theorem KB.refl {p : Addr} : KB p H H := fun _ _ h _ => h
theorem KB.trans {p : Addr} {H1 H2 : Hp} (e : KB p H H1) (e' : KB p H1 H2) : KB p H H2 := fun c o h n => e' c o (e c o h n) n
theorem KB.of {p : Addr} (e : Same H H') : KB p H H' := fun c o h _ => e c o h
theorem KB.same {p : Addr} {H0 : Hp} (e : KB p H H') (e0 : Same H0 H) (n : H0 p = none) : Same H0 H' := fun c o h => e c o (e0 c o h) (ne_of_none h n)
theorem kb_upd {p : Addr} {o : HO} : KB p H (upd H p o) := fun c u h n => by rw [upd_ne n]; exact h
theorem w_st {R : Addr → Addr → Addr → List (Str × V) → Prop} (ho : H a = some (.ins C dx fs)) (hc : Cls K C) (hn : NoAttr K C f) (hl : fs.length < 1000) (q : R a C dx fs) :
    ∃ a' C dx fs, V.ref a = .ref a' ∧ H a' = some (.ins C dx fs) ∧ Cls K C ∧ NoAttr K C f ∧ fs.length < 1000 ∧ R a' C dx fs := ⟨a, C, dx, fs, rfl, ho, hc, hn, hl, q⟩
theorem w_setL {p : Addr} {xs : List V} {m : Int} {j : Nat} {QH : Hp → Prop} (h : H p = some (.lst xs)) (hj : ixN xs.length m = some j) (k : ∀ H2, KB p H H2 → H2 p = some (.lst (xs.set j v)) → QH H2) : rSetL (.ref p) (.int m) v H QH := ⟨p, xs, m, j, rfl, rfl, h, hj, k _ kb_upd upd_same⟩
theorem w_gtup {n : Nat} {t : TGs} {xs : List V} {Q2 : L2.St → Hp → Prop} (h : SqT K H a xs) (hn : xs.length = n) (q : t xs σ H Q2) : gTup K n t (.ref a) σ H Q2 := ⟨a, xs, rfl, h, hn, q⟩
theorem w_gcons {g : TG} {t : TGs} {r : List V} {Q2 : L2.St → Hp → Prop} (q : g v σ H fun σ' H' => t r σ' H' Q2) : gCons g t (v :: r) σ H Q2 := ⟨v, r, rfl, q⟩
theorem w_gnil {Q2 : L2.St → Hp → Prop} (q : Q2 σ H) : gNil [] σ H Q2 := ⟨rfl, q⟩
theorem lk_hit {r : List (Str × V)} : List.lookup f ((f, x) :: r) = some x := by simp [List.lookup]
theorem lk_miss {g : Str} {r : List (Str × V)} {o : Option V} (h : (f == g) = false) (e : List.lookup f r = o) : List.lookup f ((g, x) :: r) = o := by simp only [List.lookup, h]; exact e
theorem pf_hit {r : List (Str × V)} : putF f v ((f, x) :: r) = (f, v) :: r := by simp [putF]
theorem pf_miss {g : Str} {r : List (Str × V)} (h : (g == f) = false) : putF f v ((g, x) :: r) = (g, x) :: putF f v r := by
  have : ¬ g = f := beq_eq_false_iff_ne.mp h
  simp [putF, this]
theorem pf_nil : putF f v [] = [(f, v)] := rfl
/-- kept at another place -/
theorem kb_at {p q : Addr} {o : HO} (e : KB p H H') (h : H q = some o) (n : q ≠ p) : H' q = some o := e q o h n
end

/-- while, by a word that falls -/
theorem w_while {σ : L2.St} {H : Hp} {D : Ends} {c : TT} {tb : TS} (W : Nat → L2.St → Hp → Prop) (m0 : Nat) (h0 : W m0 σ H)
    (hs : ∀ m σ H, W m σ H → c σ H fun b H1 => if b = true then tb { D with nx := fun σ' H' => ∃ m', m' < m ∧ W m' σ' H', ct := fun σ' H' => ∃ m', m' < m ∧ W m' σ' H', bk := D.nx } σ H1 else D.nx σ H1)
    (mono : ∀ σ H (Q Q' : Bool → Hp → Prop), (∀ b H, Q b H → Q' b H) → c σ H Q → c σ H Q' ) : tWhile c tb D σ H :=
  ⟨W, ⟨m0, h0⟩, fun m σ H w => mono _ _ _ _ (fun b H1 q => by
    cases b with
    | true =>
      rw [if_pos rfl] at q ⊢
      exact ⟨_, fun _ _ h => h, q⟩
    | false =>
      rw [if_neg Bool.false_ne_true] at q ⊢
      exact q) (hs m σ H w)⟩
theorem w_loopT {D : Ends} {W : Nat → L2.St → Hp → Prop} {m : Nat} {tb : TS} {σ : L2.St} {H : Hp} (h : tb { D with nx := fun σ' H' => ∃ m', m' < m ∧ W m' σ' H', ct := fun σ' H' => ∃ m', m' < m ∧ W m' σ' H', bk := D.nx } σ H) :
    ∃ N : L2.St → Hp → Prop, (∀ σ' H', N σ' H' → ∃ m', m' < m ∧ W m' σ' H') ∧ tb { D with nx := N, ct := N, bk := D.nx } σ H := ⟨_, fun _ _ h => h, h⟩

theorem same_gen {H H2 : Hp} {p : Addr} {o : HO} (n : H p = none) (e : upd H p o = H2) : Same H H2 := e ▸ same_new n
theorem at_gen {H H2 : Hp} {p : Addr} {o : HO} (e : upd H p o = H2) : H2 p = some o := e ▸ upd_same
theorem kb_gen {H H2 : Hp} {p : Addr} {o : HO} (e : upd H p o = H2) : KB p H H2 := e ▸ kb_upd
theorem same_make {H H2 : Hp} {x dx : Addr} {o u : HO} (nx : H x = none) (nd : H dx = none) (e : upd (upd H dx u) x o = H2) : Same H H2 := fun c w h => by
  rw [← e, upd_ne (ne_of_none h nx), upd_ne (ne_of_none h nd)]
  exact h
theorem makeG {H1 : Hp} {R : Addr → Addr → Prop} (k : ∀ x dx, H1 x = none → H1 dx = none → dx ≠ x → R x dx) : ∀ x dx, H1 x = none → H1 dx = none → dx ≠ x → R x dx := k
theorem newL {n : Nat} {R : Addr → Prop} {H : Hp} (hl : n ≤ sizeLine) (k : ∀ p, H p = none → R p) : n ≤ sizeLine ∧ ∀ p, H p = none → R p := ⟨hl, k⟩
theorem kit_int_int : kitB "int" "int" = some true := by decide +kernel
theorem kit_int_bool : kitB "int" "bool" = some false := by decide +kernel
theorem kit_int_str : kitB "int" "str" = some false := by decide +kernel
theorem kit_int_list : kitB "int" "list" = some false := by decide +kernel
theorem kit_int_tuple : kitB "int" "tuple" = some false := by decide +kernel
theorem kit_int_dict : kitB "int" "dict" = some false := by decide +kernel
theorem kit_bool_int : kitB "bool" "int" = some true := by decide +kernel
theorem kit_bool_bool : kitB "bool" "bool" = some true := by decide +kernel
theorem kit_bool_str : kitB "bool" "str" = some false := by decide +kernel
theorem kit_bool_list : kitB "bool" "list" = some false := by decide +kernel
theorem kit_bool_tuple : kitB "bool" "tuple" = some false := by decide +kernel
theorem kit_bool_dict : kitB "bool" "dict" = some false := by decide +kernel
theorem kit_str_int : kitB "str" "int" = some false := by decide +kernel
theorem kit_str_bool : kitB "str" "bool" = some false := by decide +kernel
theorem kit_str_str : kitB "str" "str" = some true := by decide +kernel
theorem kit_str_list : kitB "str" "list" = some false := by decide +kernel
theorem kit_str_tuple : kitB "str" "tuple" = some false := by decide +kernel
theorem kit_str_dict : kitB "str" "dict" = some false := by decide +kernel
theorem kit_list_int : kitB "list" "int" = some false := by decide +kernel
theorem kit_list_bool : kitB "list" "bool" = some false := by decide +kernel
theorem kit_list_str : kitB "list" "str" = some false := by decide +kernel
theorem kit_list_list : kitB "list" "list" = some true := by decide +kernel
theorem kit_list_tuple : kitB "list" "tuple" = some false := by decide +kernel
theorem kit_list_dict : kitB "list" "dict" = some false := by decide +kernel
theorem kit_tuple_int : kitB "tuple" "int" = some false := by decide +kernel
theorem kit_tuple_bool : kitB "tuple" "bool" = some false := by decide +kernel
theorem kit_tuple_str : kitB "tuple" "str" = some false := by decide +kernel
theorem kit_tuple_list : kitB "tuple" "list" = some false := by decide +kernel
theorem kit_tuple_tuple : kitB "tuple" "tuple" = some true := by decide +kernel
theorem kit_tuple_dict : kitB "tuple" "dict" = some false := by decide +kernel
theorem kit_NoneType_int : kitB "NoneType" "int" = some false := by decide +kernel
theorem kit_NoneType_bool : kitB "NoneType" "bool" = some false := by decide +kernel
theorem kit_NoneType_str : kitB "NoneType" "str" = some false := by decide +kernel
theorem kit_NoneType_list : kitB "NoneType" "list" = some false := by decide +kernel
theorem kit_NoneType_tuple : kitB "NoneType" "tuple" = some false := by decide +kernel
theorem kit_NoneType_dict : kitB "NoneType" "dict" = some false := by decide +kernel
theorem kit_dict_int : kitB "dict" "int" = some false := by decide +kernel
theorem kit_dict_bool : kitB "dict" "bool" = some false := by decide +kernel
theorem kit_dict_str : kitB "dict" "str" = some false := by decide +kernel
theorem kit_dict_list : kitB "dict" "list" = some false := by decide +kernel
theorem kit_dict_tuple : kitB "dict" "tuple" = some false := by decide +kernel
theorem kit_dict_dict : kitB "dict" "dict" = some true := by decide +kernel

section
variable {σ : L2.St} {H : Hp} {K : PySem.W.Frag} {D : Ends} {a : Addr}
theorem w_forE {wi : TI} {g : TG} {tb : TS} (h : wi σ H fun J H1 => ∃ W : Nat → Nat → L2.St → Hp → Prop, (∃ m, W 0 m σ H1) ∧ ∀ i m σ H, W i m σ H →
  (J.stop i H ∧ D.nx σ H) ∨ (J.go i H ∧ ∃ N : L2.St → Hp → Prop, (∀ σ' H', N σ' H' → ∃ m', m' < m ∧ W (i + 1) m' σ' H') ∧ ∀ x H', J.yld i H x H' → g x σ H' fun σ2 H2 => tb { D with nx := N, ct := N, bk := D.nx } σ2 H2)) : tFor wi g tb D σ H := h
theorem w_iTup {tl : TE} {R : It → Hp → Prop} (h : tl σ H fun x H1 => ∃ a, x = .ref a ∧ (∃ xs, SqT K H1 a xs) ∧ R (Itt K a) H1) : iTup K tl σ H R := h
theorem w_iList {tl : TE} {R : It → Hp → Prop} (h : tl σ H fun x H1 => ∃ a, x = .ref a ∧ (∃ xs, SqL K H1 a xs) ∧ R (Itl K a) H1) : iList K tl σ H R := h
theorem w_iRng1 {ta : TA} {R : It → Hp → Prop} (h : ta σ H fun vs H1 => ∃ j : Int, vs = [.int j] ∧ -(2 ^ 62) ≤ j ∧ j < 2 ^ 62 ∧ R (Itr 0 j.toNat) H1) : iRng1 ta σ H R := h
theorem w_iRng2 {ta : TA} {R : It → Hp → Prop} (h : ta σ H fun vs H1 => ∃ i j : Int, vs = [.int i, .int j] ∧ (-(2 ^ 62) ≤ i ∧ i < 2 ^ 62 ∧ -(2 ^ 62) ≤ j ∧ j < 2 ^ 62) ∧ R (Itr i (j - i).toNat) H1) : iRng2 ta σ H R := h
theorem w_itT {R : Addr → Prop} {xs : List V} (h : SqT K H a xs) (q : R a) : ∃ a', V.ref a = .ref a' ∧ (∃ xs, SqT K H a' xs) ∧ R a' := ⟨a, rfl, ⟨xs, h⟩, q⟩
theorem w_itL {R : Addr → Prop} {xs : List V} (h : SqL K H a xs) (q : R a) : ∃ a', V.ref a = .ref a' ∧ (∃ xs, SqL K H a' xs) ∧ R a' := ⟨a, rfl, ⟨xs, h⟩, q⟩
/-- == of data -/
theorem w_eqD {x y : V} {Q : VK} {d e : PyData} {k : Bool} (hx : Dp K H x d) (hy : Dp K H y e) (sd : SeqAt.shaped d = true) (se : SeqAt.shaped e = true) (hk : PyData.eqv d e = k) (q : Q (.bl k) H) : rEqD K x y H Q := ⟨d, e, hx, hy, sd, se, hk ▸ q⟩
theorem w_neD {x y : V} {Q : VK} {d e : PyData} {k : Bool} (hx : Dp K H x d) (hy : Dp K H y e) (sd : SeqAt.shaped d = true) (se : SeqAt.shaped e = true) (hk : PyData.eqv d e = k) (q : Q (.bl (!k)) H) : rNeD K x y H Q := ⟨d, e, hx, hy, sd, se, hk ▸ q⟩
theorem dp_t2 {p : Addr} {m n : Int} (h : SqT K H p [.int m, .int n]) : Dp K H (.ref p) (.tuple [.int m, .int n]) := .tup h (.cons (.int m) (.cons (.int n) .nil))
end
theorem mulW {i j : Int} {a b : Nat} (ha : i.natAbs < 2 ^ a) (hb : j.natAbs < 2 ^ b) (h0 : 0 < a) (h1 : 0 < b) (h : a + b ≤ 1000000) : CMulU i j := (wide_mul ha hb h0 h1 h).ok
theorem mulL {i j : Int} (h : i.natAbs < 2 ^ 64) : CMulU i j := CMul.ok (.inl ⟨by omega, by omega⟩)
theorem mulR {i j : Int} (h : j.natAbs < 2 ^ 64) : CMulU i j := CMul.ok (.inr ⟨by omega, by omega⟩)
theorem w_pow10_5 {H : Hp} {Q : VK} (q : Q (.int 100000) H) : rI CPowU (fun i j => .int (i ^ j.toNat)) (.int 10) (.int 5) H Q := ⟨10, 5, rfl, rfl, powU (a := 4) (by decide) (by decide) (by decide) (by decide), q⟩
theorem w_pow10_8 {H : Hp} {Q : VK} (q : Q (.int 100000000) H) : rI CPowU (fun i j => .int (i ^ j.toNat)) (.int 10) (.int 8) H Q := ⟨10, 8, rfl, rfl, powU (a := 4) (by decide) (by decide) (by decide) (by decide), q⟩
theorem w_pow10_9 {H : Hp} {Q : VK} (q : Q (.int 1000000000) H) : rI CPowU (fun i j => .int (i ^ j.toNat)) (.int 10) (.int 9) H Q := ⟨10, 9, rfl, rfl, powU (a := 4) (by decide) (by decide) (by decide) (by decide), q⟩
theorem w_pow10_10 {H : Hp} {Q : VK} (q : Q (.int 10000000000) H) : rI CPowU (fun i j => .int (i ^ j.toNat)) (.int 10) (.int 10) H Q := ⟨10, 10, rfl, rfl, powU (a := 4) (by decide) (by decide) (by decide) (by decide), q⟩
theorem w_pow10_11 {H : Hp} {Q : VK} (q : Q (.int 100000000000) H) : rI CPowU (fun i j => .int (i ^ j.toNat)) (.int 10) (.int 11) H Q := ⟨10, 11, rfl, rfl, powU (a := 4) (by decide) (by decide) (by decide) (by decide), q⟩
theorem w_pow10_12 {H : Hp} {Q : VK} (q : Q (.int 1000000000000) H) : rI CPowU (fun i j => .int (i ^ j.toNat)) (.int 10) (.int 12) H Q := ⟨10, 12, rfl, rfl, powU (a := 4) (by decide) (by decide) (by decide) (by decide), q⟩
theorem w_pow10_18 {H : Hp} {Q : VK} (q : Q (.int 1000000000000000000) H) : rI CPowU (fun i j => .int (i ^ j.toNat)) (.int 10) (.int 18) H Q := ⟨10, 18, rfl, rfl, powU (a := 4) (by decide) (by decide) (by decide) (by decide), q⟩
/-! ### small facts -/
theorem sz {n : Nat} (h : n ≤ 100000) : n ≤ sizeLine := Nat.le_trans h (by decide)
theorem w_iteP {c : Bool} {A B : Prop} (h1 : c = true → A) (h2 : c = false → B) : if c = true then A else B := by
  cases c with
  | true => exact iteT (h1 rfl)
  | false => exact iteF (h2 rfl)
theorem w_dec {c A B : Prop} {dc : Decidable c} (h1 : c → A) (h2 : ¬ c → B) : if decide c = true then A else B := by
  by_cases h : c
  · rw [if_pos (decide_eq_true h)]
    exact h1 h
  · rw [if_neg (fun e => h (of_decide_eq_true e))]
    exact h2 h
theorem same_at {H H' : Hp} {a : Addr} {o : HO} (e : Same H H') (h : H a = some o) : H' a = some o := e a o h
theorem same_t {K : PySem.W.Frag} {H H' : Hp} {a : Addr} {xs : List V} (e : Same H H') (h : SqT K H a xs) : SqT K H' a xs := by
  rcases h with (h | ⟨o, h⟩) | h
  · exact .inl (.inl (e _ _ h))
  · exact .inl (.inr ⟨o, e _ _ h⟩)
  · exact .inr h
section
variable {K : PySem.W.Frag} {H : Hp}
theorem tyx_int {i : Int} : TyX K H (.int i) (.type "int") := .base (.int _)
theorem tyx_bl {b : Bool} : TyX K H (.bl b) (.type "bool") := .base (.bl _)
theorem tyx_str {x : Str} : TyX K H (.str x) (.type "str") := .base (.str _)
theorem tyx_non : TyX K H .non (.type "NoneType") := .base .non
theorem tyx_lst {a : Addr} {xs : List V} (h : H a = some (.lst xs)) : TyX K H (.ref a) (.type "list") := .base (.lst h)
theorem tyx_tup {a : Addr} {xs : List V} (h : H a = some (.tup xs)) : TyX K H (.ref a) (.type "tuple") := .base (.tup h)
end
end Bw

/-! Except clauses: tuples of classes of any length. -/
namespace PySem.W
open PySem PySem.Spec PySem.Calls
section
variable {M : Model} {K : Frag}
theorem forIn_stay {β : Type} {A : Around} {E : Value → Shared → Prop} {s : Shared} {b : β} {f : Value → β → Sem (ForInStep β)} {Q : β → Shared → Prop} : ∀ {cs : List Value}, (∀ c ∈ cs, ∀ (Q : ForInStep β → Shared → Prop), Q (.yield b) s → wpAny M A (f c b) Q E s) → Q b s → wpAny M A (forIn cs b f) Q E s
  | [], _, q => by
    rw [List.forIn_nil]
    exact wpAny_pure q
  | c :: r, hf, q => by
    rw [List.forIn_cons]
    refine wpAny_bind (hf c List.mem_cons_self _ ?_)
    exact forIn_stay (fun c hc => hf c (List.mem_cons_of_mem _ hc)) q
theorem exmAny_mem {cls : Value} : ∀ {cs : List Value} {b : Bool}, exmAny K cls cs = some b → ∀ c ∈ cs, ∃ b1, exmOne K cls c = some b1
  | c :: r, b, h, x, hx => by
    obtain ⟨b1, d1, h1, h2, _⟩ := exmAny_cons h
    rcases List.mem_cons.mp hx with rfl | hx
    · exact ⟨_, h1⟩
    · exact exmAny_mem h2 x hx
theorem exm_tupN {cs : List Value} {cls : Value} {tp e : Addr} {b : Bool} {h : Heap} {n : Nat} {dd : Option Addr} {sl : Array (Option Value)} (X : K.In h) (LT : Looks M h (typeOf (.ref e)) cls) (hp : h.get? tp = some { cls := .type "tuple", dict := dd, data := .seq cs.toArray n, slots := sl }) (hx : exmAny K cls cs = some b) :
    Looks M h (excMatches (.ref e) (.ref tp)) b := by
  intro A Q E s k₀ q
  obtain ⟨hh, g, d, tk, os⟩ := s
  have k : ∀ b o, h.get? b = some o → hh.get? b = some o := k₀
  have LT0 : Looks M h (isInstance (.ref tp) (.type "tuple")) true := ((Looks.ld hp).andThen .now).andThen (Looks.of_pure isSubtype_tuple_tuple)
  have LT := LT.keeps k
  have LT0 := LT0.keeps k
  have hp' := k _ _ hp
  have hk := X.keeps k
  unfold excMatches
  refine wpAny_bind (LT0.at ?_)
  dsimp only
  rw [if_pos rfl]
  first
    | refine wpAny_bind (wpAny_seqItems hp' rfl ?_)
    | refine wpAny_bind (wpAny_bind (wpAny_seqItems hp' rfl (wpAny_pure ?_)))
  dsimp only [Option.getD_some, Option.getD]
  refine wpAny_bind (wpAny_pure ?_)
  refine wpAny_bind (forIn_stay (fun c hc Q q => ?_) ?_)
  · obtain ⟨b1, h1⟩ := exmAny_mem hx c hc
    refine wpAny_bind ((exm_cls (M := M) hk h1).1.here ?_)
    exact wpAny_pure q
  · refine wpAny_bind (LT.here ?_)
    have loop : ∀ (cs : List Value) (b : Bool), exmAny K cls cs = some b → ∀ (Q : Option Bool × Unit → Shared → Prop), Q (if b then some true else none, ()) { heap := hh, gens := g, drawn := d, toks := tk, os := os } →
        wpAny M A (forIn cs ((none : Option Bool), ()) fun c __s => do
            let __do_lift ← isSubtype cls c
            if __do_lift = true then pure (ForInStep.done (some true, ())) else pure (ForInStep.yield (none, ()))) Q E { heap := hh, gens := g, drawn := d, toks := tk, os := os } := by
      intro cs
      induction cs with
      | nil =>
        intro b hb Q q
        have w2 : some false = some b := hb
        cases w2
        rw [List.forIn_nil]
        exact wpAny_pure q
      | cons c r ih =>
        intro b hb Q q
        obtain ⟨b1, d1, h1, h2, rfl⟩ := exmAny_cons hb
        rw [List.forIn_cons]
        refine wpAny_bind (wpAny_bind ((exm_cls (M := M) hk h1).2.here ?_))
        cases b1 with
        | true =>
          rw [if_pos rfl]
          exact wpAny_pure (wpAny_pure q)
        | false =>
          rw [if_neg Bool.false_ne_true]
          exact wpAny_pure (ih d1 h2 Q q)
    refine wpAny_bind (loop cs b hx _ ?_)
    cases b with
    | true => exact wpAny_pure q
    | false => exact wpAny_pure q
end
end PySem.W

namespace Bw
open PySem PySem.Spec L2
/-! ### try with several clauses, classes or tuples of classes, each with a name -/
/-- a clause's class expression, read where the exception is handled -/
def wMas (K : PySem.W.Frag) (Wout : WX) (D : Ends) : List (List Value × Nat × (Addr → Value → Option Addr → TS)) → WX
  | [] => Wout
  | (cs, i, ts) :: r => fun cls d σ H => ∃ b, PySem.W.exmAny K cls cs = some b ∧ (b = true → ∀ a, H a = none → ts a cls d { nx := fun σ' H' => D.nx (σ'.set i none) H', rt := D.rt, bk := fun σ' H' => D.bk (σ'.set i none) H', ct := fun σ' H' => D.ct (σ'.set i none) H' } (σ.set i (some (.ref a))) H) ∧
      (b = false → wMas K Wout D r cls d σ H)
/-- names of classes -/
inductive NamesL (X : Cx) : List Expr → List Value → Prop
  | nil : NamesL X [] []
  | cons {x : Str} {c : Value} {p : Pos} {es : List Expr} {cs : List Value} (h : Names X x c) (r : NamesL X es cs) : NamesL X (.Name x p :: es) (c :: cs)
inductive ClsE (X : Cx) : Expr → List Value → Prop
  | one {x : Str} {c : Value} {p : Pos} (h : Names X x c) : ClsE X (.Name x p) [c]
  | tup {es : List Expr} {cs : List Value} {k : Nat} {p : Pos} (h : NamesL X es cs) : ClsE X (.Tuple es k p) cs
inductive HdsA (X : Cx) : List ExceptHandler → List (List Value × Nat × (Addr → Value → Option Addr → TS)) → Prop
  | nil : HdsA X [] []
  | cons {te : Expr} {cs : List Value} {n : Str} {i : Nat} {ts : Addr → Value → Option Addr → TS} {b₀ : Stmt} {suite : List Stmt} {pos' : Pos} {hds : List ExceptHandler} {l : List (List Value × Nat × (Addr → Value → Option Addr → TS))} (hc : ClsE X te cs)
      (hi : X.N[i]? = some n) (hln : X.env.kindOf n = some .local)
      (hsu : ∀ (a : Addr) (oe : Obj) (cls : Value) (d : Option Addr) (pn : List (Addr × Obj)), Zc cls d oe → (∃ vs, oe.data = .fields vs) → PSs (X.suite a ((a, oe) :: pn)) (b₀ :: suite) (ts a cls d)) (r : HdsA X hds l) :
      HdsA X (.ExceptHandler (some te) (some n) (b₀ :: suite) pos' :: hds) ((cs, i, ts) :: l)
theorem flying_kept {B h h' : Heap} {l : List Env} {e : Addr} {Z : Obj → Prop} (f : HandSPX.FlyingZ B l e Z h) (k : ∀ b o, h.get? b = some o → h'.get? b = some o) : HandSPX.FlyingZ B l e Z h' := by
  obtain ⟨f1, f2, f3, oe, vs, T, oT, ts, a1, a2, a3, a4, a5, a6, a7, a8, a9⟩ := f
  exact ⟨fun b o q => k b o (f1 b o q), f2, f3.of_keeps fun b o q _ => ⟨o, k b o q, rfl⟩, oe, vs, T, oT, ts, k _ _ a1, a2, a3, a4, a5, a6, k _ _ a7, a8, a9⟩
section
variable {X : Cx} {body : List Stmt} {h₀ : ExceptHandler} {hds : List ExceptHandler} {l : List (List Value × Nat × (Addr → Value → Option Addr → TS))} {pos : Pos} {tb : WX → TS} {Wout : WX}
theorem eval_names {Y : Cx} {pins : List (Addr × Obj)} {σ : L2.St} {H : Hp} {s : Shared} {E : Value → Shared → Prop} (I : Inv Y pins σ H s) (pos : Pos) : ∀ {es : List Expr} {cs : List Value}, NamesL Y es cs → ∀ {Q : List Value → Shared → Prop}, Q cs s → wpAny (model Y.prog Y.w) Y.A (spliced (backTo pos (starEach es Y.env))) Q E s
  | _, _, .nil, Q, q => Calls.spliced_nil q
  | _, _, @NamesL.cons _ x c p es cs h r, Q, q => by
    show wpAny _ _ (spliced ((false, eval (.Name x p) Y.env) :: backTo pos (starEach es Y.env))) _ _ s
    refine Calls.spliced_cons ?_
    have go : wpAny (model Y.prog Y.w) Y.A (spliced (backTo pos (starEach es Y.env))) (fun vs s₂ => Q (c :: vs) s₂) E s := eval_names I pos r q
    obtain ⟨hg, hdbg, hm | ⟨hm, hv, hnn⟩⟩ := h
    · exact ld_glob I hg hm go hdbg
    · exact ld_blt I hg hm hv go hnn hdbg
theorem NamesL.suite {a : Addr} {pn : List (Addr × Obj)} : ∀ {es : List Expr} {cs : List Value}, NamesL X es cs → NamesL (X.suite a pn) es cs
  | _, _, .nil => .nil
  | _, _, .cons h r => .cons h (NamesL.suite r)
theorem NamesL.length : ∀ {es : List Expr} {cs : List Value}, NamesL X es cs → cs.length = es.length
  | _, _, .nil => rfl
  | _, _, .cons _ r => congrArg Nat.succ (NamesL.length r)
theorem ps_try_mas (hs : X.stack = X.env :: X.outer) (hf : X.env.frame = some X.env.locals) (hN : X.N.Nodup) (tk : Takes X Wout) (hsz : ∀ x ∈ l, x.1.length ≤ 1000)
    (hb : ∀ (W : WX) (pn : List (Addr × Obj)) (xe : Value → Shared → Prop), Takes (X.tr pn xe) W → PassesOwn (model X.prog X.w) X.A X.env xe → PSs (X.tr pn xe) body (tb W))
    (hh : HdsA X (h₀ :: hds) l) : PS X (.Try body (h₀ :: hds) [] [] pos) (fun D σ H => tb (wMas X.K Wout D l) D σ H) := by
  refine ⟨fun pins s σ H D I h => ?_⟩
  have ok := I.ok
  have hfr : X.A.frames = some (X.env :: X.outer) := by rw [ok.frames, hs]
  refine wpAny_Try_except ?_
  refine wpAny_mono ((hb (wMas X.K Wout D l) (X.pn ++ pins) (fun e s₁ => wpAny (model X.prog X.w) X.A (noteFrame e X.env) (fun _ s₂ => wpAny (model X.prog X.w) X.A (setFlight e none) (fun _ s₃ =>
    wpAny (model X.prog X.w) X.A (handleBy e X.env (h₀ :: hds)) (SP X pins D) X.xe s₃) X.xe s₂) X.xe s₁) (fun u s' xx => ?_) PassesOwn.looking).run [] s σ H D (I.toTry _) h) (fun f s1 hsp => ?_) (fun e s1 he => he)
  · -- the catch
    obtain ⟨a, B, sI, pins', σ', H', cls, d, rfl, J', nb, up, sky, na, os, ag, w⟩ := xx
    have J : Inv X pins σ' H' sI := J'.ofTry ok
    have sky' : Sky B (X.env :: X.outer) a (Zc cls d) X.env.locals s'.heap := by rw [← hs]; exact sky
    show wpAny (model X.prog X.w) X.A (noteFrame (.ref a) X.env) _ _ _
    refine Sky.land Zc.steady hfr hf sky' fun h3 fl3 up3 => ?_
    have notFr : ∀ {h : Heap} {o : Obj} {vs : Array Value}, h.FunFrames B (X.env :: X.outer) → h.get? a = some o → o.data = .fields vs → a ∉ frs (X.env :: X.outer) := fun {h o vs} ff e dd hm => by
      obtain ⟨_, o', e', hnf⟩ := ff.mem hm
      rw [e] at e'; cases e'
      exact hnf _ dd
    have nfr : a ∉ frs (X.env :: X.outer) := by
      obtain ⟨oe3, vs3, he3, hz3, hd3⟩ := fl3.there
      exact notFr fl3.2.2.1 he3 hd3
    have nL : a ≠ X.env.locals := fun z => nfr (List.mem_filterMap.mpr ⟨X.env, List.mem_cons_self, by rw [hf, z]⟩)
    have nF : a ∉ X.fs := fun hm => by
      obtain ⟨e, he, q⟩ := List.mem_filterMap.mp hm
      exact nfr (List.mem_filterMap.mpr ⟨e, List.mem_cons_of_mem _ he, q⟩)
    have go : ∀ {hds' : List ExceptHandler} {l' : List (List Value × Nat × (Addr → Value → Option Addr → TS))}, HdsA X hds' l' → (∀ x ∈ l', x.1.length ≤ 1000) → wMas X.K Wout D l' cls d σ' H' → ∀ h3, HandSPX.FlyingZ B (X.env :: X.outer) a (Zc cls d) h3 → sI.heap.UpToSlots h3 →
        wpAny (model X.prog X.w) X.A (handleBy (.ref a) X.env hds') (SP X pins D) X.xe { s' with heap := h3 } := by
      intro hds' l' hk
      induction hk with
      | nil =>
        intro _ w h3 fl3 up3
        refine wpAny_handleBy_nil ?_
        obtain ⟨k1, k2, k3, oe, vs, T, oT, ts', he, hz, hd, h1, hr⟩ := id fl3
        unfold PySem.passOn
        refine wpAny_bind (wpAny_field he hd h1 ?_)
        rw [if_neg (show ¬ ((Value.ref T == Value.none) = true) from by simp)]
        have fin : wpAny (model X.prog X.w) X.A (setFlight (.ref a) X.env.frame) (fun _ s4 => wpAny (model X.prog X.w) X.A (throw (.ref a) : Sem Flow) (SP X pins D) X.xe s4) X.xe { s' with heap := h3 } := by
          rw [hf]
          refine HandSPX.setFlight_upZ fl3 fun h4 hh4 up4 => wpAny_throw (tk _ _ ?_)
          exact ⟨a, B, sI, pins, σ', H', cls, d, rfl, J, nb, up3.trans up4, .inr (.inr (by rw [hs]; exact hh4)), na, os, ag, w⟩
        first
          | exact wpAny_bind (wpAny_pure (wpAny_bind fin))
          | exact wpAny_bind fin
      | @cons te cs n i ts b₀ suite pos' hds2 l2 hc hi hln hsu r ih =>
        intro hz0 w h3 fl3 up3
        obtain ⟨b, hb1, hyes, hno⟩ := w
        have J3 : Inv X pins σ' H' { s' with heap := h3 } := J.landed nb fl3.1 up3 os ag
        obtain ⟨oe3, vs3, he3, hz3, hd3⟩ := fl3.there
        have S3 := J3.suite he3 hd3 na nL nF
        refine wpAny_handleBy_cons (codeAny_handlers_test ?_) (by intro q; cases q)
        -- the classes, then the match, in a heap that is kept
        have test : ∀ {R : Bool → Shared → Prop} {E : Value → Shared → Prop}, (∀ h4, (∀ b o, h3.get? b = some o → h4.get? b = some o) → R b { s' with heap := h4 }) →
            wpAny (model X.prog X.w) (X.A.mark (some (.ref a))) (eval te X.env) (fun c s₁ => wpAny (model X.prog X.w) (X.A.mark (some (.ref a))) (excMatches (.ref a) c) R E s₁) E { s' with heap := h3 } := fun {R E} q => by
          cases hc with
          | one hn =>
            rename_i x c np
            have LT : PySem.W.Looks (model X.prog X.w) h3 (typeOf (.ref a)) cls := fun A Q E s k q => wpAny_typeOf_ref (k _ _ he3) (by rw [hz3.1]; exact q)
            obtain ⟨b1, d1, h1, h2, eb⟩ := PySem.W.exmAny_cons hb1
            have w2 : some false = some d1 := h2
            cases w2
            rw [Bool.or_false] at eb
            subst eb
            have LM := PySem.W.exm_one (M := model X.prog X.w) (J3.kIn) LT h1
            obtain ⟨hg, hdbg, hm | ⟨hm, hv, hnn⟩⟩ := hn
            · exact ld_glob (X := X.suite a ((a, oe3) :: (X.pn ++ pins))) S3 hg hm (LM.here (q h3 fun _ _ z => z)) hdbg
            · exact ld_blt (X := X.suite a ((a, oe3) :: (X.pn ++ pins))) S3 hg hm hv (LM.here (q h3 fun _ _ z => z)) hnn hdbg
          | tup hn =>
            rename_i es kk np
            refine wpAny_Tuple_spliced (eval_names (Y := X.suite a ((a, oe3) :: (X.pn ++ pins))) S3 _ hn.suite ⟨?_, ?_⟩)
            · exact Nat.le_trans (hz0 _ List.mem_cons_self) (by decide)
            · have kp : ∀ b o, h3.get? b = some o → (h3.push { cls := .type "tuple", data := .seq cs.toArray }).get? b = some o := fun b o e => Heap.get?_push_of_some _ e
              have LT : PySem.W.Looks (model X.prog X.w) (h3.push { cls := .type "tuple", data := .seq cs.toArray }) (typeOf (.ref a)) cls := fun A Q E s k q => wpAny_typeOf_ref (k _ _ (kp _ _ he3)) (by rw [hz3.1]; exact q)
              have LM := PySem.W.exm_tupN (M := model X.prog X.w) (J3.kIn.keeps kp) LT (Heap.get?_push_size _ rfl) hb1
              exact LM.here (q _ kp)
        refine test fun h4 kp => ?_
        have fl4 := flying_kept fl3 kp
        have up4 : sI.heap.UpToSlots h4 := up3.trans (.of_keeps kp)
        cases b with
        | true =>
          refine codeAny_handlers_suite_as ?_
          refine HandSPX.lands_againZ fl4 fun h5 fl5 up5 => ?_
          have J5 : Inv X pins σ' H' { s' with heap := h5 } := J.landed nb fl5.1 (up4.trans up5) os ag
          obtain ⟨oe5, vs5, he5, hz5, hd5⟩ := fl5.there
          have S5 := J5.suite he5 hd5 na nL nF
          refine store_ok (X := X.suite a ((a, oe5) :: (X.pn ++ pins))) (v := .ref a) S5 hN hi (.inl hln) rfl (fun s6 S6 => ?_) (.inr hln)
          refine wpAny_mono ((hsu a oe5 cls d (X.pn ++ pins) hz5 ⟨_, hd5⟩).run [] s6 _ H' _ S6 (hyes rfl a na)) (fun f s6 hsp => ?_) (fun _ _ z => False.elim z)
          have end_ : ∀ {σ6 : L2.St} {H6 : Hp} {Q : Shared → Prop}, Inv (X.suite a ((a, oe5) :: (X.pn ++ pins))) [] σ6 H6 s6 → (∀ s7, Inv X pins (σ6.set i none) H6 s7 → Q s7) →
              wpAny (model X.prog X.w) X.A (do bindName X.env n .none; unbindBehindTheSuite X.env n pos') (fun _ s7 => Q s7) X.xe s6 := fun {σ6 H6 Q} S6 hq => gone_ok (S6.unsuite ok) hN hi hln hq
          cases f with
          | next =>
            obtain ⟨σ6, H6, S6, q6⟩ := hsp
            exact end_ S6 fun s7 J7 => ⟨_, _, J7, q6⟩
          | brk =>
            obtain ⟨σ6, H6, S6, q6⟩ := hsp
            exact end_ S6 fun s7 J7 => ⟨_, _, J7, q6⟩
          | cont =>
            obtain ⟨σ6, H6, S6, q6⟩ := hsp
            exact end_ S6 fun s7 J7 => ⟨_, _, J7, q6⟩
          | ret u =>
            obtain ⟨v6, σ6, H6, S6, r6, q6⟩ := hsp
            exact end_ S6 fun s7 J7 => ⟨_, _, _, J7, r6, q6⟩
        | false =>
          show wpAny _ X.A (handleBy (.ref a) X.env hds2) _ _ _
          exact ih (fun x hx => hz0 x (List.mem_cons_of_mem _ hx)) (hno rfl) h4 fl4 up4
    exact go hh hsz w h3 fl3 (up.trans up3)
  · cases f with
    | next =>
      obtain ⟨σ', H', J', q⟩ := hsp
      exact wpAny_execs_nil ⟨σ', H', J'.ofTry ok, q⟩
    | brk =>
      obtain ⟨σ', H', J', q⟩ := hsp
      exact ⟨σ', H', J'.ofTry ok, q⟩
    | cont =>
      obtain ⟨σ', H', J', q⟩ := hsp
      exact ⟨σ', H', J'.ofTry ok, q⟩
    | ret u =>
      obtain ⟨v, σ', H', J', r, q⟩ := hsp
      exact ⟨v, σ', H', J'.ofTry ok, r, q⟩
end
end Bw

namespace Bw
open PySem PySem.Spec PyProof.Rows L2
/-! ### raise of own classes -/
section
variable {X : Cx}
/-- X(), X an own exception class without own __init__ -/
theorem pmk_own0 {C : Addr} {bmB : List Value} {B newId initId : String} {x : Str} {p pos : Pos} (F : ExcBaseFacts B newId initId bmB) (q : PySem.W.excIn X.K C bmB newId = true) (gC : X.mg x = some (.ref C))
    (kC : PySem.W.keepIn X.K (.ref C) = true) (r : Raises X (.ref C)) (hg : Gl X x) (hdb : (x == ("__debug__" : Str)) = false := by decide) : PMk X (.Call (.Name x p) [] [] pos) (fun _ H Q => Q (.ref C) none H) := by
  intro pins s σ H Q I h
  refine wpAny_Call_Name_kw (ld_glob I hg gC ?_ hdb)
  refine PySem.W.callWith_K0 I.kIn kC ?_
  show wpAny _ _ (call (.ref C) []) _ _ _
  obtain ⟨bm, N, nm, qn, bs, hdct, sn, sub, ab, col, dd, k0, k1, k2, k3, k5, mN, hC, hN, hni, T⟩ := exc_obj I.kIn q
  refine wpAny_call_exc_subT F T hC hN hni (fun h' e hm => ?_) (by show 0 ≤ sizeLine; exact Nat.zero_le _)
  exact mk_of I hm r h (I.hok.gone hm.new)
/-- D.__init__(self, ..), D an own class above which stands ValueError -/
theorem pe_wrinit {pl : Sem Bool} {D : Addr} {x : Str} {e : Expr} {es : List Expr} {ta : TA} {p1 p2 pos : Pos} (hg : Gl X x) (hm : X.mg x = some (.ref D)) (hga : PySem.W.specialIn X.K (.ref D) "__getattribute__" = some (some (.builtin "type.__getattribute__")))
    (hrd : PySem.W.readsIn X.K D (.type "type") = true) (vV : PySem.W.findCls X.K (.ref D) (.type "type") "__init__" = some (.val (.builtin "ValueError.__init__"))) (ha : PA X (e :: es) ta)
    (hdb : (x == ("__debug__" : Str)) = false := by decide)
    (hc : eval (.Call (.Attribute (.Name x p1) "__init__" p2) (e :: es) [] pos) X.env = (do
      let ov ← eval (.Name x p1) X.env
      standAt p2.atName
      let (f, first) ← holding [ov] (getMethod ov "__init__" pl)
      callWith pos f first (backTo pos (starEach (e :: es) X.env)) (backToKw pos (keywordEach [] X.env))) := by rfl)
    (he : starEach (e :: es) X.env = (false, eval e X.env) :: starEach es X.env := by rfl) (hpl : (backTo pos (starEach es X.env)).any (·.1) = false := by rfl) :
    PE X (.Call (.Attribute (.Name x p1) "__init__" p2) (e :: es) [] pos) (tVeI X.K ta) := by
  refine ⟨fun pins s σ H Q I h => ?_⟩
  refine PySem.W.methodCall_KW (ld_glob I hg hm ?_ hdb) hc
  refine PySem.W.method_cls I.kIn hga (PySem.W.cls_value I.kIn hrd vV rfl ?_)
  show wpAny _ _ (callWith pos (Value.builtin "ValueError.__init__") [] (backTo pos (starEach (e :: es) X.env)) []) _ _ _
  refine PyProof.Rows.callWith_method1 (thn (ha.run pos pins _ σ H _ (I.tok _) h) fun us s1 ⟨vs, H1, I1, r1, a, C, ws, ev, hl, T, ea, q⟩ => ?_) he hpl
  subst ev
  cases r1 with
  | @cons _ u0 _ ur ra rw' =>
    obtain rfl : u0 = Value.ref a := ra
    have hlen : ur.length ≤ sizeLine := by
      rw [← Paired.length rw', sizeLine_eq]
      omega
    exact oinit_ok T I1 ea hlen fun s' J => ⟨.non, H1, J, rfl, q⟩
/-- C(), C's own __init__ -/
theorem pmk_oex0 {CX : CXT} {x : Str} {C fI : Addr} {k : Nat} {fd : FuncData} {ps : List Str} {sp : Sp} {ds : List Value} {dvs : List V} {p pos : Pos} (T : OexC X.K C) (iC : PySem.W.findIn X.K (.ref C) "__init__" = some (some (.ref fI))) (tI : PySem.W.typeIn X.K (.ref fI) = some (.type "function"))
    (F1 : FnOk X.prog X.w X.K X.mg X.base CX k fI fd ps sp) (hr : Room (k + 1) X.A) (hb : Binds X.K fd ps ds) (hd : Vals dvs ds) (hx : Passes CX X (fun _ _ _ => False)) (hg : Gl X x) (hm : X.mg x = some (.ref C))
    (hdb : (x == ("__debug__" : Str)) = false := by decide) :
    PMk X (.Call (.Name x p) [] [] pos) (tMkO C sp dvs tNil) := by
  intro pins s σ H Q I h
  obtain ⟨nm, q, N, bs, bm, sn, sub, ab, col, dd, k0, k1, k2, k3, k5, hC, hbm⟩ := T.cls
  refine wpAny_Call_Name_kw (ld_glob I hg hm ?_ hdb)
  obtain ⟨hz, q1⟩ := h
  refine PySem.W.callWith_K0 I.kIn T.kC ?_
  show wpAny _ _ (call (.ref C) []) _ _ _
  obtain ⟨hp, g, dr, tk, os⟩ := s
  have hsz : hp.objs.size ≤ hp.objs.size + 1 := Nat.le_succ _
  have hn : H (hp.objs.size + 1) = none := I.hok.fresh hsz
  have hq := q1 (hp.objs.size + 1) hn
  have kk : ∀ b o, hp.get? b = some o → ((hp.push (PySem.W.kdv_tup [])).push (PySem.HandSPX.excO C hp.objs.size)).get? b = some o := fun b o e => Heap.get?_push_of_some _ (Heap.get?_push_of_some _ e)
  have hget : ((hp.push (PySem.W.kdv_tup [])).push (PySem.HandSPX.excO C hp.objs.size)).get? (hp.objs.size + 1) = some (PySem.HandSPX.excO C hp.objs.size) := by heap_get
  have I2 : Inv X pins σ (upd H (hp.objs.size + 1) (exo (hp.objs.size + 1) C none)) ⟨(hp.push (PySem.W.kdv_tup [])).push (PySem.HandSPX.excO C hp.objs.size), g, dr, tk, os⟩ :=
    I.laid (t' := tk) (a := hp.objs.size + 1) (o := exo (hp.objs.size + 1) C none) (h' := (hp.push (PySem.W.kdv_tup [])).push (PySem.HandSPX.excO C hp.objs.size)) kk hsz (exo_ok hget)
  have r2 : Vals (V.ref (hp.objs.size + 1) :: ([] ++ dvs)) (Value.ref (hp.objs.size + 1) :: ([] ++ ds)) := .cons rfl (Vals.append .nil hd)
  have hl : (Value.ref (hp.objs.size + 1) :: [] ++ ds).length = ps.length := by
    have e := r2.length
    rw [F1.len _ _ _ _ hq] at e
    exact e.symm
  refine wpAny_call (PySem.HandSPX.call_own F.excBase_ValueError (fun Y => PySem.HandSPX.refsVE_contains Y bm hbm) (I.kIn _ _ hC) (PySem.W.looks_findIn I.kIn iC) (fun self => PySem.W.bind_fn I.kIn self tI) (Nat.zero_le _)
    (codeAny_mono (F1.run _ X.stack _ _ ⟨Value.ref (hp.objs.size + 1) :: [], []⟩ (Value.ref (hp.objs.size + 1) :: ([] ++ ds)) _ _ (fun _ _ _ => False) (hr.make C [] []) (I2.env0.make C [] []) (show BindsTo _ _ _ (ps.zip (Value.ref (hp.objs.size + 1) :: ([] ++ ds))) from hb _ (Value.ref (hp.objs.size + 1) :: []) I2.kIn hl) r2 hq) fun r s' hq' => ?_))
  cases r with
  | error er => exact hx pins σ _ _ er s' I2 hq'
  | ok fl =>
    cases fl with
    | ret u =>
      obtain ⟨v, H2, os2, bare2, un2, hok2, rv, ev, d, fs, ea, ed, hd1, q2⟩ := hq'
      subst ev
      obtain ⟨h2, g2, d2, t2, os'⟩ := s'
      exact ⟨rv, mk_end (raises_own T.exC T.tyC) I hsz kk un2 hok2 os2 bare2 ea ed hd1 q2⟩
    | next => exact False.elim hq'
    | brk => exact False.elim hq'
    | cont => exact False.elim hq'
end
/-! ### own exceptions with one field -/
/-- what such an __init__(self, v) does -/
def spXi (K : PySem.W.Frag) (f : Str) : Sp := fun vs H Q _ => ∃ (a C : Addr) (v : V), vs = [.ref a, v] ∧ OexC K C ∧ PySem.W.findIn K (.ref C) f = some none ∧ H a = some (exo a C none) ∧ ∀ dx, H dx = none → dx ≠ a → Q .non (upd (upd H dx (exd dx [(f, v)])) a (exo a C (some dx)))
/-- an own exception class x, its __init__ puts one field f; dvs: what is told by default -/
structure Xcl (P : Program) (w : World) (K : PySem.W.Frag) (mg : Str → Option Value) (base : Heap) (x : Str) (C : Addr) (k : Nat) (f : Str) (dvs : List V) : Prop where
  T : OexC K C
  no : PySem.W.findIn K (.ref C) f = some none
  hm : mg x = some (.ref C)
  ex : ∃ (fI : Addr) (fd : FuncData) (ds : List Value) (ps : List Str), PySem.W.findIn K (.ref C) "__init__" = some (some (.ref fI)) ∧ PySem.W.typeIn K (.ref fI) = some (.type "function") ∧ FnOk P w K mg base CX0 k fI fd ps (spXi K f) ∧ Binds K fd ps ds ∧ Vals dvs ds
def tXmk (C : Addr) (f : Str) (dvs : List V) (ta : TA) : L2.St → Hp → XK → Prop := fun σ H Q => ta σ H fun vs H1 => ∃ v, vs ++ dvs = [v] ∧ ∀ d H2, H1 d = none → Same H1 H2 → H2 d = some (.xd [(f, v)]) → Q (.ref C) (some d) H2
theorem xi_end {K : PySem.W.Frag} {H1 : Hp} {C : Addr} {f : Str} {v : V} {Q : XK} (T : OexC K C) (no : PySem.W.findIn K (.ref C) f = some none) (h : ∀ d H2, H1 d = none → Same H1 H2 → H2 d = some (.xd [(f, v)]) → Q (.ref C) (some d) H2) (a : Addr) (na : H1 a = none) :
    spXi K f [.ref a, v] (upd H1 a (exo a C none)) (fun v H2 => v = .non ∧ ∃ (d : Addr) (fs : List (Str × V)), H2 a = some (exo a C (some d)) ∧ H2 d = some (exd d fs) ∧ H1 d = none ∧ Q (.ref C) (some d) (upd (del H2 a) d (.xd fs))) (fun _ _ _ => False) := by
  refine ⟨a, C, v, rfl, T, no, upd_same, fun dx n ne => ⟨rfl, dx, [(f, v)], upd_same, by rw [upd_ne ne, upd_same], by rw [upd_ne ne] at n; exact n, ?_⟩⟩
  rw [upd_ne ne] at n
  refine h dx _ n (fun c o e => ?_) upd_same
  have c1 := ne_of_none e n
  have c2 := ne_of_none e na
  rw [upd_ne c1, del_ne c2, upd_ne c2, upd_ne c1, upd_ne c2]
  exact e
section
variable {X : Cx}
theorem pmk_x {x f : Str} {C : Addr} {k : Nat} {dvs : List V} {e : Expr} {es : List Expr} {ta : TA} {p pos : Pos} (Z : Xcl X.prog X.w X.K X.mg X.base x C k f dvs) (hr : Room (k + 1) X.A) (hg : Gl X x) (ha : PA X (e :: es) ta) (mono : ∀ σ H (Q Q' : List V → Hp → Prop), (∀ vs H, Q vs H → Q' vs H) → ta σ H Q → ta σ H Q')
    (hdb : (x == ("__debug__" : Str)) = false := by decide) (he : starEach (e :: es) X.env = (false, eval e X.env) :: starEach es X.env := by rfl) (hpl : (backTo pos (starEach es X.env)).any (·.1) = false := by rfl) :
    PMk X (.Call (.Name x p) (e :: es) [] pos) (tXmk C f dvs ta) := by
  obtain ⟨fI, fd, ds, ps, iC, tI, F, hb, hd⟩ := Z.ex
  have M := pmk_oex (p := p) (pos := pos) Z.T iC tI F hr hb hd pass0 hg Z.hm ha hdb he hpl
  intro pins s σ H Q I h
  refine M pins s σ H Q I (mono _ _ _ _ (fun vs H1 ⟨v, ev, q⟩ => ⟨?_, fun a na => ?_⟩) h)
  · have := congrArg List.length ev
    simp only [List.length_append, List.length_cons, List.length_nil] at this
    omega
  · rw [ev]
    exact xi_end Z.T Z.no q a na
theorem pmk_x0 {x f : Str} {C : Addr} {k : Nat} {dvs : List V} {p pos : Pos} (Z : Xcl X.prog X.w X.K X.mg X.base x C k f dvs) (hr : Room (k + 1) X.A) (hg : Gl X x) (hdb : (x == ("__debug__" : Str)) = false := by decide) :
    PMk X (.Call (.Name x p) [] [] pos) (tXmk C f dvs tNil) := by
  obtain ⟨fI, fd, ds, ps, iC, tI, F, hb, hd⟩ := Z.ex
  have M := pmk_oex0 (p := p) (pos := pos) Z.T iC tI F hr hb hd pass0 hg Z.hm hdb
  intro pins s σ H Q I h
  obtain ⟨v, ev, q⟩ := h
  refine M pins s σ H Q I ⟨Nat.zero_le _, fun a na => ?_⟩
  rw [ev]
  exact xi_end Z.T Z.no q a na
/-- such an __init__ -/
theorem ok_xinit {P : Program} {w : World} {K : PySem.W.Frag} {mg : Str → Option Value} {base : Heap} {fI D : Addr} {fd : FuncData} {k : Nat} {qual x f par m : Str} {pa : Arguments} {sc : Scope} {dfl : List V} {kws : List (Str × V)} {j : Nat} {p1 p2 p3 p4 p5 p6 p7 p8 p9 p10 : Pos}
    (F : FunD K "__init__" qual pa [.Expr (.Call (.Attribute (.Name x p1) "__init__" p2) [.Name "self" p3, .Constant (.str m) j p4] [] p5) p6, .Assign [.Attribute (.Name "self" p7) f p8] (.Name par p9) p10] sc dfl kws fI fd) (S : FnScope ["self", par] ["self", par] sc)
    (hm : mg x = some (.ref D)) (hga : PySem.W.specialIn K (.ref D) "__getattribute__" = some (some (.builtin "type.__getattribute__"))) (hrd : PySem.W.readsIn K D (.type "type") = true) (vV : PySem.W.findCls K (.ref D) (.type "type") "__init__" = some (.val (.builtin "ValueError.__init__")))
    (hgl : sc.names.lookup x = some .globalImplicit) (v0 : Vis sc "self") (v1 : Vis sc par)
    (hc : ∀ (L g : Addr) (cd : Value), ∃ pl : Sem Bool, eval (.Call (.Attribute (.Name x p1) "__init__" p2) [.Name "self" p3, .Constant (.str m) j p4] [] p5) (envOfC qual sc L g cd) = (do
      let ov ← eval (.Name x p1) (envOfC qual sc L g cd)
      standAt p2.atName
      let (f, first) ← holding [ov] (getMethod ov "__init__" pl)
      callWith p5 f first (backTo p5 (starEach [.Name "self" p3, .Constant (.str m) j p4] (envOfC qual sc L g cd))) (backToKw p5 (keywordEach [] (envOfC qual sc L g cd)))))
    (hs : ∀ (L g : Addr) (cd : Value), swapsWith (.Name par p9) (some (.Attribute (.Name "self" p7) f p8)) p10.line (envOfC qual sc L g cd) = pure false)
    (hdb : (x == ("__debug__" : Str)) = false) (hd1 : (par == ("__debug__" : Str)) = false) (hcd1 : (par == ("__classdict__" : Str)) = false) : FnOk P w K mg base CX0 (k + 1) fI fd ["self", par] (spXi K f) := by
  refine F.ok S (fun vs H Q E ⟨a, C, v, e, _⟩ => by rw [e]; rfl) (fun cdv A outer s H vs Q E hr h => ?_)
  obtain ⟨pl, hc⟩ := hc s.heap.objs.size fI cdv
  refine ⟨_, pss_cons (ps_expr (pe_wrinit (D := D) (pl := pl) hgl hm hga hrd vV (pa_cons (pe_var (i := 0) rfl v0 (by decide) (by decide)) (pa_cons pe_str pa_nil)) hdb hc)) (pss_one (ps_ost (pe_var (i := 0) rfl v0 (by decide) (by decide)) (pe_var (i := 1) rfl v1 hd1 hcd1) (hs _ _ _))), ?_⟩
  obtain ⟨a, C, v, rfl, T, no, ha, q⟩ := h
  exact ⟨.ref a, rfl, a, C, [.str m], rfl, (by simp), T, ha, v, rfl, .ref a, rfl, a, C, rfl, T, no, .inl ⟨ha, q⟩⟩
end
end Bw

namespace Bw
open PySem PySem.Spec PyProof.Rows L2
/-! ### defs that may raise, as their callers want them -/
structure FnX (P : Program) (w : World) (K : PySem.W.Frag) (mg : Str → Option Value) (base : Heap) (x : Str) (k : Nat) (ps : List Str) (sp : Sp) : Prop where
  ex : ∃ (f : Addr) (fd : FuncData), FnOk P w K mg base (L2.CX P w) k f fd ps sp ∧ mg x = some (.ref f) ∧ PySem.W.keepIn K (.ref f) = true ∧ Binds K fd ps []
structure MeX (P : Program) (w : World) (K : PySem.W.Frag) (mg : Str → Option Value) (base : Heap) (C : Addr) (m : Str) (k : Nat) (ps : List Str) (sp : Sp) : Prop where
  ex : ∃ (f : Addr) (fd : FuncData), FnOk P w K mg base (L2.CX P w) k f fd ps sp ∧ Meth K C m f ∧ Binds K fd ps []
structure MkrX (P : Program) (w : World) (K : PySem.W.Frag) (mg : Str → Option Value) (base : Heap) (x : Str) (C : Addr) (k : Nat) (ps : List Str) (dvs : List V) (sp : Sp) : Prop where
  ex : ∃ (f : Addr) (fd : FuncData) (ds : List Value), Mk K C f ∧ FnOk P w K mg base (L2.CX P w) k f fd ps sp ∧ mg x = some (.ref C) ∧ Binds K fd ps ds ∧ Vals dvs ds
section
variable {X : Cx}
/-- what a callee lets out is let out -/
abbrev Lets (X : Cx) (E : XK) : Prop := Passes (L2.CX X.prog X.w) X E
theorem pe_fx {E : XK} {x : Str} {k : Nat} {ps : List Str} {sp : Sp} {e : Expr} {es : List Expr} {t : TA} {p pos : Pos} (F : FnX X.prog X.w X.K X.mg X.base x k ps sp) (hx : Lets X E) (hr : Room k X.A) (hg : Gl X x) (ha : PA X (e :: es) t)
    (hdb : (x == ("__debug__" : Str)) = false := by decide) (he : starEach (e :: es) X.env = (false, eval e X.env) :: starEach es X.env := by rfl) (hpl : (backTo pos (starEach es X.env)).any (·.1) = false := by rfl) :
    PE X (.Call (.Name x p) (e :: es) [] pos) (tCall sp [] E t) := by
  obtain ⟨f, fd, G, hm, hk, hb⟩ := F.ex
  exact pe_call G hr hg hm hk hb .nil hx ha hdb he hpl
theorem pe_mex {E : XK} {pl : Sem Bool} {C : Addr} {m : Str} {k : Nat} {ps : List Str} {sp : Sp} {o e : Expr} {es : List Expr} {t : TA} {ta : TE} {apos pos : Pos} (he : PE X o ta) (c : Cls X.K C) (M : MeX X.prog X.w X.K X.mg X.base C m k ps sp) (hx : Lets X E) (hr : Room k X.A) (ha : PA X (e :: es) t)
    (hst : starEach (e :: es) X.env = (false, eval e X.env) :: starEach es X.env := by rfl) (hpl : (backTo pos (starEach es X.env)).any (·.1) = false := by rfl)
    (ht : eval (.Call (.Attribute o m apos) (e :: es) [] pos) X.env = (do
      let ov ← eval o X.env
      standAt apos.atName
      let (f, first) ← holding [ov] (getMethod ov m pl)
      callWith pos f first (backTo pos (starEach (e :: es) X.env)) (backToKw pos (keywordEach [] X.env))) := by rfl) :
    PE X (.Call (.Attribute o m apos) (e :: es) [] pos) (tMeth C m sp [] E ta t) := by
  obtain ⟨f, fd, G, hm, hb⟩ := M.ex
  exact pe_meth he c hm G hr hb .nil hx ha hst hpl ht
theorem pe_mex0 {E : XK} {pl : Sem Bool} {C : Addr} {m : Str} {k : Nat} {ps : List Str} {sp : Sp} {o : Expr} {ta : TE} {apos pos : Pos} (he : PE X o ta) (c : Cls X.K C) (M : MeX X.prog X.w X.K X.mg X.base C m k ps sp) (hx : Lets X E) (hr : Room k X.A)
    (ht : eval (.Call (.Attribute o m apos) [] [] pos) X.env = (do
      let ov ← eval o X.env
      standAt apos.atName
      let (f, first) ← holding [ov] (getMethod ov m pl)
      callWith pos f first (backTo pos (starEach [] X.env)) (backToKw pos (keywordEach [] X.env))) := by rfl) :
    PE X (.Call (.Attribute o m apos) [] [] pos) (tMeth C m sp [] E ta tNil) := by
  obtain ⟨f, fd, G, hm, hb⟩ := M.ex
  exact pe_meth0 he c hm G hr hb .nil hx ht
theorem pe_mkx {E : XK} {x : Str} {C : Addr} {k : Nat} {ps : List Str} {dvs : List V} {sp : Sp} {e : Expr} {es : List Expr} {t : TA} {p pos : Pos} (M : MkrX X.prog X.w X.K X.mg X.base x C k ps dvs sp) (hx : Lets X E) (hr : Room (k + 1) X.A) (hg : Gl X x) (ha : PA X (e :: es) t)
    (hdb : (x == ("__debug__" : Str)) = false := by decide) (he : starEach (e :: es) X.env = (false, eval e X.env) :: starEach es X.env := by rfl) (hpl : (backTo pos (starEach es X.env)).any (·.1) = false := by rfl) :
    PE X (.Call (.Name x p) (e :: es) [] pos) (tMake C sp dvs E t) := by
  obtain ⟨f, fd, ds, M, G, hm, hb, hd⟩ := M.ex
  exact pe_make M G hr hg hm hb hd hx ha hdb he hpl
theorem pe_gcls {x : Str} {C : Addr} {p : Pos} (h : X.mg x = some (.ref C)) (hg : Gl X x) (hd : (x == ("__debug__" : Str)) = false := by decide) : PE X (.Name x p) (tC (.ref C)) := pe_glob (v := .ref C) hg h rfl hd
/-- X(), X an own exception class without own __init__ that stands above ValueError -/
structure XpV (K : PySem.W.Frag) (C : Addr) : Prop where
  q : PySem.W.excIn K C PySem.HandSPX.veTail "ValueError.__new__" = true
  kp : PySem.W.keepIn K (.ref C) = true
  h1 : PySem.W.subIn K (.ref C) (.type "BaseException") = some true
  h2 : PySem.W.typeIn K (.ref C) = some (.type "type")
theorem pmk_ownV {C : Addr} {x : Str} {p pos : Pos} (h : XpV X.K C) (gC : X.mg x = some (.ref C)) (hg : Gl X x) (hdb : (x == ("__debug__" : Str)) = false := by decide) : PMk X (.Call (.Name x p) [] [] pos) (fun _ H Q => Q (.ref C) none H) :=
  pmk_own0 F.excBase_ValueError h.q gC h.kp (raises_own h.h1 h.h2) hg hdb
theorem huH {k : Nat} {A : Around} (r : L2H.RoomH k A) : A.units + 65 < cLine := by have := r.un; omega
theorem lets0 : Lets X E0 := passL
theorem lets_of {E : XK} (tk : Takes X (fun cls d _ H => E cls d H)) : Lets X E := passes_call tk fun _ _ _ _ h => h
end
/-- a def's own wish -/
theorem takesX {P : Program} {w : World} {K : PySem.W.Frag} {mg : Str → Option Value} {base : Heap} {N : List Str} {qual : Str} {scope : Scope} {f : Addr} {cdv : Value} {A : Around} {outer : List Env} {s : Shared} {H : Hp} {E : XK} :
    Takes (cxOf (L2.CX P w) P w K mg base N qual scope f cdv A outer s H E) (fun cls d _ H => E cls d H) := takes_of rfl rfl rfl rfl
theorem takesLam {X : Cx} {A : Around} {outer : List Env} {s : Shared} {H : Hp} {E : XK} {scope : Scope} {f c' : Addr} : Takes (LamX.lamCx X A outer s H E scope f c') (fun cls d _ H => E cls d H) := takes_of rfl rfl rfl rfl
/-- what is never reached -/
theorem pss_no {X : Cx} {b : List Stmt} : PSs X b (fun _ _ _ => False) := ⟨fun _ _ _ _ _ _ h => h.elim⟩
/-! ### l.count(x) -/
section
variable {X : Cx}
def rCountD (K : PySem.W.Frag) : V → List V → Hp → VK → Prop := fun x xs H Q => ∃ (a : Addr) (y : V) (d : PyData) (ds : List PyData), x = V.ref a ∧ xs = [y] ∧ Dp K H (V.ref a) (.list ds) ∧ Dp K H y d ∧
  SeqAt.shaped (.list ds) = true ∧ SeqAt.shaped d = true ∧ Q (.int ((ds.countP fun z => PyData.eqv z d : Nat) : Int)) H
theorem mt_countD (hu : X.A.units + 65 < cLine) : MtR X "list.count" (rCountD X.K) := by
  intro pins s σ H x xs v us Q I rx rxs h
  obtain ⟨a, y, d, ds, rfl, rfl, hl, hy, sl, sd, q⟩ := h
  cases rx
  cases rxs with
  | cons ry rt =>
    rename_i uy ut
    cases rt
    obtain ⟨bs, r1⟩ := Dp.reads I d y uy hy ry
    have hroom : X.A.units + 1 + min (PyData.depthAll ds) d.depth < cLine := room_in_shaped sd hu
    have cl : PyData.canLayAll0 ds = true := SeqAt.canLay_of_shaped sl
    cases hl with
    | lst hs ha =>
      obtain ⟨its, rv, ⟨⟨cls, dd, data, sls⟩, n, ho, hc, hdn, hdt⟩, hlen⟩ := I.list hs
      simp only at hc hdt
      subst hc hdt
      obtain ⟨as, h4⟩ := Dp.readsAll I ds _ its ha rv
      have hmap : its.map (SeqAt.readOf s.heap) = ds := SeqAt.readsAll_map ds its as cl h4
      have ec : (ds.countP fun z => PyData.eqv z d) = its.toArray.toList.countP (fun u => PyData.eqv (SeqAt.readOf s.heap u) d) := by
        rw [← hmap, List.countP_map]
        rfl
      rw [ec] at q
      exact call_meets PySem.F.slot_list_count ⟨_, ho, rfl⟩ PySem.F.entry_list_count (PySem.F.args_list_count_2 _ _) (SeqAt.list_countAt a its.toArray n dd sls uy (fun u => PyData.eqv (SeqAt.readOf s.heap u) d))
        ⟨ho, SeqAt.items_eqAt (vs := its.toArray) (show ReadsAll s.heap its.toArray.toList ds as from h4) r1 cl (SeqAt.canLay_of_shaped sd) hroom, ⟨.int _, H, I.tok _, ⟨_, rfl⟩, q⟩⟩
end
/-! ### the caught exception within an except suite and the defs that are called there -/
/-- its dict, where it has one, is known -/
def XdOk (d : Option Addr) (H : Hp) : Prop := ∀ dd, d = some dd → ∃ fs, H dd = some (.xd fs)
section
variable {X : Cx}
theorem inst_pin {pins : List (Addr × Obj)} {σ : L2.St} {H : Hp} {s : Shared} {a D : Addr} {d : Option Addr} {oe : Obj} (I : Inv X pins σ H s) (hp : (a, oe) ∈ X.pn) (hz : Zc (.ref D) d oe) (hf : ∃ vs, oe.data = .fields vs) (hd : XdOk d H) : ∃ od, PySem.W.InstAt s.heap a oe D od := by
  obtain ⟨hget, _⟩ := I.pin (a, oe) (List.mem_append.mpr (.inl hp))
  obtain ⟨vs, hv⟩ := hf
  obtain ⟨z1, z2⟩ := hz
  have nc : PySem.W.notCls oe = true := by unfold PySem.W.notCls; rw [hv] <;> rfl
  cases d with
  | none => exact ⟨none, hget, z1, nc, by rw [z2]; trivial⟩
  | some dd =>
    obtain ⟨fs, e⟩ := hd dd rfl
    have hx : ObjOk X.prog X.w H s.heap dd (.xd fs) := I.hok dd _ e
    obtain ⟨mA, hns, hr⟩ := hx
    obtain ⟨od, ho, hl⟩ := lookIn_ns hns
    exact ⟨some od, hget, z1, nc, by rw [z2]; exact ho⟩
/-- isinstance(e, C) -/
def rIsP (K : PySem.W.Frag) (a : Addr) (cls : Value) (d : Option Addr) : List V → Hp → VK → Prop := fun xs H Q => ∃ (D : Addr) (c : V) (cv : Value) (b : Bool), cls = .ref D ∧ ExcC K D ∧ xs = [.ref a, c] ∧ ClsV c cv ∧ PySem.W.kitOne K (.ref D) cv = some b ∧ XdOk d H ∧ Q (.bl b) H
theorem kit_pin {a D : Addr} {oe : Obj} {od : Option Obj} (C : ExcC X.K D) : PySem.W.KitX X.K (.ref a) (.ref D) (fun h => PySem.W.InstAt h a oe D od) :=
  PySem.W.kitx_exc (by obtain ⟨cd, hc, _⟩ := PySem.W.any_some C.hd; rw [hc]; rfl) C.hg C.hk C.hs C.ha C.hn C.ht C.hm
theorem call_isP {a : Addr} {cls : Value} {d : Option Addr} {oe : Obj} (hp : (a, oe) ∈ X.pn) (hz : Zc cls d oe) (hf : ∃ vs, oe.data = .fields vs) : CallR X (.builtin "isinstance") (rIsP X.K a cls d) := by
  intro pins s σ H xs us Q I r h
  obtain ⟨D, c, cv, b, rfl, C, rfl, hcv, e, hx, q⟩ := h
  obtain ⟨od, J⟩ := inst_pin I hp hz hf hx
  obtain ⟨u1, u2, rfl, r1, r2⟩ := vals2 r
  cases (show u1 = Value.ref a from r1)
  have ec := hcv.eq r2
  subst ec
  exact PySem.W.kia_one (kit_pin C) I.kIn J e (fun z => nomatch z) fun tk => ⟨.bl b, H, I.tok tk, rfl, q⟩
/-- isinstance(e, (C1, C2, ..)) -/
def rIsPT (K : PySem.W.Frag) (a : Addr) (cls : Value) (d : Option Addr) : List V → Hp → VK → Prop := fun xs H Q => ∃ (D tp : Addr) (cs : List V) (us : List Value) (b : Bool), cls = .ref D ∧ ExcC K D ∧ xs = [.ref a, .ref tp] ∧ H tp = some (.tup cs) ∧ Paired ClsV cs us ∧ PySem.W.kitAny K (.ref D) us = some b ∧ XdOk d H ∧ Q (.bl b) H
theorem call_isPT {a : Addr} {cls : Value} {d : Option Addr} {oe : Obj} (hp : (a, oe) ∈ X.pn) (hz : Zc cls d oe) (hf : ∃ vs, oe.data = .fields vs) : CallR X (.builtin "isinstance") (rIsPT X.K a cls d) := by
  intro pins s σ H xs us Q I r h
  obtain ⟨D, tp, cs, ws, b, rfl, C, rfl, hT, k, e, hx, q⟩ := h
  obtain ⟨od, J⟩ := inst_pin I hp hz hf hx
  obtain ⟨u1, u2, rfl, r1, r2⟩ := vals2 r
  cases (show u1 = Value.ref a from r1)
  cases (show u2 = Value.ref tp from r2)
  obtain ⟨_, its, rv, o, h1, h2, n, h3⟩ := (show ObjOk X.prog X.w H s.heap tp (.tup cs) from I.hok tp _ hT)
  have e3 := ClsV.all k rv
  subst e3
  obtain ⟨oc, od', dt, sl⟩ := o
  simp only at h2 h3
  subst h2 h3
  exact PySem.W.kia_tup (kit_pin C) I.kIn J h1 e (fun z => nomatch z) fun tk => ⟨.bl b, H, I.tok tk, rfl, q⟩
/-- e.f -/
def tXfc (K : PySem.W.Frag) (a : Addr) (cls : Value) (d : Option Addr) (f : Str) (te : TE) : TE := fun σ H Q => te σ H fun x H1 => ∃ (D dd : Addr) (fs : List (Str × V)) (v : V), x = .ref a ∧ cls = .ref D ∧ ExcC K D ∧ PySem.W.findIn K (.ref D) f = some none ∧ d = some dd ∧ H1 dd = some (.xd fs) ∧ fs.lookup f = some v ∧ Q v H1
theorem pe_xfc {a : Addr} {oe : Obj} {cls : Value} {d : Option Addr} {e : Expr} {te : TE} {pos : Pos} {n : Str} (hp : (a, oe) ∈ X.pn) (hz : Zc cls d oe) (hf : ∃ vs, oe.data = .fields vs) (he : PE X e te) (hb : attributeBase e n X.env (eval e X.env) = eval e X.env := by rfl) :
    PE X (.Attribute e n pos) (tXfc X.K a cls d n te) := by
  refine ⟨fun pins s σ H Q I h => ?_⟩
  refine attr_of hb (thn (he.run pins s σ H _ I h) fun u s1 hh => ?_)
  obtain ⟨x, H1, I1, rx, D, dd, fs, v, ex, ec, C, no, ed, ea, l, q⟩ := hh
  subst ex ec ed
  cases (show u = Value.ref a from rx)
  obtain ⟨ha, _⟩ := I1.pin (a, oe) (List.mem_append_left _ hp)
  obtain ⟨vs, hd⟩ := hf
  obtain ⟨mA, hns, hr⟩ := (show ObjOk X.prog X.w H1 s1.heap dd (.xd fs) from I1.hok dd _ ea)
  obtain ⟨od, ho, hl⟩ := lookIn_ns hns
  obtain ⟨u, hu, ru⟩ := RelO.some_of (v := v) (o := mA n) (by rw [← l]; exact hr n)
  have J : PySem.W.InstAt s1.heap a oe D (some od) := ⟨ha, hz.1, by unfold PySem.W.notCls; rw [hd] <;> rfl, by rw [hz.2]; exact ho⟩
  exact HandSPX.exc_get I1.kIn J C.hg C.hk C.hs (PySem.W.findObj_own C.hd no rfl (by rw [hl, hu])) (handed_of ru) ⟨v, H1, I1.tok _, ru, q⟩
end
/-! ### a def that is called with the caught exception -/
abbrev SpP := Addr × Obj → List V → Hp → VK → Prop
structure FnP0 (P : Program) (w : World) (K : PySem.W.Frag) (mg : Str → Option Value) (base : Heap) (k : Nat) (f : Addr) (fd : FuncData) (ps : List Str) (sp : SpP) : Prop where
  len : ∀ p vs H Q, sp p vs H Q → vs.length = ps.length
  run : ∀ (A : Around) (outer : List Env) (s : Shared) (H : Hp) (args : Args) (us : List Value) (vs : List V) (Q : VK) (p : Addr × Obj), L2H.RoomH k A → L2H.PinOk outer H s p → Env0 P w K mg base A outer s H → BindsTo s fd args (ps.zip us) → Vals vs us → sp p vs H Q →
    codeAny (model P w) A (.call (.ref f) args) (CR CX0 outer P w H s Q E0) s
theorem Fun.okP {P : Program} {w : World} {K : PySem.W.Frag} {mg : Str → Option Value} {base : Heap} {x qual : Str} {st : Stmt} {f : Addr} {fd : FuncData} {N ps : List Str} {k : Nat} {sp : SpP} (F : Fun K x qual st f fd) (S : FnScope N ps (defScope st)) (len : ∀ p vs H Q, sp p vs H Q → vs.length = ps.length)
    (hbody : ∀ (cdv : Value) (A : Around) (outer : List Env) (s : Shared) (H : Hp) (vs : List V) (Q : VK) (p : Addr × Obj), L2H.RoomH k (A.deeper (envOfC qual (defScope st) s.heap.objs.size f cdv)) → sp p vs H Q →
      ∃ t, PSs (L2H.cxH CX0 P w K mg base N qual (defScope st) f cdv A outer s H E0 p).nox (defBody st) t ∧ t { nx := fun _ H' => Q .non H', rt := Q } (L2.start N vs) H) : FnP0 P w K mg base (k + 1) f fd ps sp := by
  obtain ⟨oc, od, kV, doc, pm, an, cdv, ct, osl, rfl, lk, hcd⟩ := F.ex
  refine ⟨len, fun A outer s H args us vs Q p hr hpin e0 hb r hsp => ?_⟩
  have hl := len _ _ _ _ hsp
  have KX : K.In s.heap := e0.mod.kin.keeps fun b o e => (e0.bs b o e).1
  refine codeAny_call_function hr.depth (KX _ _ lk) rfl S.co S.gen rfl (PySem.W.codeRec_of KX hcd) (hb _ _ _ _ ?_)
  have hkind : ∀ y ∈ ps.zip us, (defScope st).names.lookup y.1 = some .local ∨ ((defScope st).names.lookup y.1 = some .cell ∧ ((cellsFrom (s.heap.objs.size + 1) (defScope st).names []).lookup y.1).isSome = true) := by
    intro y hy
    obtain ⟨n, v⟩ := y
    exact (S.par n (List.of_mem_zip hy).1).imp id fun q => ⟨q, PySem.W.cellsFrom_some _ _ _ (.inl q)⟩
  refine wpAny_newFunctionEnv_cells S.kind hkind fun env he s1 x => ?_
  subst he
  refine ⟨(e0.mod.nolimit.keeps fun b o e => (e0.bs b o e).1).keeps x.toInCall.keep, codeAny_func ?_⟩
  obtain ⟨t, ht, hq⟩ := hbody cdv A outer s H vs Q p (hr.deeper _) hsp
  refine wpAny_mono (ht.nox.run [] s1 (L2.start N vs) H _ (L2H.inv_startH S hpin e0 hl r x) hq) (fun fl s' hs => ?_) fun e s' hs => hs
  have fin : ∀ {σ' : L2.St} {H' : Hp} {v : V} {u : Value}, Inv (L2H.cxH CX0 P w K mg base N qual (defScope st) f cdv A outer s H E0 p) [] σ' H' s' → RelV v u → Q v H' → CE outer P w H s Q u s' :=
    fun {σ' H' v u} J rv q => ⟨v, H', J.os, J.bare, J.base, J.hok, rv, q⟩
  match fl, hs with
  | .ret u, ⟨v, σ', H', J, rv, q⟩ => exact fin J rv q
  | .next, ⟨σ', H', J, q⟩ => exact fin (v := V.non) (u := Value.none) J rfl q
  | .brk, ⟨_, _, _, q⟩ => exact q.elim
  | .cont, ⟨_, _, _, q⟩ => exact q.elim
structure FnP (P : Program) (w : World) (K : PySem.W.Frag) (mg : Str → Option Value) (base : Heap) (x : Str) (k : Nat) (ps : List Str) (sp : SpP) : Prop where
  ex : ∃ (f : Addr) (fd : FuncData), FnP0 P w K mg base k f fd ps sp ∧ mg x = some (.ref f) ∧ PySem.W.keepIn K (.ref f) = true ∧ Binds K fd ps []
def tCallP (sp : SpP) (a : Addr) (cls : Value) (d : Option Addr) (t : TA) : TE := fun σ H Q => t σ H fun vs H1 => ∀ oe : Obj, Zc cls d oe → (∃ vs, oe.data = .fields vs) → sp (a, oe) vs H1 Q
theorem pe_fp {X : Cx} {x : Str} {k : Nat} {ps : List Str} {sp : SpP} {e : Expr} {es : List Expr} {t : TA} {q pos : Pos} {a : Addr} {oe : Obj} {cls : Value} {d : Option Addr} (F : FnP X.prog X.w X.K X.mg X.base x k ps sp) (hp : (a, oe) ∈ X.pn) (hz : Zc cls d oe) (hf : ∃ vs, oe.data = .fields vs) (hr : L2H.RoomH k X.A) (hg : Gl X x) (ha : PA X (e :: es) t)
    (hdb : (x == ("__debug__" : Str)) = false := by decide) (he : starEach (e :: es) X.env = (false, eval e X.env) :: starEach es X.env := by rfl) (hpl : (backTo pos (starEach es X.env)).any (·.1) = false := by rfl) :
    PE X (.Call (.Name x q) (e :: es) [] pos) (tCallP sp a cls d t) := by
  obtain ⟨f, fd, G, hm, hk, hb⟩ := F.ex
  refine ⟨fun pins s σ H Q I h => ?_⟩
  refine wpAny_Call_Name_kw (ld_glob I hg hm ?_ hdb)
  refine PySem.W.callWith_K (h₀ := X.base) I.ok.mod.kin hk (thn (ha.run pos pins s σ H _ I h) fun us s1 ⟨vs, H1, I1, r, q⟩ => ⟨I1.kIn, ?_⟩) he hpl
  have q := q oe hz hf
  have hl : us.length = ps.length := by rw [← r.length]; exact G.len _ _ _ _ q
  have b := hb s1 us I1.kIn (by rw [List.append_nil]; exact hl)
  rw [List.append_nil] at b
  have P1 := I1.pin (a, oe) (List.mem_append_left _ hp)
  have hpin : L2H.PinOk X.stack H1 s1 (a, oe) := ⟨P1.1, P1.2.1, fun hm => (List.mem_cons.mp (I1.stkSub a hm)).elim P1.2.2.1 P1.2.2.2.1, P1.2.2.2.2⟩
  show wpAny _ _ (call (.ref f) us) _ _ _
  refine wpAny_call (codeAny_mono (G.run X.A X.stack s1 H1 ⟨us, []⟩ us vs Q (a, oe) hr hpin I1.env0 b r q) fun r s' hq => ?_)
  match r, hq with
  | .error e, hq => exact False.elim hq
  | .ok (.ret u), hq => exact I1.after hq
  | .ok .next, hq => exact False.elim hq
  | .ok .brk, hq => exact False.elim hq
  | .ok .cont, hq => exact False.elim hq
theorem roomH_mark {k : Nat} {A : Around} {v : Option Value} (r : L2.Room k A) : L2H.RoomH k (A.mark v) := ⟨r.dp, r.un⟩
end Bw

namespace Bw
open PySem PySem.Spec PyProof.Rows L2
/-! ### the classes of the errors; what is told of one -/
structure Zs where
  (Wrong NoWord NoText NoNumber NoSize NoLengths NoQuery NoCode NoRow NoEntries NoQueryText NoPages NoName NoQueries NoShelf NoDeed Taken NoPlace NoSlot : Addr)
def Zs.sixteen (Z : Zs) : List Addr := [Z.NoCode, Z.NoDeed, Z.NoEntries, Z.NoLengths, Z.NoName, Z.NoNumber, Z.NoPages, Z.NoQueries, Z.NoQuery, Z.NoQueryText, Z.NoRow, Z.NoShelf, Z.NoSize, Z.NoText, Z.NoWord, Z.Taken]
def kindNames : List Str := ["code", "deed", "entries", "lengths", "name", "number", "pages", "queries", "query", "text of query", "row", "shelf", "size", "text", "word", "taken"]
def Zs.five (Z : Zs) : List Value := [.ref Z.NoCode, .ref Z.NoEntries, .ref Z.NoPages, .ref Z.NoQueryText, .ref Z.NoRow]
def excB (K : PySem.W.Frag) (D : Addr) : Bool :=
  decide (PySem.W.findIn K (.ref D) "__getattribute__" = some (some (.builtin "BaseException.__getattribute__"))) && (decide (PySem.W.findIn K (.ref D) "__getattr__" = some none) && (decide (PySem.W.subIn K (.ref D) (.type "BaseException") = some true) && (PySem.W.hasDictIn K D && (
  decide (PySem.W.findIn K (.ref D) "__class__" = some (some (.builtin "object.__class__"))) && (decide (PySem.W.specialIn K (.builtin "object.__class__") "__get__" = some (some (.builtin "getset_descriptor.__get__"))) && (decide (PySem.W.takesIn K (.builtin "object.__class__") = some true) && decide (PySem.W.mroIn K D (.type "object") = some true)))))))
theorem excB_ok {K : PySem.W.Frag} {D : Addr} (h : excB K D = true) : ExcC K D := by
  unfold excB at h
  simp only [Bool.and_eq_true, decide_eq_true_eq] at h
  obtain ⟨h1, h2, h3, h4, h5, h6, h7, h8⟩ := h
  exact ⟨h1, h2, h3, h4, h5, h6, h7, h8⟩
/-- one of the sixteen, and which -/
def kindB (K : PySem.W.Frag) (Z : Zs) (D : Addr) (i : Nat) : Bool :=
  excB K D && ((Z.sixteen.zipIdx.all fun x => decide (PySem.W.kitOne K (.ref D) (.ref x.1) = some (decide (x.2 = i)))) && (decide (PySem.W.kitOne K (.ref D) (.type "ValueError") = some true) && decide (PySem.W.kitAny K (.ref D) [.ref Z.NoPlace, .ref Z.NoSlot] = some false)))
structure KindOk (K : PySem.W.Frag) (Z : Zs) (D : Addr) (i : Nat) : Prop where
  ex : ExcC K D
  is : ∀ (j : Nat) (C : Addr), Z.sixteen[j]? = some C → PySem.W.kitOne K (.ref D) (.ref C) = some (decide (j = i))
  ve : PySem.W.kitOne K (.ref D) (.type "ValueError") = some true
  ix : PySem.W.kitAny K (.ref D) [.ref Z.NoPlace, .ref Z.NoSlot] = some false
theorem kindB_ok {K : PySem.W.Frag} {Z : Zs} {D : Addr} {i : Nat} (h : kindB K Z D i = true) : KindOk K Z D i := by
  unfold kindB at h
  simp only [Bool.and_eq_true, decide_eq_true_eq, List.all_eq_true] at h
  obtain ⟨h1, h2, h3, h4⟩ := h
  refine ⟨excB_ok h1, fun j C e => ?_, h3, h4⟩
  exact h2 (C, j) (by
    rw [List.mem_iff_getElem?]
    exact ⟨j, by simp [List.getElem?_zipIdx, e]⟩)
/-- by the first clause: with its place -/
def howAtB (K : PySem.W.Frag) (Z : Zs) (D : Addr) (i : Nat) : Bool := kindB K Z D i && (decide (PySem.W.findIn K (.ref D) "at" = some none) && decide (PySem.W.exmAny K (.ref D) Z.five = some true))
structure HowAt (K : PySem.W.Frag) (Z : Zs) (D : Addr) (i : Nat) : Prop where
  k : KindOk K Z D i
  no : PySem.W.findIn K (.ref D) "at" = some none
  c1 : PySem.W.exmAny K (.ref D) Z.five = some true
theorem howAtB_ok {K : PySem.W.Frag} {Z : Zs} {D : Addr} {i : Nat} (h : howAtB K Z D i = true) : HowAt K Z D i := by
  unfold howAtB at h
  simp only [Bool.and_eq_true, decide_eq_true_eq] at h
  exact ⟨kindB_ok h.1, h.2.1, h.2.2⟩
/-- by the second clause -/
def howPlB (K : PySem.W.Frag) (Z : Zs) (D : Addr) (i : Nat) : Bool := kindB K Z D i && (decide (PySem.W.exmAny K (.ref D) Z.five = some false) && decide (PySem.W.exmAny K (.ref D) [.ref Z.Wrong] = some true))
structure HowPl (K : PySem.W.Frag) (Z : Zs) (D : Addr) (i : Nat) : Prop where
  k : KindOk K Z D i
  c1 : PySem.W.exmAny K (.ref D) Z.five = some false
  c2 : PySem.W.exmAny K (.ref D) [.ref Z.Wrong] = some true
theorem howPlB_ok {K : PySem.W.Frag} {Z : Zs} {D : Addr} {i : Nat} (h : howPlB K Z D i = true) : HowPl K Z D i := by
  unfold howPlB at h
  simp only [Bool.and_eq_true, decide_eq_true_eq] at h
  exact ⟨kindB_ok h.1, h.2.1, h.2.2⟩
/-- by the third clause: no place (b), no slot (not b) -/
def howIxB (K : PySem.W.Frag) (Z : Zs) (D : Addr) (b : Bool) : Bool := excB K D && (decide (PySem.W.exmAny K (.ref D) Z.five = some false) && (decide (PySem.W.exmAny K (.ref D) [.ref Z.Wrong] = some false) && (decide (PySem.W.exmAny K (.ref D) [.ref Z.NoPlace, .ref Z.NoSlot] = some true) &&
  (decide (PySem.W.kitOne K (.ref D) (.type "IndexError") = some true) && (decide (PySem.W.kitOne K (.ref D) (.ref Z.NoPlace) = some b) && decide (PySem.W.kitOne K (.ref D) (.ref Z.NoSlot) = some (!b)))))))
structure HowIx (K : PySem.W.Frag) (Z : Zs) (D : Addr) (b : Bool) : Prop where
  ex : ExcC K D
  c1 : PySem.W.exmAny K (.ref D) Z.five = some false
  c2 : PySem.W.exmAny K (.ref D) [.ref Z.Wrong] = some false
  c3 : PySem.W.exmAny K (.ref D) [.ref Z.NoPlace, .ref Z.NoSlot] = some true
  ie : PySem.W.kitOne K (.ref D) (.type "IndexError") = some true
  np : PySem.W.kitOne K (.ref D) (.ref Z.NoPlace) = some b
  ns : PySem.W.kitOne K (.ref D) (.ref Z.NoSlot) = some (!b)
theorem howIxB_ok {K : PySem.W.Frag} {Z : Zs} {D : Addr} {b : Bool} (h : howIxB K Z D b = true) : HowIx K Z D b := by
  unfold howIxB at h
  simp only [Bool.and_eq_true, decide_eq_true_eq] at h
  obtain ⟨h1, h2, h3, h4, h5, h6, h7⟩ := h
  exact ⟨excB_ok h1, h2, h3, h4, h5, h6, h7⟩
/-! ### what the teller of the kind promises -/
def spKind (K : PySem.W.Frag) (Z : Zs) : SpP := fun p vs H Q => ∃ (D : Addr) (d : Option Addr) (i : Nat) (nm : Str), vs = [.ref p.1] ∧ Zc (.ref D) d p.2 ∧ (∃ vs, p.2.data = .fields vs) ∧ KindOk K Z D i ∧ XdOk d H ∧ kindNames[i]? = some nm ∧ ∀ H', Same H H' → Q (.str nm) H'
/-- what the asker makes of a raised one -/
def howE (K : PySem.W.Frag) (Z : Zs) (Q : VK) : XK := fun cls d H => ∃ D : Addr, cls = .ref D ∧
  ((∃ (i : Nat) (nm : Str), HowPl K Z D i ∧ kindNames[i]? = some nm ∧ XdOk d H ∧ ∀ H', Same H H' → Q (.str nm) H') ∨
   (∃ (i : Nat) (nm : Str) (dd : Addr) (v : V) (tv : String), HowAt K Z D i ∧ kindNames[i]? = some nm ∧ d = some dd ∧ H dd = some (.xd [("at", v)]) ∧ TyX K H v (.type tv) ∧ kitB tv "bool" = some false ∧ ∀ p H', H p = none → Same H H' → H' p = some (.tup [.str nm, v]) → Q (.ref p) H') ∨
   (∃ b : Bool, HowIx K Z D b ∧ XdOk d H ∧ ∀ H', Same H H' → Q (.str (if b then "no place" else "no slot")) H'))
def TTHow (K : PySem.W.Frag) (Z : Zs) : (XK → Hp → VK → Prop) → Hp → VK → Prop := fun tl H Q => tl (howE K Z Q) H (fun _ H' => Q (.str "told") H')
theorem cnt16 {i : Nat} (h : i < 16) : ((([decide (0 = i), decide (1 = i), decide (2 = i), decide (3 = i), decide (4 = i), decide (5 = i), decide (6 = i), decide (7 = i), decide (8 = i), decide (9 = i), decide (10 = i), decide (11 = i), decide (12 = i), decide (13 = i), decide (14 = i), decide (15 = i)] : List Bool).count true : Nat) : Int) = 1 := by
  have : ∀ i, i < 16 → ((([decide (0 = i), decide (1 = i), decide (2 = i), decide (3 = i), decide (4 = i), decide (5 = i), decide (6 = i), decide (7 = i), decide (8 = i), decide (9 = i), decide (10 = i), decide (11 = i), decide (12 = i), decide (13 = i), decide (14 = i), decide (15 = i)] : List Bool).count true : Nat) : Int) = 1 := by decide
  exact this i h
theorem idx16 {i : Nat} (h : i < 16) : ([decide (0 = i), decide (1 = i), decide (2 = i), decide (3 = i), decide (4 = i), decide (5 = i), decide (6 = i), decide (7 = i), decide (8 = i), decide (9 = i), decide (10 = i), decide (11 = i), decide (12 = i), decide (13 = i), decide (14 = i), decide (15 = i)] : List Bool)[i]? = some true := by
  have : ∀ i, i < 16 → ([decide (0 = i), decide (1 = i), decide (2 = i), decide (3 = i), decide (4 = i), decide (5 = i), decide (6 = i), decide (7 = i), decide (8 = i), decide (9 = i), decide (10 = i), decide (11 = i), decide (12 = i), decide (13 = i), decide (14 = i), decide (15 = i)] : List Bool)[i]? = some true := by decide
  exact this i h
theorem bef16 {i : Nat} (h : i < 16) (m : Nat) (hm : m < i) : ([decide (0 = i), decide (1 = i), decide (2 = i), decide (3 = i), decide (4 = i), decide (5 = i), decide (6 = i), decide (7 = i), decide (8 = i), decide (9 = i), decide (10 = i), decide (11 = i), decide (12 = i), decide (13 = i), decide (14 = i), decide (15 = i)] : List Bool)[m]? ≠ some true := by
  have : ∀ i, i < 16 → ∀ m, m < i → ([decide (0 = i), decide (1 = i), decide (2 = i), decide (3 = i), decide (4 = i), decide (5 = i), decide (6 = i), decide (7 = i), decide (8 = i), decide (9 = i), decide (10 = i), decide (11 = i), decide (12 = i), decide (13 = i), decide (14 = i), decide (15 = i)] : List Bool)[m]? ≠ some true := by decide
  exact this i h m hm
theorem nam16 {i : Nat} {nm : Str} (h : kindNames[i]? = some nm) : atI (kindNames.map V.str) (i : Int) = some (.str nm) := atI_nat (by rw [List.getElem?_map, h]; rfl)
theorem takes_len {X : Cx} {W : WX} (tk : Takes X W) : Takes X (fun cls d σ H => σ.length = X.N.length → W cls d σ H) := fun u s' x => by
  obtain ⟨a, B, sI, pins, σ, H, cls, d, e, I, nb, up, sky, na, os, ag, w⟩ := x
  exact tk u s' ⟨a, B, sI, pins, σ, H, cls, d, e, I, nb, up, sky, na, os, ag, w I.len⟩
theorem two_of {σ : L2.St} (h : σ.length = 2) : ∃ x y, σ = [x, y] := by
  match σ, h with
  | [x, y], _ => exact ⟨x, y, rfl⟩
/-- a suite, by any reading of it -/
def tAny (X : Cx) (b : List Stmt) (a : Addr) (cls : Value) (d : Option Addr) : TS := fun D σ H => ∀ (oe : Obj) (pn : List (Addr × Obj)), Zc cls d oe → (∃ vs, oe.data = .fields vs) → ∃ t : TS, PSs (X.suite a ((a, oe) :: pn)) b t ∧ t D σ H
theorem pss_any {X : Cx} {b : List Stmt} (a : Addr) (oe : Obj) (cls : Value) (d : Option Addr) (pn : List (Addr × Obj)) (hz : Zc cls d oe) (hf : ∃ vs, oe.data = .fields vs) : PSs (X.suite a ((a, oe) :: pn)) b (tAny X b a cls d) :=
  ⟨fun pins s σ H D I h => by
    obtain ⟨t, ht, hq⟩ := h oe pn hz hf
    exact ht.run pins s σ H D I hq⟩
theorem same_free {H H' : Hp} {p : Addr} (e : Same H H') (n : H' p = none) : H p = none := by
  cases h : H p with
  | none => rfl
  | some o => rw [e p o h] at n; cases n
theorem iteT' {A B : Prop} {b : Bool} (hb : b = true) (h : A) : if b = true then A else B := by rw [if_pos hb]; exact h
theorem iteF' {A B : Prop} {b : Bool} (hb : b = false) (h : B) : if b = true then A else B := by rw [if_neg (by rw [hb]; exact Bool.false_ne_true)]; exact h
/-! ### steps -/
section
variable {K : PySem.W.Frag} {H H' : Hp} {Q : VK} {σ : L2.St} {a : Addr} {cls : Value} {d : Option Addr}
theorem XdOk.same (h : XdOk d H) (e : Same H H') : XdOk d H' := fun dd q => by
  obtain ⟨fs, w⟩ := h dd q
  exact ⟨fs, e dd _ w⟩
theorem xdOk_at {dd : Addr} {fs : List (Str × V)} (h : H dd = some (.xd fs)) : XdOk (some dd) H := fun d' q => by
  cases q
  exact ⟨fs, h⟩
theorem xdOk_none : XdOk none H := fun d' q => by cases q
theorem w_isP {D C : Addr} {b : Bool} (hE : ExcC K D) (hk : PySem.W.kitOne K (.ref D) (.ref C) = some b) (hx : XdOk d H) (q : Q (.bl b) H) : rIsP K a (.ref D) d [.ref a, .ref C] H Q := ⟨D, .ref C, .ref C, b, rfl, hE, rfl, .own C, hk, hx, q⟩
theorem w_isPt {D : Addr} {n : String} {b : Bool} (hE : ExcC K D) (hk : PySem.W.kitOne K (.ref D) (.type n) = some b) (hx : XdOk d H) (q : Q (.bl b) H) : rIsP K a (.ref D) d [.ref a, .ty n] H Q := ⟨D, .ty n, .type n, b, rfl, hE, rfl, .ty n, hk, hx, q⟩
theorem w_isPT {D tp C1 C2 : Addr} {b : Bool} (hE : ExcC K D) (hT : H tp = some (.tup [.ref C1, .ref C2])) (hk : PySem.W.kitAny K (.ref D) [.ref C1, .ref C2] = some b) (hx : XdOk d H) (q : Q (.bl b) H) : rIsPT K a (.ref D) d [.ref a, .ref tp] H Q :=
  ⟨D, tp, _, _, b, rfl, hE, rfl, hT, .cons (.own C1) (.cons (.own C2) .nil), hk, hx, q⟩
theorem w_bmL {T : String} {r : V → List V → Hp → VK → Prop} {to : TE} {t : TA} (h : to σ H fun x H1 => tyV K T x H1 ∧ t σ H1 fun xs H2 => r x xs H2 Q) : tBM K T r to t σ H Q := h
theorem w_bm0 {T : String} {r : V → List V → Hp → VK → Prop} {to : TE} (h : to σ H fun x H1 => tyV K T x H1 ∧ r x [] H1 Q) : tBM0 K T r to σ H Q := h
theorem w_tyL {R : Prop} {xs : List V} (h : SqL K H a xs) (q : R) : tyV K "list" (.ref a) H ∧ R := ⟨.inl ⟨rfl, xs, h⟩, q⟩
theorem dpAll_bl : ∀ bs : List Bool, DpAll K H (bs.map V.bl) (bs.map PyData.bool)
  | [] => .nil
  | b :: r => .cons (.bl b) (dpAll_bl r)
theorem depth_bl : ∀ bs : List Bool, PyData.depthAll (bs.map PyData.bool) = 0
  | [] => rfl
  | b :: r => by simp [PyData.depthAll, PyData.depth, depth_bl r]
theorem lay_bl : ∀ bs : List Bool, PyData.canLayAll0 (bs.map PyData.bool) = true
  | [] => by simp [PyData.canLayAll0]
  | b :: r => by simp [PyData.canLayAll0, PyData.canLay0, lay_bl r]
theorem shaped_bl (bs : List Bool) : SeqAt.shaped (.list (bs.map PyData.bool)) = true := by
  simp [SeqAt.shaped, PyData.canLay0, lay_bl, PyData.depth, depth_bl]
theorem count_bl : ∀ bs : List Bool, (bs.map PyData.bool).countP (fun z => PyData.eqv z (.bool true)) = bs.count true
  | [] => rfl
  | b :: r => by
    rw [List.map_cons, List.countP_cons, List.count_cons, count_bl r]
    cases b <;> simp [PyData.eqv]
theorem w_countT {xs : List V} {n : Int} (bs : List Bool) (e : xs = bs.map V.bl) (h : SqL K H a xs) (hn : ((bs.count true : Nat) : Int) = n) (q : Q (.int n) H) : rCountD K (.ref a) [.bl true] H Q := by
  subst e
  refine ⟨a, .bl true, .bool true, bs.map PyData.bool, rfl, rfl, .lst h (dpAll_bl bs), .bl true, shaped_bl bs, by simp [SeqAt.shaped, PyData.canLay0, PyData.depth], ?_⟩
  rw [count_bl, hn]
  exact q
theorem w_indexT {xs : List V} {j : Nat} (bs : List Bool) (e : xs = bs.map V.bl) (h : SqL K H a xs) (hj : bs[j]? = some true) (hm : ∀ m, m < j → bs[m]? ≠ some true) (q : Q (.int j) H) : rIndexD K (.ref a) [.bl true] H Q := by
  subst e
  refine ⟨a, .bl true, .bool true, bs.map PyData.bool, j, .bool true, rfl, rfl, .lst h (dpAll_bl bs), .bl true, shaped_bl bs, by simp [SeqAt.shaped, PyData.canLay0, PyData.depth], by simp [hj], by simp [PyData.eqv], fun m z hlt hz => ?_, q⟩
  rw [List.getElem?_map] at hz
  cases eb : bs[m]? with
  | none => rw [eb] at hz; cases hz
  | some b =>
    rw [eb] at hz
    cases hz
    have := hm m hlt
    rw [eb] at this
    cases b <;> simp_all [PyData.eqv]
theorem w_cat {p1 p2 : Addr} {xs zs : List V} (h1 : H p1 = some (.lst xs)) (h2 : H p2 = some (.lst zs)) (hl : xs.length + zs.length ≤ sizeLine) (k : ∀ p H2, H p = none → Same H H2 → H2 p = some (.lst (xs ++ zs)) → Q (.ref p) H2) : rCat (.ref p1) (.ref p2) H Q :=
  ⟨p1, p2, xs, zs, rfl, rfl, h1, h2, hl, fun p n => k p _ n (same_new n) upd_same⟩
theorem w_callP {sp : SpP} {t : TA} (h : t σ H fun vs H1 => ∀ oe : Obj, Zc cls d oe → (∃ vs, oe.data = .fields vs) → sp (a, oe) vs H1 Q) : tCallP sp a cls d t σ H Q := h
theorem w_xfE {f : Str} {te : TE} (h : te σ H fun x H1 => ∃ (D dd : Addr) (fs : List (Str × V)) (v : V), x = .ref a ∧ cls = .ref D ∧ ExcC K D ∧ PySem.W.findIn K (.ref D) f = some none ∧ d = some dd ∧ H1 dd = some (.xd fs) ∧ fs.lookup f = some v ∧ Q v H1) : tXfc K a cls d f te σ H Q := h
theorem w_xf {D dd : Addr} {f : Str} {fs : List (Str × V)} {v : V} {R : V → Prop} (hE : ExcC K D) (no : PySem.W.findIn K (.ref D) f = some none) (hd : H dd = some (.xd fs)) (hl : fs.lookup f = some v) (q : R v) :
    ∃ (D' dd' : Addr) (fs : List (Str × V)) (v : V), V.ref a = .ref a ∧ Value.ref D = .ref D' ∧ ExcC K D' ∧ PySem.W.findIn K (.ref D') f = some none ∧ some dd = some dd' ∧ H dd' = some (.xd fs) ∧ fs.lookup f = some v ∧ R v := ⟨D, dd, fs, v, rfl, rfl, hE, no, rfl, hd, hl, q⟩
end
end Bw

namespace Bw
open PySem PySem.Spec PyProof.Rows L2
/-! ### loops and comprehensions over a known number of things -/
structure Fini (J : It) (n : Nat) (ok : Hp → Prop) (it : Nat → V → Hp → Hp → Prop) : Prop where
  go : ∀ i H, i < n → ok H → J.go i H
  yl : ∀ i H x H', i < n → ok H → J.yld i H x H' → it i x H H'
  st : ∀ H, ok H → J.stop n H
section
variable {K : PySem.W.Frag}
theorem fin_rng {lo : Int} {n : Nat} : Fini (Itr lo n) n (fun _ => True) (fun i x H H' => H' = H ∧ x = .int (lo + i)) := ⟨fun _ _ h _ => h, fun _ _ _ _ _ _ h => h, fun _ _ => Nat.le_refl _⟩
theorem fin_list {a : Addr} {xs : List V} : Fini (Itl K a) xs.length (fun H => SqL K H a xs) (fun i x H H' => H' = H ∧ xs[i]? = some x) :=
  ⟨fun i H h o => ⟨xs, xs[i], o, by simp [h]⟩, fun i H x H' h o y => ⟨y.1, y.2 xs o⟩, fun H o => ⟨xs, o, Nat.le_refl _⟩⟩
theorem fin_tup {a : Addr} {xs : List V} : Fini (Itt K a) xs.length (fun H => SqT K H a xs) (fun i x H H' => H' = H ∧ xs[i]? = some x) :=
  ⟨fun i H h o => ⟨xs, xs[i], o, by simp [h]⟩, fun i H x H' h o y => ⟨y.1, y.2 xs o⟩, fun H o => ⟨xs, o, Nat.le_refl _⟩⟩
theorem fin_str {x : Str} : Fini (Its x) x.cps.size (fun _ => True) (fun i v H H' => H' = H ∧ ∃ c, x.cps[i]? = some c ∧ v = .str ⟨#[c]⟩) := ⟨fun _ _ h _ => h, fun _ _ _ _ _ _ h => h, fun _ _ => Nat.le_refl _⟩
theorem fin_enum {a : Addr} {xs : List V} : Fini (Ite K a) xs.length (fun H => SqL K H a xs) (fun i v H H' => ∃ T x, v = .ref T ∧ H T = none ∧ Same H H' ∧ H' T = some (.tup [.int (i : Nat), x]) ∧ xs[i]? = some x) :=
  ⟨fun i H h o => ⟨xs, xs[i], o, by simp [h]⟩, fun i H v H' h o y => by
    obtain ⟨T, x, e, n, e', q⟩ := y
    subst e'
    exact ⟨T, x, e, n, same_new n, upd_same, q xs o⟩, fun H o => ⟨xs, o, Nat.le_refl _⟩⟩
/-- a for loop -/
theorem for_fin {J : It} {n : Nat} {ok : Hp → Prop} {it : Nat → V → Hp → Hp → Prop} {g : TG} {tb : TS} {D : Ends} {σ : L2.St} {H : Hp} (F : Fini J n ok it) (Pv : Nat → L2.St → Hp → Prop) (h0 : Pv 0 σ H) (hl : ∀ i σ H, i ≤ n → Pv i σ H → ok H)
    (hs : ∀ i x σ H H1, i < n → Pv i σ H → it i x H H1 → g x σ H1 fun σ2 H2 => tb { D with nx := Pv (i + 1), ct := Pv (i + 1), bk := D.nx } σ2 H2) (hd : ∀ σ H, Pv n σ H → D.nx σ H) :
    ∃ W : Nat → Nat → L2.St → Hp → Prop, (∃ m, W 0 m σ H) ∧ ∀ i m σ H, W i m σ H →
      (J.stop i H ∧ D.nx σ H) ∨ (J.go i H ∧ ∃ N : L2.St → Hp → Prop, (∀ σ' H', N σ' H' → ∃ m', m' < m ∧ W (i + 1) m' σ' H') ∧ ∀ x H', J.yld i H x H' → g x σ H' fun σ2 H2 => tb { D with nx := N, ct := N, bk := D.nx } σ2 H2) := by
  refine ⟨fun i m σ H => m = n - i ∧ i ≤ n ∧ Pv i σ H, ⟨n, by simp, Nat.zero_le _, h0⟩, ?_⟩
  rintro i m σ H ⟨rfl, hi, p⟩
  have o := hl i σ H hi p
  rcases Nat.lt_or_ge i n with hlt | hge
  · exact .inr ⟨F.go i H hlt o, Pv (i + 1), fun σ' H' p' => ⟨n - (i + 1), by omega, rfl, hlt, p'⟩, fun x H' y => hs i x σ H H' hlt p (F.yl i H x H' hlt o y)⟩
  · obtain rfl : i = n := Nat.le_antisymm hi hge
    exact .inl ⟨F.st H o, hd σ H p⟩
/-- the next turn of a comprehension -/
def NxI (D : Addr) (i : Nat) (Iv : Nat → List V → Hp → Prop) : Hp → Prop := fun H' => ∃ acc', acc'.length ≤ i + 1 ∧ H' D = some (.lst acc') ∧ Iv (i + 1) acc' H'
theorem take_succ {α : Type} {xs : Array α} {i : Nat} {c : α} (h : xs[i]? = some c) : xs.toList.take (i + 1) = xs.toList.take i ++ [c] := by
  rw [List.take_add_one]
  congr 1
  rw [Array.getElem?_toList, h]
  rfl
theorem take_succL {α : Type} {xs : List α} {i : Nat} {c : α} (h : xs[i]? = some c) : xs.take (i + 1) = xs.take i ++ [c] := by
  rw [List.take_add_one, h]
  rfl
theorem take_size {α : Type} {xs : Array α} : xs.toList.take xs.size = xs.toList := by
  rw [← Array.length_toList, List.take_length]
theorem w_acc {D : Addr} {i n : Nat} {Iv : Nat → List V → Hp → Prop} {acc : List V} {y : V} {H4 : Hp} (hD : H4 D = some (.lst acc)) (ha : acc.length ≤ i) (hi : i < n) (hn : n ≤ sizeLine) (k : ∀ H5, KB D H4 H5 → H5 D = some (.lst (acc ++ [y])) → Iv (i + 1) (acc ++ [y]) H5) :
    ∃ acc, H4 D = some (.lst acc) ∧ acc.length < sizeLine ∧ NxI D i Iv (upd H4 D (.lst (acc ++ [y]))) :=
  ⟨acc, hD, by omega, acc ++ [y], by rw [List.length_append]; simp; omega, upd_same, k _ kb_upd upd_same⟩
theorem w_skip {D : Addr} {i : Nat} {Iv : Nat → List V → Hp → Prop} {acc : List V} {H3 : Hp} (hD : H3 D = some (.lst acc)) (ha : acc.length ≤ i) (k : Iv (i + 1) acc H3) : NxI D i Iv H3 := ⟨acc, by omega, hD, k⟩
/-- a comprehension: Iv by the turn, what is gathered and the heap -/
theorem lc_fin {J : It} {n : Nat} {ok : Hp → Prop} {it : Nat → V → Hp → Hp → Prop} {g : TG} {tt : TT} {te : TE} {vs : List Nat} {σ : L2.St} {H1 : Hp} {Qd : Addr → Hp → Prop} (F : Fini J n ok it) (Iv : Nat → List V → Hp → Prop)
    (h0 : ∀ D H2, H1 D = none → Same H1 H2 → H2 D = some (.lst []) → Iv 0 [] H2) (hl : ∀ i acc H, i ≤ n → Iv i acc H → ok H)
    (hs : ∀ D i x acc H H', H1 D = none → i < n → acc.length ≤ i → Iv i acc H → H D = some (.lst acc) → it i x H H' → g x (wipe σ vs) H' fun σ2 H2 => wipe σ2 vs = wipe σ vs ∧ tt σ2 H2 fun b H3 =>
      if b = true then te σ2 H3 fun y H4 => ∃ acc, H4 D = some (.lst acc) ∧ acc.length < sizeLine ∧ NxI D i Iv (upd H4 D (.lst (acc ++ [y]))) else NxI D i Iv H3)
    (hd : ∀ D acc H, H1 D = none → Iv n acc H → acc.length ≤ n → H D = some (.lst acc) → Qd D H) :
    ∀ D, H1 D = none → ∃ W : Nat → Nat → Hp → Prop, (∃ m, W 0 m (upd H1 D (.lst []))) ∧ ∀ i m H, W i m H →
      (J.stop i H ∧ Qd D H) ∨ (J.go i H ∧ ∃ Nx : Hp → Prop, (∀ H', Nx H' → ∃ m', m' < m ∧ W (i + 1) m' H') ∧ ∀ x H', J.yld i H x H' → g x (wipe σ vs) H' fun σ2 H2 => wipe σ2 vs = wipe σ vs ∧ tt σ2 H2 fun b H3 =>
        if b = true then te σ2 H3 fun y H4 => ∃ acc, H4 D = some (.lst acc) ∧ acc.length < sizeLine ∧ Nx (upd H4 D (.lst (acc ++ [y]))) else Nx H3) := by
  intro D nD
  refine ⟨fun i m H => m = n - i ∧ i ≤ n ∧ ∃ acc, acc.length ≤ i ∧ H D = some (.lst acc) ∧ Iv i acc H, ⟨n, by simp, Nat.zero_le _, [], Nat.le_refl _, upd_same, h0 D _ nD (same_new nD) upd_same⟩, ?_⟩
  rintro i m H ⟨rfl, hi, acc, hacc, hD, p⟩
  have o := hl i acc H hi p
  rcases Nat.lt_or_ge i n with hlt | hge
  · exact .inr ⟨F.go i H hlt o, NxI D i Iv, fun H' p' => ⟨n - (i + 1), by omega, rfl, hlt, p'⟩, fun x H' y => hs D i x acc H H' nD hlt hacc p hD (F.yl i H x H' hlt o y)⟩
  · obtain rfl : i = n := Nat.le_antisymm hi hge
    exact .inl ⟨F.st H o, hd D acc H nD p hacc hD⟩
theorem w_lcE {wi : TI} {g : TG} {tt : TT} {te : TE} {vs : List Nat} {σ : L2.St} {H : Hp} {Q : VK} (h : wi σ H fun J H1 => ∀ D, H1 D = none → ∃ W : Nat → Nat → Hp → Prop, (∃ m, W 0 m (upd H1 D (.lst []))) ∧ ∀ i m H, W i m H →
  (J.stop i H ∧ Q (.ref D) H) ∨ (J.go i H ∧ ∃ Nx : Hp → Prop, (∀ H', Nx H' → ∃ m', m' < m ∧ W (i + 1) m' H') ∧ ∀ x H', J.yld i H x H' → g x (wipe σ vs) H' fun σ2 H2 => wipe σ2 vs = wipe σ vs ∧ tt σ2 H2 fun b H3 =>
    if b = true then te σ2 H3 fun y H4 => ∃ acc, H4 D = some (.lst acc) ∧ acc.length < sizeLine ∧ Nx (upd H4 D (.lst (acc ++ [y]))) else Nx H3)) : tLc wi g tt te vs σ H Q := h
theorem w_iStr {te : TE} {σ : L2.St} {H : Hp} {R : It → Hp → Prop} (h : te σ H fun v H1 => ∃ x, v = .str x ∧ R (Its x) H1) : iStr te σ H R := h
theorem w_strE {x : Str} {R : Str → Prop} (q : R x) : ∃ y, V.str x = .str y ∧ R y := ⟨x, rfl, q⟩
theorem w_iEnum {ta : TA} {σ : L2.St} {H : Hp} {R : It → Hp → Prop} (h : ta σ H fun vs H1 => ∃ a xs, vs = [.ref a] ∧ SqL K H1 a xs ∧ R (Ite K a) H1) : iEnum K ta σ H R := h
theorem w_enum {a : Addr} {xs : List V} {H : Hp} {R : Addr → Prop} (h : SqL K H a xs) (q : R a) : ∃ (a' : Addr) (xs : List V), [V.ref a] = [.ref a'] ∧ SqL K H a' xs ∧ R a' := ⟨a, xs, rfl, h, q⟩
theorem w_yes {σ : L2.St} {H : Hp} {QB : Bool → Hp → Prop} (q : QB true H) : tYes σ H QB := q
theorem w_inS {c : Nat} {z : Str} {H : Hp} {Q : VK} (q : Q (.bl (decide (c ∈ z.cps.toList))) H) : rInS (.str ⟨#[c]⟩) (.str z) H Q := ⟨c, z, rfl, rfl, q⟩
theorem w_all {bs : List Bool} {a : Addr} {xs : List V} {H : Hp} {Q : VK} (e : xs = bs.map V.bl) (h : SqL K H a xs) (q : Q (.bl (bs.all id)) H) : rAll K [.ref a] H Q := ⟨a, bs, rfl, e ▸ h, q⟩
theorem w_m1 {r : V → List V → Hp → VK → Prop} {to te : TE} {σ : L2.St} {H : Hp} {Q : VK} (h : to σ H fun x H1 => (∃ a, x = .str a) ∧ te σ H1 fun y H2 => r x [y] H2 Q) : tM1 r to te σ H Q := h
theorem w_m0 {r : V → List V → Hp → VK → Prop} {to : TE} {σ : L2.St} {H : Hp} {Q : VK} (h : to σ H fun x H1 => (∃ a, x = .str a) ∧ r x [] H1 Q) : tM0 r to σ H Q := h
theorem w_append {l : Addr} {xs : List V} {y : V} {H : Hp} {Q : VK} (h : H l = some (.lst xs)) (hl : xs.length < sizeLine) (k : ∀ H2, KB l H H2 → H2 l = some (.lst (xs ++ [y])) → Q .non H2) : rAppend (.ref l) [y] H Q := ⟨l, xs, y, rfl, rfl, h, hl, k _ kb_upd upd_same⟩
theorem txt_join (y : Str) (ps : List Str) : Txt.join y ps = Str.join y ps := beq_iff_eq.mp (PyProof.Rows.join_plain_closes y ps)
theorem w_sl {r : V → Option Int → Option Int → Hp → VK → Prop} {te : TE} {tl th : TO} {σ : L2.St} {H : Hp} {Q : VK} (h : te σ H fun x H1 => tl σ H1 fun l H2 => th σ H2 fun u H3 => r x l u H3 Q) : L2.tSl r te tl th σ H Q := h
theorem w_noPart {σ : L2.St} {H : Hp} {Q : Option Int → Hp → Prop} (q : Q none H) : tNoPart σ H Q := q
theorem w_part {te : TE} {σ : L2.St} {H : Hp} {Q : Option Int → Hp → Prop} (h : te σ H fun v H1 => ∃ i, v = .int i ∧ Q (some i) H1) : tPart te σ H Q := h
theorem w_intE {i : Int} {R : Int → Prop} (q : R i) : ∃ j, V.int i = .int j ∧ R j := ⟨i, rfl, q⟩
theorem w_slS {z : Str} {lo hi : Option Int} {H : Hp} {Q : VK} (hl : z.length ≤ sizeLine) (q : Q (.str (cutS z lo hi)) H) : rSlS (.str z) lo hi H Q := ⟨z, rfl, hl, q⟩
theorem w_slL {a : Addr} {xs : List V} {lo hi : Option Int} {H : Hp} {Q : VK} (h : SqL K H a xs) (k : ∀ p H2, H p = none → Same H H2 → H2 p = some (.lst (cutV xs lo hi)) → Q (.ref p) H2) : rSlL K (.ref a) lo hi H Q := ⟨a, xs, rfl, h, fun p n => k p _ n (same_new n) upd_same⟩
theorem w_addS {x y : Str} {H : Hp} {Q : VK} (hl : x.length + y.length ≤ sizeLine) (q : Q (.str (x ++ y)) H) : rAddS (.str x) (.str y) H Q := ⟨x, y, rfl, rfl, hl, q⟩
theorem w_isS {x : Str} {R : Prop} (q : R) : (∃ a, V.str x = .str a) ∧ R := ⟨⟨x, rfl⟩, q⟩
theorem w_split {x y : Str} {H : Hp} {Q : VK} (hy : (y.length == 0) = false) (hl : x.length + 2 ≤ sizeLine) (k : ∀ p H2, H p = none → Same H H2 → H2 p = some (.lst ((Txt.split x y).map V.str)) → Q (.ref p) H2) :
    ∃ a b, V.str x = .str a ∧ [V.str y] = [.str b] ∧ (b.length == 0) = false ∧ a.length + 2 ≤ sizeLine ∧ rNewStrs (Txt.split a b) H Q := ⟨x, y, rfl, rfl, hy, hl, fun p n => k p _ n (same_new n) upd_same⟩
theorem w_join {x : Str} {p : Addr} {ys : List Str} {zs : List V} {H : Hp} {Q : VK} (e : zs = ys.map V.str) (h : SqL K H p zs) (hl : (ys.map (·.length)).sum + ys.length * x.length ≤ 16777216) (q : Q (.str (Txt.join x ys)) H) :
    ∃ a p', ∃ ys : List Str, V.str x = .str a ∧ [V.ref p] = [.ref p'] ∧ (SqL K H p' (ys.map V.str) ∨ SqT K H p' (ys.map V.str)) ∧ (ys.map (·.length)).sum + ys.length * a.length ≤ 16777216 ∧ Q (.str (Txt.join a ys)) H := ⟨x, p, ys, rfl, rfl, .inl (e ▸ h), hl, q⟩
/-! ### pieces of a text -/
theorem le_sum {x : Nat} : ∀ {l : List Nat}, x ∈ l → x ≤ l.sum
  | y :: r, h => by
    rcases List.mem_cons.mp h with rfl | h
    · simp
    · have := le_sum h
      simp
      omega
end
end Bw

namespace Bw
open PySem PySem.Spec PyProof.Rows L2 LamX
/-- a def whose code object is known -/
structure FunC (K : PySem.W.Frag) (x qual : Str) (st : Stmt) (f : Addr) (fd : FuncData) (c : Addr) : Prop where
  ex : ∃ (oc : Value) (od : Option Addr) (kV doc pm : Value) (an : Option Addr) (ct : Value) (osl : Array (Option Value)),
    fd = PySem.W.fnOf x qual (defArgs st) (defBody st) (defScope st) .none kV doc pm an (.ref c) ct ∧ K.lookup f = some ⟨oc, od, .func fd, osl⟩ ∧ PySem.W.codeIn K (.ref c) qual = true
  kp : PySem.W.keepIn K (.ref f) = true
section
variable {P : Program} {w : World} {K : PySem.W.Frag} {mg : Str → Option Value} {base : Heap}
theorem FunC.ok {x qual : Str} {st : Stmt} {f c : Addr} {fd : FuncData} {N ps : List Str} {k : Nat} {sp : Sp} (F : FunC K x qual st f fd c) (S : FnScope N ps (defScope st)) (len : ∀ vs H Q E, sp vs H Q E → vs.length = ps.length)
    (hbody : ∀ (A : Around) (outer : List Env) (s : Shared) (H : Hp) (vs : List V) (Q : VK) (E : XK), Room k (A.deeper (envOfC qual (defScope st) s.heap.objs.size f (.ref c))) → sp vs H Q E →
      ∃ t, PSs (cxOf CX0 P w K mg base N qual (defScope st) f (.ref c) A outer s H E).nox (defBody st) t ∧ t { nx := fun _ H' => Q .non H', rt := Q } (L2.start N vs) H) : FnOk P w K mg base CX0 (k + 1) f fd ps sp := by
  obtain ⟨oc, od, kV, doc, pm, an, ct, osl, rfl, lk, hcd⟩ := F.ex
  refine fn_of lk hcd S len fun A outer s H vs Q E hr hsp => ?_
  obtain ⟨t, h, q⟩ := hbody A outer s H vs Q E hr hsp
  exact ⟨t, h.nox, q⟩
theorem FunC.fun_ {x qual : Str} {st : Stmt} {f c : Addr} {fd : FuncData} (F : FunC K x qual st f fd c) : Fun K x qual st f fd := by
  obtain ⟨oc, od, kV, doc, pm, an, ct, osl, e, lk, hcd⟩ := F.ex
  exact ⟨⟨oc, od, kV, doc, pm, an, .ref c, ct, osl, e, lk, hcd⟩, F.kp⟩
theorem funC_mk {x qual : Str} {st : Stmt} {f c : Addr} {oc : Value} {od an : Option Addr} {osl : Array (Option Value)} {kV doc pm ct : Value} (l : K.lookup f = some ⟨oc, od, .func (PySem.W.fnOf x qual (defArgs st) (defBody st) (defScope st) .none kV doc pm an (.ref c) ct), osl⟩)
    (hc : PySem.W.codeIn K (.ref c) qual = true) (k : PySem.W.keepIn K (.ref f) = true) : FunC K x qual st f (PySem.W.fnOf x qual (defArgs st) (defBody st) (defScope st) .none kV doc pm an (.ref c) ct) c := ⟨⟨oc, od, kV, doc, pm, an, ct, osl, rfl, l, hc⟩, k⟩
/-- the def x is handed a lambda without parameters, and calls it -/
structure Asks (P : Program) (w : World) (K : PySem.W.Frag) (mg : Str → Option Value) (base : Heap) (x a : Str) (N : List Str) (st : Stmt) (k : Nat) (TT : (XK → Hp → VK → Prop) → Hp → VK → Prop) : Prop where
  ex : ∃ (g : Addr) (fd : FuncData), Fun K x x st g fd ∧ mg x = some (.ref g) ∧ Binds K fd [a] []
  sc : FnScope N [a] (defScope st)
  n0 : N[0]? = some a
  va : Vis (defScope st) a
  gives : ∀ X : Cx, X.prog = P → X.w = w → X.K = K → X.mg = mg → X.base = base → Room k X.A → ∀ (g : Addr) (cdg : Value) (q : Str), GivesTo X N x (defScope st) g cdg (defBody st) a q TT
end
abbrev lamN (x : Str) : Str := (x ++ ".<locals>.") ++ "<lambda>"
theorem pe_asks {X : Cx} {x a : Str} {N : List Str} {st : Stmt} {k j : Nat} {TT : (XK → Hp → VK → Prop) → Hp → VK → Prop} {T : List (Addr × Str)} {c P : Addr} {params : Arguments} {body : Expr} {scope : Scope} {t : XK → TE} {p lpos pos : Pos}
    (A : Asks X.prog X.w X.K X.mg X.base x a N st k TT) (hg : Gl X x) (TB : TabB X.base X.mg c P) (hcode : X.env.code = .ref c) {ql : Str} (hql : X.env.qual = ql) (hmT : (P, ql ++ "<lambda>") ∈ T) (hu : ∀ p ∈ T, p.1 = P → p.2 = ql ++ "<lambda>") (hr1 : Room k X.A) (hr : Room (j + 2) X.A) (L : lamSB X.env.scope scope = true) (hdef : defaultsOf params X.env = ([], []))
    (hbind : ∀ (q : Str) (cl : List (Str × Addr)) (pm cv ctv : Value), bindArgs (PySem.W.kla_fn "<lambda>" q params body scope cl pm cv ctv) ⟨[], []⟩ = pure [])
    (hbody : ∀ (A : Around) (outer : List Env) (s : Shared) (H : Hp) (E : XK) (f c' : Addr), Room j (A.deeper (lamEnv X scope s.heap.objs.size f c')) → PE (lamCx X A outer s H E scope f c') body (t E))
    (hdb : (x == ("__debug__" : Str)) = false := by decide) (hd : (a == ("__debug__" : Str)) = false := by decide) (hcd : (a == ("__classdict__" : Str)) = false := by decide) :
    PE X (.Call (.Name x p) [.Lambda params body scope lpos] [] pos) (tLam T TT t) := by
  subst hql
  obtain ⟨g, fd, F, hm, hb⟩ := A.ex
  have kp := F.kp
  obtain ⟨oc, od, kV, doc, pm, an, cdv, ct, osl, rfl, lk, hcd'⟩ := F.ex
  exact pe_lamcall hg hm kp lk hcd' hb A.sc A.n0 A.va (A.gives X rfl rfl rfl rfl rfl hr1 g cdv _) TB hcode hmT hu hr (lamS_by L) hdef hbind hbody hdb hd hcd
/-! ### steps -/
section
variable {H H' H1 : Hp} {σ : L2.St} {Q : VK} {K : PySem.W.Frag}
theorem w_lam {T : List (Addr × Str)} {TT : (XK → Hp → VK → Prop) → Hp → VK → Prop} {t : XK → TE} (hT : Tabs T H) (h : ∀ H1, ExtN H H1 → Tabs T H1 → TT (fun E H' Q' => t E σ H' Q') H1 Q) : tLam T TT t σ H Q := ⟨hT, h⟩
theorem w_how {Z : Zs} {tl : XK → Hp → VK → Prop} (h : tl (howE K Z Q) H (fun _ H' => Q (.str "told") H')) : TTHow K Z tl H Q := h
theorem extn_at {a : Addr} {o : HO} (e : ExtN H H') (h : H a = some o) (n : ∀ ps, o ≠ .tbl ps) : H' a = some o := e a o h n
theorem extn_same (e : Same H H') : ExtN H H' := fun b o h _ => e b o h
theorem extn_seq {a : Addr} {xs : List V} (e : ExtN H H') (h : SqL K H a xs) : SqL K H' a xs := by
  rcases h with (h | ⟨o, h⟩) | h
  · exact .inl (.inl (e _ _ h (fun _ z => by cases z)))
  · exact .inl (.inr ⟨o, e _ _ h (fun _ z => by cases z)⟩)
  · exact .inr h
theorem extn_tup {a : Addr} {xs : List V} (e : ExtN H H') (h : SqT K H a xs) : SqT K H' a xs := by
  rcases h with (h | ⟨o, h⟩) | h
  · exact .inl (.inl (e _ _ h (fun _ z => by cases z)))
  · exact .inl (.inr ⟨o, e _ _ h (fun _ z => by cases z)⟩)
  · exact .inr h
mutual
theorem Dp.extn (e : ExtN H H') : ∀ {v : V} {d : PyData}, Dp K H v d → Dp K H' v d
  | _, _, .non => .non
  | _, _, .bl b => .bl b
  | _, _, .int i => .int i
  | _, _, .str x => .str x
  | _, _, .lst h r => .lst (extn_seq e h) (DpAll.extn e r)
  | _, _, .tup h r => .tup (extn_tup e h) (DpAll.extn e r)
theorem DpAll.extn (e : ExtN H H') : ∀ {vs : List V} {ds : List PyData}, DpAll K H vs ds → DpAll K H' vs ds
  | _, _, .nil => .nil
  | _, _, .cons h r => .cons (Dp.extn e h) (DpAll.extn e r)
end
/-- two heaps, the tables may have grown -/
structure Grown (T : List (Addr × Str)) (H H' : Hp) : Prop where
  e : ExtN H H'
  t : Tabs T H'
theorem Grown.trans {T : List (Addr × Str)} (a : Grown T H H1) (b : Grown T H1 H') : Grown T H H' := ⟨a.e.trans b.e, b.t⟩
theorem Grown.same {T : List (Addr × Str)} (a : Grown T H H1) (b : Same H1 H') : Grown T H H' := ⟨a.e.trans (extn_same b), a.t.ext b⟩
theorem Grown.of {T : List (Addr × Str)} (t : Tabs T H) (b : Same H H') : Grown T H H' := ⟨extn_same b, t.ext b⟩
theorem tabs_kb {T : List (Addr × Str)} {p : Addr} {xs : List V} (t : Tabs T H) (hp : H p = some (.lst xs)) (e : KB p H H') : Tabs T H' := by
  intro x hx
  obtain ⟨ps, h1, h2, h3⟩ := t x hx
  have ne : ∀ {b o}, H b = some o → (o ≠ .lst xs) → b ≠ p := fun {b o} hb no z => no (Option.some.inj (hb.symm.trans (z ▸ hp)))
  refine ⟨ps, e _ _ h1 (ne h1 (fun z => by cases z)), h2, fun pos cv hc => ?_⟩
  obtain ⟨c, e1, e2⟩ := h3 pos cv hc
  exact ⟨c, e1, e _ _ e2 (ne e2 (fun z => by unfold CodeO at z; cases z))⟩
end
/-! ### things that are no texts -/
inductive Odd (H : Hp) : V → Prop
  | non : Odd H .non
  | int (i : Int) : Odd H (.int i)
  | bl (b : Bool) : Odd H (.bl b)
  | lst {a : Addr} {xs : List V} : H a = some (.lst xs) → Odd H (.ref a)
  | tup {a : Addr} {xs : List V} : H a = some (.tup xs) → Odd H (.ref a)
theorem kit_non_str : kitB "NoneType" "str" = some false := by decide +kernel
theorem kit_lst_str : kitB "list" "str" = some false := by decide +kernel
theorem kit_tup_str : kitB "tuple" "str" = some false := by decide +kernel
theorem Odd.ty {K : PySem.W.Frag} {H : Hp} {v : V} (h : Odd H v) : (∀ x, v ≠ .str x) ∧ ∃ tv, TyX K H v (.type tv) ∧ kitB tv "str" = some false := by
  cases h with
  | non => exact ⟨fun x z => (by cases z), _, tyx_non, kit_non_str⟩
  | int i => exact ⟨fun x z => (by cases z), _, tyx_int, kit_int_str⟩
  | bl b => exact ⟨fun x z => (by cases z), _, tyx_bl, kit_bool_str⟩
  | lst e => exact ⟨fun x z => (by cases z), _, tyx_lst e, kit_lst_str⟩
  | tup e => exact ⟨fun x z => (by cases z), _, tyx_tup e, kit_tup_str⟩
theorem Odd.ext {H H' : Hp} {v : V} (h : Odd H v) (e : ExtN H H') : Odd H' v := by
  cases h with
  | non => exact .non
  | int i => exact .int i
  | bl b => exact .bl b
  | lst q => exact .lst (e _ _ q (fun _ z => by cases z))
  | tup q => exact .tup (e _ _ q (fun _ z => by cases z))
/-- a text, or no text -/
def TxtV (H : Hp) (v : V) : Prop := (∃ x : Str, v = .str x ∧ x.length ≤ 100000) ∨ Odd H v
theorem TxtV.ext {H H' : Hp} {v : V} (h : TxtV H v) (e : ExtN H H') : TxtV H' v := h.imp id fun q => q.ext e
theorem TxtV.same {H H' : Hp} {v : V} (h : TxtV H v) (e : Same H H') : TxtV H' v := h.ext (extn_same e)
/-! ### lists of texts -/
section
variable {K : PySem.W.Frag} {H : Hp}
theorem dpAll_str : ∀ bs : List Str, DpAll K H (bs.map V.str) (bs.map PyData.str)
  | [] => .nil
  | b :: r => .cons (.str b) (dpAll_str r)
theorem depth_str : ∀ bs : List Str, PyData.depthAll (bs.map PyData.str) = 0
  | [] => rfl
  | b :: r => by simp [PyData.depthAll, PyData.depth, depth_str r]
theorem lay_str : ∀ {bs : List Str}, (∀ b ∈ bs, PyData.strOk b = true) → PyData.canLayAll0 (bs.map PyData.str) = true
  | [], _ => by simp [PyData.canLayAll0]
  | b :: r, h => by simp [PyData.canLayAll0, PyData.canLay0, h b List.mem_cons_self, lay_str (fun x hx => h x (List.mem_cons_of_mem _ hx))]
theorem shaped_str {bs : List Str} (h : ∀ b ∈ bs, PyData.strOk b = true) : SeqAt.shaped (.list (bs.map PyData.str)) = true := by
  simp [SeqAt.shaped, PyData.canLay0, lay_str h, PyData.depth, depth_str]
theorem eqvAll_str : ∀ bs cs : List Str, PyData.eqvAll (bs.map PyData.str) (cs.map PyData.str) = decide (bs = cs)
  | [], [] => by simp [PyData.eqvAll]
  | [], c :: s => by simp [PyData.eqvAll]
  | b :: r, [] => by simp [PyData.eqvAll]
  | b :: r, c :: s => by
    simp only [List.map_cons, PyData.eqvAll, PyData.eqv, eqvAll_str r s, List.cons.injEq]
    by_cases h1 : b = c <;> by_cases h2 : r = s <;> simp [h1, h2]
theorem eqv_strs (bs cs : List Str) : PyData.eqv (.list (bs.map PyData.str)) (.list (cs.map PyData.str)) = decide (bs = cs) := by
  simp only [PyData.eqv, eqvAll_str]
end
end Bw

/-! Starred targets: a, *b = e for a tuple or a list e. -/
namespace Bw
open PySem PySem.Spec L2
section
variable {prog : Program} {w : World} {A : Around} {E : Value → Shared → Prop} {I : Addr} {fp wr : List Addr} {G : Array GenState → Array GenState → Prop} {n : Nat} {P : Nat → Value → Prop} {St : Nat → Shared → Prop}
theorem moved_refl (hg : ∀ a, G a a) (s : Shared) : Moved wr G s s := Moved.refl hg
theorem moved_trans (ht : ∀ a b c, G a b → G b c → G a c) {s s' s'' : Shared} (x : Moved wr G s s') (y : Moved wr G s' s'') : Moved wr G s s'' :=
  ⟨fun b o hb e => y.heap b o hb (x.heap b o hb e), ht _ _ _ x.gens y.gens, y.drawn.trans x.drawn, y.os.trans x.os, Nat.le_trans x.toks y.toks⟩
theorem draw_S (W : WalksS prog w A I fp wr G n P St) : ∀ (m i : Nat) (s : Shared) (Q : List Value → Shared → Prop), St i s → i + m ≤ n →
    (∀ s' vs, Moved wr G s s' → St (i + m) s' → vs.length = m → (∀ j v, vs[j]? = some v → P (i + j) v) → Q vs s') → wpAny (model prog w) A (draw (.ref I) m) Q E s
  | 0, i, s, Q, st, _, hQ => by
    show wpAny _ _ (pure []) Q E s
    exact wpAny_pure (hQ s [] (moved_refl W.grefl s) st rfl fun j v h => by simp at h)
  | m + 1, i, s, Q, st, hle, hQ => by
    show wpAny _ _ (pyNext (.ref I) >>= _) Q E s
    refine wpAny_bind (W.item i s _ _ (by omega) st fun v s1 hP st1 mv => ?_)
    refine wpAny_bind (wpAny_holding (draw_S W m (i + 1) s1 _ st1 (by omega) fun s2 vs mv2 st2 hl hv => wpAny_pure ?_))
    refine hQ s2 (v :: vs) (moved_trans W.gtrans mv mv2) (by rw [show i + (m + 1) = i + 1 + m by omega]; exact st2) (by simp [hl]) fun j u h => ?_
    cases j with
    | zero =>
      simp at h
      subst h
      exact hP
    | succ j =>
      have := hv j u (by simpa using h)
      rw [show i + (j + 1) = i + 1 + j by omega]
      exact this
theorem shift_S (W : WalksS prog w A I fp wr G n P St) (k : Nat) (hk : k ≤ n) : WalksS prog w A I fp wr G (n - k) (fun i => P (k + i)) (fun i s => St (k + i) s) where
  sub := W.sub
  grefl := W.grefl
  gtrans := W.gtrans
  frame := fun i s h' tk st ht hb => W.frame (k + i) s h' tk st ht hb
  item := fun i s Q E hi st hQ => W.item (k + i) s Q E (by omega) st fun v s' hP st' mv => hQ v s' hP st' mv
  done := fun s Q E st hQ => W.done s Q E (by rw [show k + (n - k) = n by omega] at st; exact st) hQ
  self := fun i s Q E st hQ => W.self (k + i) s Q E st hQ
/-- the items, the starred ones as a new list at the heap's end -/
theorem star_S {v : Value} {s s0 : Shared} {T : String} {k after : Nat} {Q : List Value → Shared → Prop} (hTm : T = "list_iterator" ∨ T = "tuple_iterator")
    (W : WalksS prog w A.in1 I fp wr G n P St) (hT : ∀ i s, St i s → s.TypeIs (.ref I) T) (hn : n ≤ sizeLine) (hk : k + after ≤ n) (hI : I ∈ fp) (hfp : ∀ i s, St i s → ∀ b ∈ fp, b < s.heap.objs.size) (st0 : St 0 s0)
    (hit : ∀ (Q : Bool → Shared → Prop), Q false s → wpAny (model prog w) A (notIterableAtAll v) Q E s)
    (hiter : ∀ (Q : Value → Shared → Prop), Q (.ref I) s0 → wpAny (model prog w) A (pyIter v) Q E s)
    (hQ : ∀ (s' : Shared) (first rest : List Value), Moved wr G s0 s' → first.length = k → (∀ j u, first[j]? = some u → P j u) → rest.length = n - k → (∀ j u, rest[j]? = some u → P (k + j) u) →
      wpAny (model prog w) A (newList (rest.take (rest.length - after))) (fun l s'' => Q (first ++ [l] ++ rest.drop (rest.length - after)) s'') E s') :
    wpAny (model prog w) A (unpackItems v (k + 1 + after) (some k)) Q E s := by
  have W' : WalksS prog w A I fp wr G n P St := WalksS.of_in1 W
  unfold unpackItems
  refine wpAny_bind (hit _ ?_)
  simp only [Bool.false_eq_true, if_false]
  refine wpAny_bind (wpAny_holding (hiter _ ?_))
  refine wpAny_bind (wpAny_holding (draw_S W' k 0 s0 _ st0 (by omega) fun s1 first mv1 st1 hl1 hv1 => ?_))
  rw [if_neg (by omega)]
  rw [Nat.zero_add] at st1
  refine wpAny_bind (wpAny_holding (wpAny_collect_iter (T := T) (by rcases hTm with h | h <;> simp [h]) (shift_S W k (by omega)) (fun i s st => hT (k + i) s st) (by simpa using st1) (hfp k s1 st1) hI (fun s2 acc mv2 hacc => ?_) (by omega)))
  have hal : acc.toList.length = n - k := by rw [Array.length_toList]; exact hacc.1
  rw [show k + 1 + after - 1 - k = after by omega]
  rw [if_neg (by omega)]
  refine wpAny_bind ?_
  refine wpAny_mono (hQ s2 first acc.toList (moved_trans W.gtrans mv1 mv2) hl1 (fun j u h => by simpa using hv1 j u h) hal fun j u h => ?_) (fun l s3 q => wpAny_pure q) fun _ _ h => h
  exact hacc.2 j u (by simpa using h)
end
/-! ### over the layer -/
/-- a, .., *b, .., c = e: k ahead, after behind the star -/
def gStar (K : PySem.W.Frag) (k after : Nat) (t : TGs) : TG := fun v σ H Q => ∃ a xs, v = .ref a ∧ (SqT K H a xs ∨ SqL K H a xs) ∧ k + after ≤ xs.length ∧
  ∀ p, H p = none → t (xs.take k ++ [.ref p] ++ (xs.drop k).drop (xs.length - k - after)) σ (upd H p (.lst ((xs.drop k).take (xs.length - k - after)))) Q
section
variable {X : Cx} {pos : Pos}
theorem pgs_star {e : Expr} {es : List Expr} {t : TG} {u : TGs} {p : Pos} (h1 : PG X e t) (h2 : PGs X es u)
    (hs : (assignEach (.Starred e p :: es) X.env).map (·.2) = assign e X.env :: (assignEach es X.env).map (·.2) := by rfl) : PGs X (.Starred e p :: es) (gCons t u) := by
  refine ⟨fun pins s σ H vs us Q I r h => ?_⟩
  obtain ⟨v, vr, e1, h⟩ := h
  subst e1
  cases r with
  | cons r rr =>
    rw [hs]
    refine PyProof.Rows.assignInOrder_cons (thn (h1.run pins s σ H _ _ _ I r h) fun _ s1 ⟨σ1, H1, I1, q1⟩ => ?_)
    exact h2.run pins s1 σ1 H1 _ _ Q I1 rr q1
theorem pg_star {es : List Expr} {ky : Nat} {t : TGs} {k after : Nat} (hc : X.calm = true) (h : PGs X es t)
    (hn : (assignEach es X.env).length = k + 1 + after := by rfl) (hst : (assignEach es X.env).findIdx? (·.1) = some k := by rfl) : PG X (.Tuple es ky pos) (gStar X.K k after t) := by
  refine ⟨fun pins s σ H v u Q I r hw => ?_⟩
  obtain ⟨a, xs, e1, hq, hl, hw⟩ := hw
  subst e1
  obtain rfl : u = Value.ref a := r
  rw [PyProof.Rows.assign_Tuple]
  refine wpAny_bind (wpAny_standAt ?_)
  unfold unpack
  rw [hn, hst]
  have hh : X.A.handled = none := I.ok.hd hc
  have fin : ∀ (its : List Value) (s' : Shared) (first rest : List Value), Vals xs its → xs.length ≤ sizeLine → (∀ b o, s.heap.get? b = some o → s'.heap.get? b = some o) → s'.gens = s.gens → s'.drawn = s.drawn → s'.os = s.os → first.length = k → (∀ (j : Nat) u, first[j]? = some u → its[j]? = some u) → rest.length = its.length - k → (∀ (j : Nat) u, rest[j]? = some u → its[k + j]? = some u) →
      wpAny (model X.prog X.w) X.A (newList (rest.take (rest.length - after))) (fun l s'' => wpAny (model X.prog X.w) X.A (assignInOrder ((assignEach es X.env).map (·.2)) (first ++ [l] ++ rest.drop (rest.length - after))) (fun _ s' => ∃ σ' H', Inv X pins σ' H' s' ∧ Q σ' H') X.xe s'') X.xe s' := by
    intro its s' first rest rv z kp e1 e2 e3 l1 g1 l2 g2
    have lx := rv.length
    have hr : rest = its.drop k := by
      apply List.ext_getElem?
      intro j
      rw [List.getElem?_drop]
      cases e : rest[j]? with
      | some u => exact (g2 j u e).symm
      | none =>
        have := List.getElem?_eq_none_iff.mp e
        exact (List.getElem?_eq_none_iff.mpr (by omega)).symm
    have hf : first = its.take k := by
      apply List.ext_getElem?
      intro j
      cases e : first[j]? with
      | some u =>
        have hj := (List.getElem?_eq_some_iff.mp e).1
        rw [List.getElem?_take, if_pos (by omega)]
        exact (g1 j u e).symm
      | none =>
        have := List.getElem?_eq_none_iff.mp e
        exact (List.getElem?_eq_none_iff.mpr (by rw [List.length_take]; omega)).symm
    subst hr hf
    have I1 : Inv X pins σ H { s with heap := s'.heap, toks := s'.toks } := I.kept (t' := s'.toks) kp
    have es' : { s with heap := s'.heap, toks := s'.toks } = s' := by
      cases s'
      simp_all
    rw [es'] at I1
    have hfr : H s'.heap.objs.size = none := I1.hok.fresh (Nat.le_refl _)
    have r1 : Vals ((xs.drop k).take (xs.length - k - after)) ((its.drop k).take ((its.drop k).length - after)) := by
      rw [List.length_drop, ← lx]
      exact (rv.drop k).take _
    have z1 : ((xs.drop k).take (xs.length - k - after)).length ≤ sizeLine := by
      rw [List.length_take, List.length_drop]
      omega
    refine wpAny_newObj_type ?_ (by
      show (_ : Nat) ≤ _
      rw [List.size_toArray, ← r1.length]
      exact z1)
    have I2 : Inv X pins σ (upd H s'.heap.objs.size (.lst ((xs.drop k).take (xs.length - k - after)))) { s' with heap := s'.heap.push { cls := .type "list", dict := none, data := .seq ((its.drop k).take ((its.drop k).length - after)).toArray } } :=
      I1.laid (t' := s'.toks) (fun b u e => Heap.get?_push_of_some _ e) (Nat.le_refl _) ⟨z1, _, 0, r1, Heap.get?_push_size _ rfl⟩
    refine h.run pins _ σ _ _ _ Q I2 ?_ (hw _ hfr)
    have r2 : Vals ((xs.drop k).drop (xs.length - k - after)) ((its.drop k).drop ((its.drop k).length - after)) := by
      rw [List.length_drop, ← lx]
      exact (rv.drop k).drop _
    exact Vals.append (Vals.append (rv.take k) (.cons rfl .nil)) r2
  rcases hq with hq | hq
  · obtain ⟨its, rv, ht, hz⟩ := I.tuple hq
    have lx := rv.length
    have hlt : a ≠ s.heap.objs.size := by obtain ⟨o, ho, _⟩ := ht; exact Nat.ne_of_lt (Heap.lt_size ho)
    refine wpAny_bind (wpAny_holding (star_S (T := "tuple_iterator") (n := its.toArray.size) (P := fun i v => its.toArray[i]? = some v) (s0 := { s with heap := s.heap.push { cls := .type "tuple_iterator", data := .fields #[.ref a, .int 0 0] } })
      (.inr rfl) (Walks.toS (Walks.tuple (A := X.A.in1) hh s.heap.objs.size a hlt its.toArray)) (fun i s st => ?_) (by simp; omega) (by simp; omega) (by simp) (fun i s st b hb => ?_) ?_ (fun Q q => ?_) (fun Q q => ?_) (fun s' first rest mv l1 g1 l2 g2 => ?_)))
    · obtain ⟨o, ho, hcl, _⟩ := st.1
      exact ⟨o, ho, hcl⟩
    · simp at hb
      rcases hb with rfl | rfl
      · obtain ⟨o, ho, _⟩ := st.1
        exact Heap.lt_size ho
      · obtain ⟨o, ho, _⟩ := st.2
        exact Heap.lt_size ho
    · exact ⟨⟨_, Heap.get?_push_size _ rfl, rfl, rfl⟩, ht.push _⟩
    · unfold notIterableAtAll
      exact wpAny_bind (wpAny_specialOf ht.typeIs PyProof.Rows.slot_tuple_iter.lookup (wpAny_pure q))
    · exact wpAny_pyIter_tuple ht q
    · refine fin its s' first rest rv hz (fun b o e => mv.heap b o ?_ (Heap.get?_push_of_some _ e)) mv.gens mv.drawn mv.os l1 (fun j u e => by simpa using g1 j u e) (by simpa using l2) (fun j u e => by simpa using g2 j u e)
      simp
      exact Nat.ne_of_lt (Heap.lt_size e)
  · obtain ⟨its, rv, ht, hz⟩ := I.list hq
    have ht : s.heap.IsList a its.toArray := by
      obtain ⟨o, n, h1, h2, h3, h4⟩ := ht
      exact ⟨o, h1, h2, n, h4⟩
    have lx := rv.length
    have hlt : a ≠ s.heap.objs.size := by obtain ⟨o, ho, _⟩ := ht; exact Nat.ne_of_lt (Heap.lt_size ho)
    refine wpAny_bind (wpAny_holding (star_S (T := "list_iterator") (n := its.toArray.size) (P := fun i v => its.toArray[i]? = some v) (s0 := { s with heap := s.heap.push { cls := .type "list_iterator", data := .fields #[.ref a, .int 0 0] } })
      (.inl rfl) (Walks.toS (Walks.list (A := X.A.in1) hh s.heap.objs.size a hlt its.toArray)) (fun i s st => ?_) (by simp; omega) (by simp; omega) (by simp) (fun i s st b hb => ?_) ?_ (fun Q q => ?_) (fun Q q => ?_) (fun s' first rest mv l1 g1 l2 g2 => ?_)))
    · obtain ⟨o, ho, hcl, _⟩ := st.1
      exact ⟨o, ho, hcl⟩
    · simp at hb
      rcases hb with rfl | rfl
      · obtain ⟨o, ho, _⟩ := st.1
        exact Heap.lt_size ho
      · obtain ⟨o, ho, _⟩ := st.2
        exact Heap.lt_size ho
    · exact ⟨⟨_, Heap.get?_push_size _ rfl, rfl, rfl⟩, ht.push _⟩
    · unfold notIterableAtAll
      exact wpAny_bind (wpAny_specialOf ht.typeIs slot_list_iter.lookup (wpAny_pure q))
    · exact wpAny_pyIter_list ht q
    · refine fin its s' first rest rv hz (fun b o e => mv.heap b o ?_ (Heap.get?_push_of_some _ e)) mv.gens mv.drawn mv.os l1 (fun j u e => by simpa using g1 j u e) (by simpa using l2) (fun j u e => by simpa using g2 j u e)
      simp
      exact Nat.ne_of_lt (Heap.lt_size e)
end
end Bw

namespace Bw
open PySem PySem.Spec PyProof.Rows L2 LamX
/-! list(x), tuple(x), xs.insert -/
section
variable {X : Cx}
def rListOf (K : PySem.W.Frag) : List V → Hp → VK → Prop := fun xs H Q => ∃ p ys, xs = [.ref p] ∧ (SqL K H p ys ∨ SqT K H p ys) ∧ ∀ l, H l = none → Q (.ref l) (upd H l (.lst ys))
theorem cl_list : CallR X (.type "list") (rListOf X.K) := call_list_of
def rTupOf (K : PySem.W.Frag) : List V → Hp → VK → Prop := fun xs H Q => ∃ p ys, xs = [.ref p] ∧ ((SqL K H p ys ∧ ∀ l, H l = none → Q (.ref l) (upd H l (.tup ys))) ∨ (SqT K H p ys ∧ Q (.ref p) H))
theorem cl_tuple : CallR X (.type "tuple") (rTupOf X.K) := call_tuple_of
def rInsert : V → List V → Hp → VK → Prop := fun x vs H Q => ∃ (l : Addr) (xs : List V) (i : Int) (y : V), x = .ref l ∧ vs = [.int i, y] ∧ H l = some (.lst xs) ∧ xs.length < sizeLine ∧ 0 ≤ i ∧ i < 2 ^ 63 ∧ Q .non (upd H l (.lst (xs.take i.toNat ++ [y] ++ xs.drop i.toNat)))
theorem mt_insertN : MtR X "list.insert" rInsert := mt_insert
end
section
variable {K : PySem.W.Frag} {H : Hp} {Q : VK}
theorem w_listOf {p : Addr} {ys : List V} (h : SqL K H p ys) (k : ∀ l H2, H l = none → Same H H2 → H2 l = some (.lst ys) → Q (.ref l) H2) : rListOf K [.ref p] H Q := ⟨p, ys, rfl, .inl h, fun l n => k l _ n (same_new n) upd_same⟩
theorem w_tupOf {p : Addr} {ys : List V} (h : SqL K H p ys) (k : ∀ l H2, H l = none → Same H H2 → H2 l = some (.tup ys) → Q (.ref l) H2) : rTupOf K [.ref p] H Q := ⟨p, ys, rfl, .inl ⟨h, fun l n => k l _ n (same_new n) upd_same⟩⟩
theorem w_tupT {p : Addr} {ys : List V} (h : SqT K H p ys) (q : Q (.ref p) H) : rTupOf K [.ref p] H Q := ⟨p, ys, rfl, .inr ⟨h, q⟩⟩
theorem w_insert {l : Addr} {xs : List V} {i : Int} {y : V} (h : H l = some (.lst xs)) (hl : xs.length ≤ 60000) (h0 : 0 ≤ i) (hi : i ≤ 60000) (k : ∀ H2, KB l H H2 → H2 l = some (.lst (xs.take i.toNat ++ [y] ++ xs.drop i.toNat)) → Q .non H2) : rInsert (.ref l) [.int i, y] H Q :=
  ⟨l, xs, i, y, rfl, rfl, h, Nat.lt_of_le_of_lt hl (by decide), h0, by omega, k _ kb_upd upd_same⟩
end
/-- an if without else, what is behind it once -/
theorem w_decR {c A : Prop} {dc : Decidable c} {D : Ends} {σ : L2.St} {H : Hp} (Inv : L2.St → Hp → Prop) (h2 : ¬ c → Inv σ H) (h1 : (∀ σ H, Inv σ H → D.nx σ H) → c → A) (hi : ∀ σ H, Inv σ H → D.nx σ H) : if decide c = true then A else tNext D σ H := by
  by_cases h : c
  · rw [if_pos (decide_eq_true h)]
    exact h1 hi h
  · rw [if_neg (fun e => h (of_decide_eq_true e))]
    exact hi _ _ (h2 h)
/-! what is a list stays one -/
def Kinds (H H' : Hp) : Prop := (∀ a xs, H a = some (.lst xs) → ∃ ys, H' a = some (.lst ys)) ∧ ∀ a xs, H a = some (.tup xs) → H' a = some (.tup xs)
theorem Kinds.of {H H' : Hp} (e : Same H H') : Kinds H H' := ⟨fun a xs h => ⟨xs, e _ _ h⟩, fun a xs h => e _ _ h⟩
theorem Kinds.kb {p : Addr} {H H' : Hp} {xs ys : List V} (e : KB p H H') (h0 : H p = some (.lst xs)) (h : H' p = some (.lst ys)) : Kinds H H' := by
  refine ⟨fun a zs ha => ?_, fun a zs ha => ?_⟩
  · by_cases ea : a = p
    · exact ⟨ys, ea ▸ h⟩
    · exact ⟨zs, e _ _ ha ea⟩
  · by_cases ea : a = p
    · rw [ea, h0] at ha
      cases ha
    · exact e _ _ ha ea
theorem Kinds.trans {H H1 H' : Hp} (a : Kinds H H1) (b : Kinds H1 H') : Kinds H H' := ⟨fun p xs h => by
  obtain ⟨ys, h1⟩ := a.1 p xs h
  exact b.1 p ys h1, fun p xs h => b.2 p xs (a.2 p xs h)⟩
theorem TxtV.kinds {H H' : Hp} {v : V} (h : TxtV H v) (e : Kinds H H') : TxtV H' v := h.imp id fun q => by
  cases q with
  | non => exact .non
  | int i => exact .int i
  | bl b => exact .bl b
  | lst q => obtain ⟨ys, h1⟩ := e.1 _ _ q; exact .lst h1
  | tup q => exact .tup (e.2 _ _ q)
end Bw

namespace Bw
open PySem PySem.Spec PyProof.Rows L2 LamX
/-! ### own exceptions: the handed value -/
abbrev MonoA (ta : TA) : Prop := ∀ σ H (Q Q' : List V → Hp → Prop), (∀ vs H, Q vs H → Q' vs H) → ta σ H Q → ta σ H Q'
theorem monoV {i : Nat} : MonoA (tCons (tVar i) tNil) := fun σ H Q Q' hq h => by
  obtain ⟨v, e, q⟩ := h
  exact ⟨v, e, hq _ _ q⟩
theorem monoF {K : PySem.W.Frag} {i : Nat} {f : Str} : MonoA (tCons (tFld K (tVar i) f) tNil) := fun σ H Q Q' hq h => by
  obtain ⟨v, e, a, C, dx, fs, u, h1, h2, h3, h4, h5, q⟩ := h
  exact ⟨v, e, a, C, dx, fs, u, h1, h2, h3, h4, h5, hq _ _ q⟩
section
variable {K : PySem.W.Frag} {H : Hp} {Q : VK} {σ : L2.St} {D : Ends}
theorem w_xmk {C : Addr} {f : Str} {dvs : List V} {ta : TA} {QX : XK} (h : ta σ H fun vs H1 => ∃ v, vs ++ dvs = [v] ∧ ∀ d H2, H1 d = none → Same H1 H2 → H2 d = some (.xd [(f, v)]) → QX (.ref C) (some d) H2) : tXmk C f dvs ta σ H QX := h
theorem w_xv {v : V} {R : V → Prop} (h : R v) : ∃ v', [v] ++ [] = [v'] ∧ R v' := ⟨v, rfl, h⟩
theorem w_xv0 {v : V} {R : V → Prop} (h : R v) : ∃ v', [] ++ [v] = [v'] ∧ R v' := ⟨v, rfl, h⟩
/-! ### augmented stores -/
theorem w_aug {i : Nat} {te : TE} {ti : TIp} {x : V} (hx : σ[i]? = some (some x)) (h : te σ H fun y H1 => ti x y H1 fun z H2 => D.nx (σ.set i (some z)) H2) : tAug i te ti D σ H := ⟨x, hx, h⟩
theorem w_ipI {f : Int → Int → Int} {i j : Int} (q : Q (.int (f i j)) H) : ipI f (.int i) (.int j) H Q := ⟨i, j, rfl, rfl, q⟩
theorem w_rAdd {i j : Int} (q : Q (.int (i + j)) H) : L2.rAdd (.int i) (.int j) H Q := ⟨i, j, rfl, rfl, q⟩
theorem w_faug {ta tv : TE} {rd : V → V → Hp → VK → Prop} {f : Str} (h : ta σ H fun x H1 => ∃ a C dx fs v, x = .ref a ∧ H1 a = some (.ins C dx fs) ∧ Cls K C ∧ NoAttr K C f ∧ fs.lookup f = some v ∧
  tv σ H1 fun y H2 => rd v y H2 fun z H3 => ∃ dx' fs', H3 a = some (.ins C dx' fs') ∧ fs'.length < 1000 ∧ D.nx σ (upd H3 a (.ins C dx' (putF f z fs')))) : sFldAug K ta tv rd f D σ H := h
theorem w_faug1 {a C dx : Addr} {fs : List (Str × V)} {f : Str} {v : V} {R : Addr → Addr → V → Prop} (ho : H a = some (.ins C dx fs)) (hc : Cls K C) (hn : NoAttr K C f) (hl : fs.lookup f = some v) (q : R a C v) :
    ∃ a' C dx fs v, V.ref a = .ref a' ∧ H a' = some (.ins C dx fs) ∧ Cls K C ∧ NoAttr K C f ∧ fs.lookup f = some v ∧ R a' C v := ⟨a, C, dx, fs, v, rfl, ho, hc, hn, hl, q⟩
theorem w_faug2 {a C dx : Addr} {fs : List (Str × V)} {R : Addr → List (Str × V) → Prop} (ho : H a = some (.ins C dx fs)) (hl : fs.length < 1000) (q : R dx fs) :
    ∃ dx' fs', H a = some (.ins C dx' fs') ∧ fs'.length < 1000 ∧ R dx' fs' := ⟨dx, fs, ho, hl, q⟩
theorem w_notInS {c : Nat} {z : Str} (q : Q (.bl (!decide (c ∈ z.cps.toList))) H) : rNotInS (.str ⟨#[c]⟩) (.str z) H Q := ⟨c, z, rfl, rfl, q⟩
end
section
variable {X : Cx}
theorem ip_addS : PIp X .Add Bw.rAddS := fun pins s σ H x y v u Q I rx ry h => iop_add_str pins s σ H x y v u Q I rx ry h
theorem iop_mulU : OpR X (inplaceOp .Mult) (rI CMulU fun i j => .int (i * j)) := opI fun _ _ _ _ _ _ _ hc q => imul_int q hc
theorem ip_mulU : PIp X .Mult (rI CMulU fun i j => .int (i * j)) := fun pins s σ H x y v u Q I rx ry h => iop_mulU pins s σ H x y v u Q I rx ry h
theorem ip_modU : PIp X .Mod (rI (fun _ j => 0 < j) fun i j => .int (i % j)) := fun pins s σ H x y v u Q I rx ry h => iop_mod pins s σ H x y v u Q I rx ry h
/-! ### divmod, str.index -/
def rDivmod : List V → Hp → VK → Prop := fun xs H Q => ∃ i j, xs = [.int i, .int j] ∧ CDivP i j ∧ ∀ p, H p = none → Q (.ref p) (upd H p (.tup [.int (i / j), .int (i % j)]))
theorem cl_divmod : CallR X (.builtin "divmod") rDivmod := call_divmodW
def rSIdx : V → List V → Hp → VK → Prop := fun x xs H Q => ∃ a b i rest, x = .str a ∧ xs = [.str b] ∧ Builtin.Str.occurrences a b 0 a.length 1 = i :: rest ∧ Q (.int (i : Nat)) H
theorem mt_sidx : MtR X "str.index" rSIdx := mt_sindex
end
section
variable {H : Hp} {Q : VK}
theorem w_divmod {i j : Int} (h0 : 0 < j) (hb : j.natAbs < 2 ^ 64) (k : ∀ p H2, H p = none → Same H H2 → H2 p = some (.tup [.int (i / j), .int (i % j)]) → Q (.ref p) H2) : rDivmod [.int i, .int j] H Q :=
  ⟨i, j, rfl, ⟨h0, PyProof.noPylong_of_log2 (Nat.lt_of_lt_of_le (PySem.Flt.log2_lt_of (by decide) hb) (by decide : 64 ≤ 9000))⟩, fun p n => k p _ n (same_new n) upd_same⟩
theorem w_sidx {a b : Str} {i : Nat} {rest : List Nat} (e : Builtin.Str.occurrences a b 0 a.length 1 = i :: rest) (q : Q (.int (i : Nat)) H) : rSIdx (.str a) [.str b] H Q := ⟨a, b, i, rest, rfl, rfl, e, q⟩
end
/-! ### any thing of the plain kinds -/
inductive Thg (H : Hp) : V → Prop
  | non : Thg H .non
  | int (i : Int) : Thg H (.int i)
  | bl (b : Bool) : Thg H (.bl b)
  | str (x : Str) : Thg H (.str x)
  | lst {a : Addr} {xs : List V} : H a = some (.lst xs) → Thg H (.ref a)
  | tup {a : Addr} {xs : List V} : H a = some (.tup xs) → Thg H (.ref a)
theorem Thg.ext {H H' : Hp} {v : V} (h : Thg H v) (e : ExtN H H') : Thg H' v := by
  cases h with
  | non => exact .non
  | int i => exact .int i
  | bl b => exact .bl b
  | str x => exact .str x
  | lst q => exact .lst (e _ _ q (fun _ z => by cases z))
  | tup q => exact .tup (e _ _ q (fun _ z => by cases z))
theorem Thg.same {H H' : Hp} {v : V} (h : Thg H v) (e : Same H H') : Thg H' v := h.ext (extn_same e)
theorem Thg.kinds {H H' : Hp} {v : V} (h : Thg H v) (e : Kinds H H') : Thg H' v := by
  cases h with
  | non => exact .non
  | int i => exact .int i
  | bl b => exact .bl b
  | str x => exact .str x
  | lst q => obtain ⟨ys, h1⟩ := e.1 _ _ q; exact .lst h1
  | tup q => exact .tup (e.2 _ _ q)
/-- no list -/
inductive NoL (H : Hp) : V → Prop
  | non : NoL H .non
  | int (i : Int) : NoL H (.int i)
  | bl (b : Bool) : NoL H (.bl b)
  | str (x : Str) : NoL H (.str x)
  | tup {a : Addr} {xs : List V} : H a = some (.tup xs) → NoL H (.ref a)
theorem NoL.ty {K : PySem.W.Frag} {H : Hp} {v : V} (h : NoL H v) : ∃ tv, TyX K H v (.type tv) ∧ kitB tv "list" = some false := by
  cases h with
  | non => exact ⟨_, tyx_non, kit_NoneType_list⟩
  | int i => exact ⟨_, tyx_int, kit_int_list⟩
  | bl b => exact ⟨_, tyx_bl, kit_bool_list⟩
  | str x => exact ⟨_, tyx_str, kit_str_list⟩
  | tup e => exact ⟨_, tyx_tup e, kit_tuple_list⟩
theorem NoL.ext {H H' : Hp} {v : V} (h : NoL H v) (e : ExtN H H') : NoL H' v := by
  cases h with
  | non => exact .non
  | int i => exact .int i
  | bl b => exact .bl b
  | str x => exact .str x
  | tup q => exact .tup (e _ _ q (fun _ z => by cases z))
theorem NoL.thg {H : Hp} {v : V} (h : NoL H v) : Thg H v := by
  cases h with
  | non => exact .non
  | int i => exact .int i
  | bl b => exact .bl b
  | str x => exact .str x
  | tup q => exact .tup q
/-- refused with C, the field is v -/
def Raz (E : XK) (H : Hp) (C : Addr) (v : V) : Prop := ∀ d H', H d = none → Same H H' → H' d = some (.xd [("at", v)]) → E (.ref C) (some d) H'
theorem Raz.same {E : XK} {H H1 : Hp} {C : Addr} {v : V} (h : Raz E H C v) (s : Same H H1) : Raz E H1 C v := fun d H' n s' e => h d H' (same_free s n) (s.trans s') e
theorem kb_newD {p q : Addr} {H H' : Hp} {o : HO} (k : KB p H H') (hp : H' p = some o) (n : H' q = none) : H q = none := by
  cases e : H q with
  | none => rfl
  | some u =>
    have ne : q ≠ p := fun z => by rw [z, hp] at n; cases n
    rw [k q u e ne] at n
    cases n
theorem kb2 {p D : Addr} {H H4 H5 : Hp} (a : KB p H H4) (b : KB D H4 H5) (n : H D = none) : KB p H H5 := fun c o h nc => b c o (a c o h nc) (ne_of_none h n)
/-! ### texts by their signs -/
theorem str_ext {x y : Str} (h : x.cps.toList = y.cps.toList) : x = y := by
  obtain ⟨⟨a⟩⟩ := x
  obtain ⟨⟨b⟩⟩ := y
  congr 2
theorem cps_append (x y : Str) : (x ++ y).cps.toList = x.cps.toList ++ y.cps.toList := TL.tl_append x y
def S (l : List Nat) : Str := ⟨l.toArray⟩
theorem cps_S (l : List Nat) : (S l).cps.toList = l := rfl
theorem len_S (l : List Nat) : (S l).length = l.length := by
  show l.toArray.size = l.length
  simp
theorem len_cps (x : Str) : x.cps.toList.length = x.length := Array.length_toList
/-! ### lists of ints -/
section
variable {K : PySem.W.Frag} {H : Hp}
theorem dpAll_int : ∀ bs : List Int, DpAll K H (bs.map V.int) (bs.map PyData.int)
  | [] => .nil
  | b :: r => .cons (.int b) (dpAll_int r)
theorem depth_int : ∀ bs : List Int, PyData.depthAll (bs.map PyData.int) = 0
  | [] => rfl
  | b :: r => by simp [PyData.depthAll, PyData.depth, depth_int r]
theorem lay_int : ∀ {bs : List Int}, PyData.canLayAll0 (bs.map PyData.int) = true
  | [] => by simp [PyData.canLayAll0]
  | b :: r => by simp [PyData.canLayAll0, PyData.canLay0, lay_int (bs := r)]
theorem shaped_int {bs : List Int} : SeqAt.shaped (.list (bs.map PyData.int)) = true := by
  simp [SeqAt.shaped, PyData.canLay0, lay_int, PyData.depth, depth_int]
theorem eqvAll_int : ∀ bs cs : List Int, PyData.eqvAll (bs.map PyData.int) (cs.map PyData.int) = decide (bs = cs)
  | [], [] => by simp [PyData.eqvAll]
  | [], c :: s => by simp [PyData.eqvAll]
  | b :: r, [] => by simp [PyData.eqvAll]
  | b :: r, c :: s => by
    simp only [List.map_cons, PyData.eqvAll, PyData.eqv, eqvAll_int r s, List.cons.injEq]
    by_cases h1 : b = c <;> by_cases h2 : r = s <;> simp [h1, h2]
theorem eqv_ints (bs cs : List Int) : PyData.eqv (.list (bs.map PyData.int)) (.list (cs.map PyData.int)) = decide (bs = cs) := by
  simp only [PyData.eqv, eqvAll_int]
end
end Bw

namespace Bw
open PySem PySem.Spec PyProof.Rows L2 LamX
abbrev selfAt : List Str := ["self", "at"]
/-- an own exception with the field at, from what K holds -/
theorem xcl_of {P : Program} {w : World} {K : PySem.W.Frag} {mg : Str → Option Value} {base : Heap} {x qual : Str} {C fI T : Addr} {st : Stmt} {oc ocT kV doc pm cd ct : Value} {od odT an : Option Addr} {sl slT : Array (Option Value)} {nT : Nat}
    (T0 : OexC K C) (no : PySem.W.findIn K (.ref C) "at" = some none) (hm : mg x = some (.ref C)) (iC : PySem.W.findIn K (.ref C) "__init__" = some (some (.ref fI))) (tI : PySem.W.typeIn K (.ref fI) = some (.type "function"))
    (l : K.lookup fI = some ⟨oc, od, .func (PySem.W.fnOf "__init__" qual (defArgs st) (defBody st) (defScope st) (.ref T) kV doc pm an cd ct), sl⟩) (hc : PySem.W.codeIn K cd qual = true) (kp : PySem.W.keepIn K (.ref fI) = true)
    (lT : K.lookup T = some ⟨ocT, odT, .seq (List.toArray [.none]) nT, slT⟩)
    (F0 : ∀ fd, FunD K "__init__" qual (defArgs st) (defBody st) (defScope st) [.non] [] fI fd → FnOk P w K mg base CX0 1 fI fd selfAt (spXi K "at"))
    (b0 : ∀ (T : Addr) (kV doc pm : Value) (an : Option Addr) (cdv ct : Value) (us its : List Value), us.length = 1 → its.length = 1 →
      ∃ k, bindArgs (PySem.W.fnOf "__init__" qual (defArgs st) (defBody st) (defScope st) (.ref T) kV doc pm an cdv ct) ⟨us, []⟩ = seqItems? (.ref T) >>= k ∧ k (some its.toArray) = pure (selfAt.zip (us ++ its.drop 0)))
    (b1 : ∀ (T : Addr) (kV doc pm : Value) (an : Option Addr) (cdv ct : Value) (us its : List Value), us.length = 2 → its.length = 1 →
      ∃ k, bindArgs (PySem.W.fnOf "__init__" qual (defArgs st) (defBody st) (defScope st) (.ref T) kV doc pm an cdv ct) ⟨us, []⟩ = seqItems? (.ref T) >>= k ∧ k (some its.toArray) = pure (selfAt.zip (us ++ its.drop 1))) :
    Xcl P w K mg base x C 1 "at" [.non] ∧ Xcl P w K mg base x C 1 "at" [] := by
  have F : FunD K "__init__" qual (defArgs st) (defBody st) (defScope st) [.non] [] fI _ := ⟨⟨_, _, _, _, _, _, _, _, _, _, rfl, l, hc, .inr ⟨by simp, _, _, _, _, rfl, lT, rfl, .cons rfl .nil⟩, .inl rfl⟩, kp⟩
  obtain ⟨d0, h0, e0⟩ := F.binds1 (ps := selfAt) 1 0 (by simp) rfl b0
  obtain ⟨d1, h1, e1⟩ := F.binds1 (ps := selfAt) 2 1 (by simp) rfl b1
  exact ⟨⟨T0, no, hm, fI, _, d0, _, iC, tI, F0 _ F, e0, h0⟩, ⟨T0, no, hm, fI, _, d1, _, iC, tI, F0 _ F, e1, h1⟩⟩
theorem oex_mk {K : PySem.W.Frag} {C : Addr} {nm q : Str} {N : Addr} {bs bm : List Value} {sn : List Str} {sub : List Value} {ab : Bool} {col : Option Bool} {dd : Option Addr} {k0 k1 k2 k3 k5 : Option Value}
    (l : K.lookup C = some (excClassObj nm q C N bs bm true sn sub ab col dd k0 k1 k2 k3 k5 "ValueError.__new__")) (r : PySem.HandSPX.refsVE bm = true) (sa : PySem.W.findIn K (.ref C) "__setattr__" = some (some (.builtin "object.__setattr__")))
    (exC : PySem.W.subIn K (.ref C) (.type "BaseException") = some true) (tyC : PySem.W.typeIn K (.ref C) = some (.type "type")) (kC : PySem.W.keepIn K (.ref C) = true) : OexC K C := ⟨⟨nm, q, N, bs, bm, sn, sub, ab, col, dd, k0, k1, k2, k3, k5, l, r⟩, sa, exC, tyC, kC⟩
/-! ### data that can be compared -/
structure GoodD (d : PyData) (n : Nat) : Prop where
  lay : PyData.canLay0 d = true
  dep : PyData.depth d ≤ n
  refl : PyData.eqv d d = true
theorem GoodD.shaped {d : PyData} {n : Nat} (h : GoodD d n) (hn : n ≤ 64) : SeqAt.shaped d = true := by
  unfold SeqAt.shaped
  rw [h.lay, decide_eq_true (Nat.le_trans h.dep hn)]
  rfl
theorem GoodD.mono {d : PyData} {n m : Nat} (h : GoodD d n) (l : n ≤ m) : GoodD d m := ⟨h.lay, Nat.le_trans h.dep l, h.refl⟩
theorem good_int {i : Int} {n : Nat} : GoodD (.int i) n := ⟨by simp [PyData.canLay0], by simp [PyData.depth], by simp [PyData.eqv]⟩
theorem good_bool {b : Bool} {n : Nat} : GoodD (.bool b) n := ⟨by simp [PyData.canLay0], by simp [PyData.depth], by simp [PyData.eqv]⟩
theorem good_none {n : Nat} : GoodD .none n := ⟨by simp [PyData.canLay0], by simp [PyData.depth], by simp [PyData.eqv]⟩
theorem good_str {x : Str} {n : Nat} (h : PyData.strOk x = true) : GoodD (.str x) n := ⟨by simp [PyData.canLay0, h], by simp [PyData.depth], by simp [PyData.eqv]⟩
theorem good_all {n : Nat} : ∀ {ds : List PyData}, (∀ d ∈ ds, GoodD d n) → PyData.canLayAll0 ds = true ∧ PyData.depthAll ds ≤ n ∧ PyData.eqvAll ds ds = true
  | [], _ => by simp [PyData.canLayAll0, PyData.depthAll, PyData.eqvAll]
  | d :: r, h => by
    obtain ⟨h1, h2, h3⟩ := good_all (ds := r) (fun x hx => h x (List.mem_cons_of_mem _ hx))
    have h0 := h d List.mem_cons_self
    refine ⟨by simp [PyData.canLayAll0, h0.lay, h1], ?_, by simp [PyData.eqvAll, h0.refl, h3]⟩
    have := h0.dep
    simp only [PyData.depthAll]
    omega
theorem good_list {n : Nat} {ds : List PyData} (h : ∀ d ∈ ds, GoodD d n) : GoodD (.list ds) (n + 1) := by
  obtain ⟨h1, h2, h3⟩ := good_all h
  exact ⟨by simp [PyData.canLay0, h1], by simp only [PyData.depth]; omega, by simp [PyData.eqv, h3]⟩
theorem good_tuple {n : Nat} {ds : List PyData} (h : ∀ d ∈ ds, GoodD d n) : GoodD (.tuple ds) (n + 1) := by
  obtain ⟨h1, h2, h3⟩ := good_all h
  exact ⟨by simp [PyData.canLay0, h1], by simp only [PyData.depth]; omega, by simp [PyData.eqv, h3]⟩
section
variable {K : PySem.W.Frag} {H : Hp} {Q : VK}
/-- one thing equals the like -/
theorem w_eqG {x y : V} {d : PyData} {n : Nat} (hx : Dp K H x d) (hy : Dp K H y d) (g : GoodD d n) (hn : n ≤ 64) (q : Q (.bl true) H) : rEqD K x y H Q := w_eqD hx hy (g.shaped hn) (g.shaped hn) g.refl q
theorem w_neG {x y : V} {d : PyData} {n : Nat} (hx : Dp K H x d) (hy : Dp K H y d) (g : GoodD d n) (hn : n ≤ 64) (q : Q (.bl false) H) : rNeD K x y H Q := w_neD hx hy (g.shaped hn) (g.shaped hn) g.refl q
theorem DpAll.append : ∀ {xs ys : List V} {ds es : List PyData}, DpAll K H xs ds → DpAll K H ys es → DpAll K H (xs ++ ys) (ds ++ es)
  | _, _, _, _, .nil, h => h
  | _, _, _, _, .cons h r, h2 => .cons h (DpAll.append r h2)
def nD (n : Nat) : PyData := .int n
theorem dpAll_nat {f : Nat → V} (hf : ∀ n, f n = .int n) : ∀ ns : List Nat, DpAll K H (ns.map f) (ns.map nD)
  | [] => .nil
  | n :: r => .cons (by rw [hf n]; exact .int _) (dpAll_nat hf r)
theorem good_nats (ns : List Nat) : ∀ d ∈ ns.map nD, GoodD d 0 := fun d hd => by
  obtain ⟨n, _, rfl⟩ := List.mem_map.mp hd
  exact good_int
theorem same_dp {H' : Hp} {v : V} {d : PyData} (s : Same H H') (h : Dp K H v d) : Dp K H' v d := Dp.extn (extn_same s) h
theorem same_dpAll {H' : Hp} {vs : List V} {ds : List PyData} (s : Same H H') (h : DpAll K H vs ds) : DpAll K H' vs ds := DpAll.extn (extn_same s) h
end
end Bw

namespace Bw
open PySem PySem.Spec PyProof.Rows L2 LamX
section
variable {K : PySem.W.Frag} {H : Hp} {Q : VK} {σ : L2.St}
theorem w_revE {te : TE} (h : te σ H fun x H1 => ∃ a xs, x = .ref a ∧ SqL K H1 a xs ∧ ∀ p, H1 p = none → Q (.ref p) (upd H1 p (.lst xs.reverse))) : tRevL K te σ H Q := h
theorem w_rev {a : Addr} {xs : List V} (h : SqL K H a xs) (k : ∀ p H2, H p = none → Same H H2 → H2 p = some (.lst xs.reverse) → Q (.ref p) H2) : ∃ a' xs, V.ref a = .ref a' ∧ SqL K H a' xs ∧ ∀ p, H p = none → Q (.ref p) (upd H p (.lst xs.reverse)) := ⟨a, xs, rfl, h, fun p n => k p _ n (same_new n) upd_same⟩
end
end Bw

namespace Bw
open PySem PySem.Spec PyProof.Rows L2 LamX
/-! ### d.setdefault(k, v); classes made by keywords -/
section
variable {H : Hp} {Q : VK} {σ : L2.St}
theorem w_dsetd {td ty tx : TE} (h : td σ H fun x H1 => ∃ a, x = .ref a ∧ IsD H1 a ∧ ty σ H1 fun y H2 => tx σ H2 fun z H3 => ∃ (kvs : List (Key × V)) (k : Key), H3 a = some (.dK kvs) ∧ y = kV k ∧ kvs.length < sizeLine ∧
  (∀ v, valV kvs k = some v → Q v H3) ∧ (valV kvs k = none → Q z (upd H3 a (.dK (putK kvs k z))))) : tDSetd td ty tx σ H Q := h
theorem w_dset1 {a : Addr} {kvs : List (Key × V)} {R : Addr → Prop} (h : H a = some (.dK kvs)) (q : R a) : ∃ a', V.ref a = .ref a' ∧ IsD H a' ∧ R a' := ⟨a, rfl, .inl ⟨kvs, .inl h⟩, q⟩
theorem w_dnewK (k : ∀ p H2, H p = none → Same H H2 → H2 p = some (.dK []) → Q (.ref p) H2) : tDNewK σ H Q := fun p n => k p _ n (same_new n) upd_same
end
def rRepS : R2 := fun x y H Q => ∃ z n, x = .str z ∧ y = .int n ∧ MulOk z n ∧ Q (.str (Txt.mul z n)) H
theorem op_repS {X : Cx} : OpR X (binaryOp .Mult) rRepS := by
  intro pins s σ H x y v u Q I rx ry h
  obtain ⟨i, j, rfl, rfl, hz, q⟩ := h
  obtain ⟨t, rfl⟩ := rx
  obtain ⟨t', rfl⟩ := ry
  exact SB.mul hz fun t' tk => ⟨.str _, H, I.tok _, ⟨_, rfl⟩, q⟩
theorem w_repS {z : Str} {n : Int} {H : Hp} {Q : VK} (h : MulOk z n) (q : Q (.str (Txt.mul z n)) H) : rRepS (.str z) (.int n) H Q := ⟨z, n, rfl, rfl, h, q⟩
theorem ip_fdivU {X : Cx} : PIp X .FloorDiv (rI CDiv fun i j => .int (i / j)) := fun pins s σ H x y v u Q I rx ry h => iop_fdiv pins s σ H x y v u Q I rx ry h
theorem w_fdivI {i j : Int} {H : Hp} {Q : VK} (h : CDiv i j) (q : Q (.int (i / j)) H) : rI CDiv (fun i j => .int (i / j)) (.int i) (.int j) H Q := ⟨i, j, rfl, rfl, h, q⟩
structure MkrXK (P : Program) (w : World) (K : PySem.W.Frag) (mg : Str → Option Value) (base : Heap) (x : Str) (C : Addr) (k : Nat) (ps : List Str) (ks : List Str) (gV : List V → List V → List V) (sp : Sp) : Prop where
  ex : ∃ (f : Addr) (fd : FuncData) (g : List Value → List Value → List Value), Mk K C f ∧ FnOk P w K mg base (L2.CX P w) k f fd ps sp ∧ mg x = some (.ref C) ∧ KBn K fd ps 1 ks g gV
section
variable {X : Cx}
theorem pe_mkxk {E : XK} {x : Str} {C : Addr} {k : Nat} {ps ks : List Str} {gV : List V → List V → List V} {sp : Sp} {kws : List Keyword} {tk : TA} {p pos : Pos} (M : MkrXK X.prog X.w X.K X.mg X.base x C k ps ks gV sp) (hx : Lets X E) (hr : Room (k + 1) X.A) (hg : Gl X x) (hkw : PK X kws tk)
    (hall : (backToKw pos (keywordEach kws X.env)).all (·.1.isSome) = true := by rfl) (hks : (backToKw pos (keywordEach kws X.env)).filterMap (·.1) = ks := by rfl) (hdb : (x == ("__debug__" : Str)) = false := by decide)
    (hpl : ((backTo pos (starEach [] X.env)).any (·.1) || (backToKw pos (keywordEach kws X.env)).any (·.1.isNone)) = false := by rfl) :
    PE X (.Call (.Name x p) [] kws pos) (tMakeK C 0 ks.length sp gV E tNil tk) := by
  obtain ⟨f, fd, g, M, G, hm, hb⟩ := M.ex
  exact pe_makeK0 M G hr hg hm hb hx hkw hall hks hdb hpl
end
end Bw

namespace Bw
open PySem PySem.Spec PyProof.Rows L2 LamX
/-! ### rpartition, zfill, count, int(x, 16), pop; defs with defaults, called by keywords -/
section
variable {X : Cx}
def rRpart : V → List V → Hp → VK → Prop := fun x xs H Q => ∃ a b, x = .str a ∧ xs = [.str b] ∧ (b.length == 0) = false ∧ a.length ≤ sizeLine ∧
    ∀ p, H p = none → Q (.ref p) (upd H p (.tup [.str (Txt.rpartition a b).1, .str (Txt.rpartition a b).2.1, .str (Txt.rpartition a b).2.2]))
theorem mt_rpartition : MtR X "str.rpartition" rRpart := by
  intro pins s σ H x xs v us Q I rx rs h
  obtain ⟨a, b, rfl, rfl, hb, hz, h⟩ := h
  obtain ⟨t, rfl⟩ := rx
  cases rs with
  | cons r1 rs =>
    cases rs
    obtain ⟨u, rfl⟩ := r1
    refine call_meets F.slot_str_rpartition (typeIs_str _ _ _) F.entry_str_rpartition (F.args_str_rpartition_2 _ _) (meets_str_rpartition a b t u hb hz) ?_
    unfold Txt.rpartition at h
    revert h
    cases Builtin.Str.lastOccurrence a b 0 a.length with
    | none => intro h; exact laid_parts I h
    | some i => intro h; exact laid_parts I h
def rCountS : V → List V → Hp → VK → Prop := fun x xs H Q => ∃ a b, x = .str a ∧ xs = [.str b] ∧ Q (.int (Txt.count a b)) H
theorem mt_countS : MtR X "str.count" rCountS := mt_count
def rZfill : V → List V → Hp → VK → Prop := fun x xs H Q => ∃ (a : Str) (i : Int), x = .str a ∧ xs = [.int i] ∧ PadOk i = true ∧ Q (.str (Txt.zfill a i)) H
theorem mt_zfillS : MtR X "str.zfill" rZfill := mt_zfill
theorem cl_intHex : CallR X (.type "int") rIntHex := call_int_hex
end
section
variable {K : PySem.W.Frag} {H : Hp} {Q : VK}
theorem w_rpart {x y : Str} (hy : (y.length == 0) = false) (hx : x.length ≤ sizeLine) (k : ∀ p H2, H p = none → Same H H2 → H2 p = some (.tup [.str (Txt.rpartition x y).1, .str (Txt.rpartition x y).2.1, .str (Txt.rpartition x y).2.2]) → Q (.ref p) H2) : rRpart (.str x) [.str y] H Q :=
  ⟨x, y, rfl, rfl, hy, hx, fun p n => k p _ n (same_new n) upd_same⟩
theorem w_countS {x y : Str} (q : Q (.int (Txt.count x y)) H) : rCountS (.str x) [.str y] H Q := ⟨x, y, rfl, rfl, q⟩
theorem w_zfill {x : Str} {i : Int} (h : PadOk i = true) (q : Q (.str (Txt.zfill x i)) H) : rZfill (.str x) [.int i] H Q := ⟨x, i, rfl, rfl, h, q⟩
theorem w_intHex {l : List Nat} (h0 : l ≠ []) (hl : l.length ≤ 640) (hx : ∀ c ∈ l, Hx.IsHex c) (q : Q (.int ((Hx.hexNum l : Nat) : Int)) H) : rIntHex [.str (S l), .int 16] H Q := ⟨l, rfl, h0, hl, hx, q⟩
theorem w_pop {l : Addr} {xs : List V} {y : V} (h : H l = some (.lst xs)) (hy : xs[xs.length - 1]? = some y) (k : ∀ H2, KB l H H2 → H2 l = some (.lst xs.dropLast) → Q y H2) : rPop (.ref l) [] H Q := ⟨l, xs, y, rfl, rfl, h, hy, k _ kb_upd upd_same⟩
theorem w_reverse {l : Addr} {xs : List V} (h : H l = some (.lst xs)) (k : ∀ H2, KB l H H2 → H2 l = some (.lst xs.reverse) → Q .non H2) : rReverse (.ref l) [] H Q := ⟨l, xs, rfl, rfl, h, k _ kb_upd upd_same⟩
/-- str(a number) -/
theorem w_strI {i : Int} (h : i.natAbs < 2 ^ 1919) (q : Q (.str (toString i)) H) : rStrI [.int i] H Q := ⟨i, rfl, PySem.Flt.log2_lt_of (by decide) (Nat.lt_of_lt_of_le h (Nat.pow_le_pow_right (by decide) (by decide))), q⟩
end
/-! ### rpartition by one sign -/
theorem at_one {x : Str} {c : Nat} {i : Nat} : StrLaws.At x ⟨#[c]⟩ x.length i ↔ x.cps.toList[i]? = some c := by
  rw [TL.at_iff (y := ⟨#[c]⟩) (by show ([c] : List Nat) ≠ []; simp)]
  show ((x.cps.toList.drop i).take 1 == [c]) = true ↔ _
  rw [beq_iff_eq]
  rcases Nat.lt_or_ge i x.cps.toList.length with h | h
  · rw [List.drop_eq_getElem_cons h, List.getElem?_eq_getElem h]
    simp
  · rw [List.drop_eq_nil_of_le h, List.getElem?_eq_none h]
    simp
theorem rpart_app {a b : List Nat} {c : Nat} (h : c ∉ b) : Txt.rpartition (S (a ++ c :: b)) ⟨#[c]⟩ = (S a, ⟨#[c]⟩, S b) := by
  have hA : ∀ k, a.length < k → ¬ StrLaws.At (S (a ++ c :: b)) ⟨#[c]⟩ (S (a ++ c :: b)).length k := fun k hk z => by
    rw [at_one, cps_S, List.getElem?_append_right (Nat.le_of_lt hk)] at z
    obtain ⟨m, hm⟩ : ∃ m, k - a.length = m + 1 := ⟨k - a.length - 1, by omega⟩
    rw [hm, List.getElem?_cons_succ] at z
    exact h (List.mem_of_getElem? z)
  have hB : StrLaws.At (S (a ++ c :: b)) ⟨#[c]⟩ (S (a ++ c :: b)).length a.length := by
    rw [at_one, cps_S]
    simp
  unfold Txt.rpartition
  rcases StrLaws.last_spec (S (a ++ c :: b)) ⟨#[c]⟩ with ⟨_, hn⟩ | ⟨i, e, hi, hn⟩
  · exact absurd hB (hn _)
  · have hia : i = a.length := by
      rcases Nat.lt_trichotomy i a.length with h1 | h1 | h1
      · exact absurd hB (hn _ h1)
      · exact h1
      · exact absurd hi (hA _ h1)
    subst hia
    rw [e]
    have e1 : Builtin.Str.strSub (S (a ++ c :: b)) 0 a.length = S a := str_ext (by
      show TL.tl _ = _
      rw [TL.tl_strSub]
      show ((a ++ c :: b).drop 0).take _ = a
      simp)
    have e2 : Builtin.Str.strSub (S (a ++ c :: b)) (a.length + 1) (S (a ++ c :: b)).length = S b := str_ext (by
      show TL.tl _ = _
      rw [TL.tl_strSub_end]
      show (a ++ c :: b).drop _ = b
      simp)
    show (_, _, Builtin.Str.strSub (S (a ++ c :: b)) (a.length + 1) (S (a ++ c :: b)).length) = _
    rw [e1, e2]
theorem rpart_none {a : List Nat} {c : Nat} (h : c ∉ a) : Txt.rpartition (S a) ⟨#[c]⟩ = (Str.empty, Str.empty, S a) := by
  unfold Txt.rpartition
  rcases StrLaws.last_spec (S a) ⟨#[c]⟩ with ⟨e, hn⟩ | ⟨i, e, hi, hn⟩
  · rw [e]
  · rw [at_one, cps_S] at hi
    exact absurd (List.mem_of_getElem? hi) h
theorem cnt_ge (c : Nat) : ∀ l : List Nat, 0 ≤ cnt c l
  | [] => Int.le_refl 0
  | n :: r => by
    rw [cnt_cons]
    have := cnt_ge c r
    split <;> omega
theorem cnt_mem {c : Nat} : ∀ {l : List Nat}, c ∈ l → 0 < cnt c l
  | n :: r, h => by
    rw [cnt_cons]
    have := cnt_ge c r
    rcases List.mem_cons.mp h with e | h
    · rw [if_pos e.symm]
      omega
    · have := cnt_mem h
      split <;> omega
/-! ### defs with defaults -/
/-- called by places: dvs are what is told by default behind them -/
structure FnD (P : Program) (w : World) (K : PySem.W.Frag) (mg : Str → Option Value) (base : Heap) (CX : CXT) (x : Str) (k : Nat) (ps : List Str) (dvs : List V) (sp : Sp) : Prop where
  ex : ∃ (f : Addr) (fd : FuncData) (ds : List Value), FnOk P w K mg base CX k f fd ps sp ∧ mg x = some (.ref f) ∧ PySem.W.keepIn K (.ref f) = true ∧ Binds K fd ps ds ∧ Vals dvs ds
/-- n by places, the others by the names ks -/
structure FnK (P : Program) (w : World) (K : PySem.W.Frag) (mg : Str → Option Value) (base : Heap) (CX : CXT) (x : Str) (k : Nat) (ps : List Str) (n : Nat) (ks : List Str) (gV : List V → List V → List V) (sp : Sp) : Prop where
  ex : ∃ (f : Addr) (fd : FuncData) (g : List Value → List Value → List Value), FnOk P w K mg base CX k f fd ps sp ∧ mg x = some (.ref f) ∧ PySem.W.keepIn K (.ref f) = true ∧ KBn K fd ps n ks g gV
section
variable {X : Cx}
theorem pe_fnd {CX : CXT} {E : XK} {x : Str} {k : Nat} {ps : List Str} {dvs : List V} {sp : Sp} {e : Expr} {es : List Expr} {t : TA} {p pos : Pos} (F : FnD X.prog X.w X.K X.mg X.base CX x k ps dvs sp) (hx : Passes CX X E) (hr : Room k X.A) (hg : Gl X x) (ha : PA X (e :: es) t)
    (hdb : (x == ("__debug__" : Str)) = false := by decide) (he : starEach (e :: es) X.env = (false, eval e X.env) :: starEach es X.env := by rfl) (hpl : (backTo pos (starEach es X.env)).any (·.1) = false := by rfl) :
    PE X (.Call (.Name x p) (e :: es) [] pos) (tCall sp dvs E t) := by
  obtain ⟨f, fd, ds, G, hm, hk, hb, hd⟩ := F.ex
  exact pe_call G hr hg hm hk hb hd hx ha hdb he hpl
theorem pe_fnk {CX : CXT} {E : XK} {x : Str} {k n : Nat} {ps ks : List Str} {gV : List V → List V → List V} {sp : Sp} {e : Expr} {es : List Expr} {kws : List Keyword} {t tk : TA} {p pos : Pos} (F : FnK X.prog X.w X.K X.mg X.base CX x k ps n ks gV sp) (hx : Passes CX X E) (hr : Room k X.A) (hg : Gl X x) (ha : PA X (e :: es) t) (hkw : PK X kws tk)
    (hall : (backToKw pos (keywordEach kws X.env)).all (·.1.isSome) = true := by rfl) (hks : (backToKw pos (keywordEach kws X.env)).filterMap (·.1) = ks := by rfl)
    (hdb : (x == ("__debug__" : Str)) = false := by decide) (he : starEach (e :: es) X.env = (false, eval e X.env) :: starEach es X.env := by rfl)
    (hpl : ((backTo pos (starEach (e :: es) X.env)).any (·.1) || (backToKw pos (keywordEach kws X.env)).any (·.1.isNone)) = false := by rfl) :
    PE X (.Call (.Name x p) (e :: es) kws pos) (tCallN n ks.length sp gV E t tk) := by
  obtain ⟨f, fd, g, G, hm, hk, hb⟩ := F.ex
  exact pe_callN G hr hg hm hk hb hx ha hkw hall hks hdb he hpl
end
section
variable {σ : L2.St} {H : Hp} {Q : VK}
theorem w_callD {sp : Sp} {dvs : List V} {tA : TA} {E : XK} (h : tA σ H fun vs H1 => sp (vs ++ dvs) H1 Q E) : tCall sp dvs E tA σ H Q := h
theorem w_callN {n m : Nat} {sp : Sp} {gV : List V → List V → List V} {E : XK} {t tk : TA} (h : t σ H fun vs H1 => tk σ H1 fun zs H2 => vs.length = n ∧ zs.length = m ∧ sp (gV vs zs) H2 Q E) : tCallN n m sp gV E t tk σ H Q := h
theorem w_nlen {xs ys : List V} {n m : Nat} {R : Prop} (h1 : xs.length = n) (h2 : ys.length = m) (q : R) : xs.length = n ∧ ys.length = m ∧ R := ⟨h1, h2, q⟩
end
end Bw

namespace Bw
open PySem PySem.Spec PyProof.Rows L2 LamX
/-! ### texts of whole files, plainly -/
theorem strOk_of {x : Str} (h : ∀ c ∈ x.cps.toList, c < 1114112) : PyData.strOk x = true := by
  unfold PyData.strOk
  rw [Array.all_eq_true']
  intro c hc
  exact decide_eq_true (h c (Array.mem_toList_iff.mpr hc))
/-- four figures -/
def zf (n : Nat) : List Nat := List.replicate (4 - (TL.numL n).length) 48 ++ TL.numL n
theorem num_S (n : Nat) : (Str.ofString (toString ((n : Nat) : Int))) = S (TL.numL n) := str_ext (TL.tl_num n)
theorem numL_len4 {n : Nat} (h : n ≤ 9999) : (TL.numL n).length ≤ 4 := TL.numL_len (by decide) (by omega)
theorem zf_len {n : Nat} (h : n ≤ 9999) : (zf n).length = 4 := by
  have := numL_len4 h
  unfold zf
  rw [List.length_append, List.length_replicate]
  omega
theorem zf_dig {n : Nat} : ∀ c ∈ zf n, 48 ≤ c ∧ c ≤ 57 := fun c hc => by
  unfold zf at hc
  rcases List.mem_append.mp hc with h | h
  · have := (List.mem_replicate.mp h).2
    omega
  · have := TL.numL_digits n c h
    omega
theorem zfill_num {n : Nat} : Txt.zfill (S (TL.numL n)) 4 = S (zf n) := by
  unfold Txt.zfill
  rw [len_S]
  split
  · rename_i h
    unfold zf
    rw [show 4 - (TL.numL n).length = 0 by omega]
    rfl
  · rename_i h
    unfold zfilled
    have key : Builtin.Str.padded (S (TL.numL n)) ((4 : Int).toNat - (TL.numL n).length) 0 48 = S (zf n) := str_ext (by
      show (Array.replicate _ 48 ++ (TL.numL n).toArray ++ Array.replicate 0 48).toList = zf n
      unfold zf
      simp)
    have hne := TL.numL_ne n
    have hd := TL.numL_digits n
    generalize hl : TL.numL n = l at *
    cases l with
    | nil => exact absurd rfl hne
    | cons c r =>
      have hc := hd c List.mem_cons_self
      have e : (S (c :: r)).cps[0]? = some c := rfl
      rw [e]
      split
      · rename_i z
        cases z
        exact absurd hc (by decide)
      · rename_i z
        cases z
        exact absurd hc (by decide)
      · exact key
theorem mul_zero_ok {n : Int} (h : n ≤ 4) (h0 : -10 ≤ n) : MulOk "0" n := by
  have e : ("0" : Str).length = 1 := rfl
  have hn : n = -10 ∨ n = -9 ∨ n = -8 ∨ n = -7 ∨ n = -6 ∨ n = -5 ∨ n = -4 ∨ n = -3 ∨ n = -2 ∨ n = -1 ∨ n = 0 ∨ n = 1 ∨ n = 2 ∨ n = 3 ∨ n = 4 := by omega
  rcases hn with rfl | rfl | rfl | rfl | rfl | rfl | rfl | rfl | rfl | rfl | rfl | rfl | rfl | rfl | rfl <;> (unfold MulOk; decide +kernel)
theorem mul_zero {k : Nat} (h : k ≤ 4) : Txt.mul "0" (k : Int) = S (List.replicate k 48) := by
  have hk : k = 0 ∨ k = 1 ∨ k = 2 ∨ k = 3 ∨ k = 4 := by omega
  rcases hk with rfl | rfl | rfl | rfl | rfl <;> decide +kernel
/-- rows with their ends -/
def sgn (rows : List Str) : List Nat := (rows.map fun r => r.cps.toList ++ [10]).flatten
theorem join_lines (h : Str) : ∀ rows : List Str, (Str.join ("\n" : Str) (h :: rows)).cps.toList ++ [10] = h.cps.toList ++ [10] ++ sgn rows
  | [] => by
    show h.cps.toList ++ [10] = _
    simp [sgn]
  | r :: rs => by
    have e : (Str.join ("\n" : Str) (h :: r :: rs)) = h ++ ("\n" : Str) ++ Str.join ("\n" : Str) (r :: rs) := rfl
    rw [e, cps_append, cps_append, List.append_assoc, join_lines r rs]
    have e2 : ("\n" : Str).cps.toList = [10] := rfl
    rw [e2]
    simp [sgn]
theorem sgn_len {rows : List Str} {m : Nat} (h : ∀ r ∈ rows, r.length ≤ m) : (sgn rows).length ≤ rows.length * (m + 1) := by
  induction rows with
  | nil => simp [sgn]
  | cons r rs ih =>
    have h1 := ih (fun x hx => h x (List.mem_cons_of_mem _ hx))
    have h2 := h r List.mem_cons_self
    have e : sgn (r :: rs) = r.cps.toList ++ [10] ++ sgn rs := by simp [sgn]
    rw [e, List.length_append, List.length_append, len_cps, List.length_cons (a := r), Nat.add_mul]
    simp
    omega
/-- signs ended by line feeds, split -/
theorem split_lines {hd : List Nat} {rows : List Str} (h0 : 10 ∉ hd) (hr : ∀ r ∈ rows, 10 ∉ r.cps.toList) : Txt.split (S (hd ++ [10] ++ sgn rows)) "\n" = S hd :: (rows ++ [("" : Str)]) := by
  have e : S (hd ++ [10] ++ sgn rows) = Txt.join ("\n" : Str) (S hd :: (rows ++ [("" : Str)])) := by
    refine str_ext ?_
    rw [txt_join, cps_S]
    have h1 : ∀ (a : Str) (rs : List Str), (Str.join ("\n" : Str) (a :: (rs ++ [("" : Str)]))).cps.toList = a.cps.toList ++ [10] ++ sgn rs := by
      intro a rs
      induction rs generalizing a with
      | nil =>
        show (a ++ ("\n" : Str) ++ ("" : Str)).cps.toList = _
        rw [cps_append, cps_append]
        show a.cps.toList ++ [10] ++ [] = _
        simp [sgn]
      | cons r rs ih =>
        show (a ++ ("\n" : Str) ++ Str.join ("\n" : Str) (r :: (rs ++ [("" : Str)]))).cps.toList = _
        rw [cps_append, cps_append, ih r]
        show a.cps.toList ++ [10] ++ _ = _
        simp [sgn]
    rw [h1]
    rfl
  rw [e]
  refine TL.split_join (s := 10) (S := []) rfl (by decide +kernel) (by simp) (fun p hp z => ?_)
  rcases List.mem_cons.mp hp with rfl | hp
  · exact h0 z
  · rcases List.mem_append.mp hp with hp | hp
    · exact hr p hp z
    · rw [List.mem_singleton.mp hp] at z
      exact absurd z (by show ¬ 10 ∈ ([] : List Nat); simp)
theorem sum_le {c : Nat} : ∀ {l : List Nat}, (∀ x ∈ l, x ≤ c) → l.sum ≤ l.length * c
  | [], _ => by simp
  | y :: r, h => by
    have h1 := h y List.mem_cons_self
    have h2 := sum_le (l := r) (fun x hx => h x (List.mem_cons_of_mem _ hx))
    simp only [List.sum_cons, List.length_cons, Nat.add_mul, Nat.one_mul]
    omega
theorem join_empty : ∀ rows : List Str, (Str.join ("" : Str) rows).cps.toList = (rows.map fun r => r.cps.toList).flatten
  | [] => rfl
  | [r] => by show r.cps.toList = _; simp
  | r :: s :: rs => by
    show (r ++ ("" : Str) ++ Str.join ("" : Str) (s :: rs)).cps.toList = _
    rw [cps_append, cps_append, join_empty (s :: rs)]
    show r.cps.toList ++ [] ++ _ = _
    simp
theorem sum_ones : ∀ cs : List Nat, ((cs.map fun c => (⟨#[c]⟩ : Str)).map (·.length)).sum = cs.length
  | [] => rfl
  | c :: r => by
    rw [List.map_cons, List.map_cons, List.sum_cons, sum_ones r, List.length_cons]
    show 1 + _ = _
    omega
theorem join_ones (cs : List Nat) : (Txt.join "" (cs.map fun c => (⟨#[c]⟩ : Str))).cps.toList = cs := by
  rw [txt_join, join_empty, List.map_map]
  induction cs with
  | nil => rfl
  | cons c r ih =>
    rw [List.map_cons, List.flatten_cons, ih]
    rfl
end Bw

namespace Bw
open PySem PySem.Spec PyProof.Rows L2 LamX
/-! ### x == y by an own __eq__ that lets nothing out -/
structure EqO (P : Program) (w : World) (K : PySem.W.Frag) (mg : Str → Option Value) (base : Heap) (C : Addr) (k : Nat) (ps : List Str) (sp : Sp) : Prop where
  ex : ∃ (f : Addr) (fd : FuncData), FnOk P w K mg base CX0 k f fd ps sp ∧ PySem.W.findIn K (.ref C) "__eq__" = some (some (.ref f)) ∧ PySem.W.isFn K (.ref f) = true ∧ Binds K fd ps []
/-- what may stand on the other side -/
inductive Side (K : PySem.W.Frag) (H : Hp) (C : Addr) : V → Prop
  | int (i : Int) : PySem.W.notFirst K C (.type "int") = true → Side K H C (.int i)
  | bl (b : Bool) : PySem.W.notFirst K C (.type "bool") = true → Side K H C (.bl b)
  | str (x : Str) : PySem.W.notFirst K C (.type "str") = true → Side K H C (.str x)
  | non : PySem.W.notFirst K C (.type "NoneType") = true → Side K H C .non
  | lst {a : Addr} {xs : List V} : H a = some (.lst xs) → PySem.W.notFirst K C (.type "list") = true → Side K H C (.ref a)
  | tup {a : Addr} {xs : List V} : H a = some (.tup xs) → PySem.W.notFirst K C (.type "tuple") = true → Side K H C (.ref a)
  | own {a dx : Addr} {fs : List (Str × V)} : H a = some (.ins C dx fs) → Side K H C (.ref a)
section
variable {X : Cx}
theorem side_looks {pins : List (Addr × Obj)} {σ : L2.St} {H : Hp} {s : Shared} {C : Addr} {y : V} {u : Value} (I : L2.Inv X pins σ H s) (r : RelV y u) (d : Side X.K H C y) : ∃ tb, PySem.W.Looks (model X.prog X.w) s.heap (typeOf u) tb ∧ PySem.W.notFirst X.K C tb = true := by
  cases d with
  | int i h => obtain ⟨t, rfl⟩ := r; exact ⟨_, PySem.W.Looks.of_pure rfl, h⟩
  | bl b h => cases r; exact ⟨_, PySem.W.Looks.of_pure rfl, h⟩
  | str x h => obtain ⟨t, rfl⟩ := r; exact ⟨_, PySem.W.Looks.of_pure rfl, h⟩
  | non h => cases r; exact ⟨_, PySem.W.Looks.of_pure rfl, h⟩
  | @lst a xs ea h =>
    cases (show u = Value.ref a from r)
    obtain ⟨_, _, n, _, h1⟩ := (show ObjOk X.prog X.w H s.heap a (.lst xs) from I.hok a _ ea)
    exact ⟨.type "list", fun A Q E s k q => wpAny_typeOf_ref (k _ _ h1) q, h⟩
  | @tup a xs ea h =>
    cases (show u = Value.ref a from r)
    obtain ⟨_, _, _, o, h1, h2, _⟩ := (show ObjOk X.prog X.w H s.heap a (.tup xs) from I.hok a _ ea)
    exact ⟨.type "tuple", fun A Q E s k q => wpAny_typeOf_ref (k _ _ h1) (h2 ▸ q), h⟩
  | @own a dx fs ea =>
    cases (show u = Value.ref a from r)
    obtain ⟨mB, J', _⟩ := ins_get I.hok ea
    obtain ⟨od', J', _⟩ := J'.look
    exact ⟨_, J'.type, by simp [PySem.W.notFirst]⟩
def rEqO (K : PySem.W.Frag) (C : Addr) (sp : Sp) : R2 := fun x y H Q => ∃ a dx fs, x = .ref a ∧ H a = some (.ins C dx fs) ∧ Side K H C y ∧ sp [x, y] H (fun v H' => (∃ b, v = .bl b) ∧ Q v H') C8.E0
theorem op_eqO {C : Addr} {k : Nat} {ps : List Str} {sp : Sp} (O : EqO X.prog X.w X.K X.mg X.base C k ps sp) (hr : Room k X.A) : OpR X (compareOp .Eq) (rEqO X.K C sp) := by
  intro pins s σ H x y v u Q I rx ry h
  obtain ⟨a, dx, fs, rfl, ha, hy, hsp⟩ := h
  obtain ⟨f, fd, F, hs, hf, hb⟩ := O.ex
  cases rx
  obtain ⟨tb, lk, nf⟩ := side_looks I ry hy
  obtain ⟨mA, J, _⟩ := ins_get I.hok ha
  obtain ⟨od, J, _⟩ := J.look
  obtain ⟨m, hF⟩ := I.fr
  show wpAny (model X.prog X.w) X.A (richCompare .Eq (.ref a) u) (EP X pins σ Q) X.xe s
  refine PySem.W.cmp_K (op := .Eq) hr.units0 hF I.ok.mod.kin J lk nf hs hf ?_
  have hl := F.len _ _ _ _ hsp
  have r2 : Vals [V.ref a, y] [Value.ref a, u] := .cons rfl (.cons ry .nil)
  refine wpAny_call (codeAny_mono (F.run X.A X.stack s H ⟨[.ref a, u], []⟩ [.ref a, u] [.ref a, y] _ _ hr I.env0 (by
    have := hb s [.ref a, u] I.kIn (by simpa using hl)
    simpa using this) r2 hsp) fun r s' hq => ?_)
  cases r with
  | error e => exact pass0 pins σ H s e s' I hq
  | ok fl =>
    cases fl with
    | ret w =>
      obtain ⟨z, H', I', rz, ⟨b, ez⟩, q⟩ := I.after hq
      subst ez
      cases rz
      exact ⟨.bl b, H', I', rfl, q⟩
    | next => exact False.elim hq
    | brk => exact False.elim hq
    | cont => exact False.elim hq
end
end Bw

namespace Bw
open PySem PySem.Spec PyProof.Rows L2 LamX
open PySem.W (Frag findIn subIn looks_findIn looks_subIn)
section
variable {prog : Program} {w : World} {A : Around} {E : Value → Shared → Prop} {s : Shared} {K : Frag} {x C : Addr} {ox : Obj} {od : Option Obj} {b tb : Value}
theorem ifBound_B {M : Model} {args : List Value} {name : Str} {id B : String} {Q : Option Value → Shared → Prop} (X : K.In s.heap) (I : PySem.W.InstAt s.heap x ox C od) (hs : findIn K (.ref C) name = some (some (.builtin id))) (S : Slot B name id)
    (h : wpAny M A (call (.builtin id) (.ref x :: args)) (fun v => Q (some v)) E s) : wpAny M A (callSpecialIfBound? (.ref x) name args) Q E s := by
  simp only [callSpecialIfBound?, bindSpecialIfBound?]
  refine wpAny_holding (wpAny_bind (wpAny_bind (wpAny_bind (I.type.here ((looks_findIn X hs).here ?_)))))
  simp only [S.bind]
  refine wpAny_bind (wpAny_askSetting (wpAny_ite ?_))
  have fin : wpAny M A (call (.builtin id) ([.ref x] ++ args) >>= fun v => pure (some v)) Q E s := wpAny_bind (wpAny_mono h (fun v s' h' => wpAny_pure h') fun _ _ h' => h')
  split
  · exact wpAny_bind (wpAny_pure (wpAny_pure fin))
  · exact wpAny_tryCatch (wpAny_bind (wpAny_pure (wpAny_pure fin)))
theorem check_B {M : Model} {id owner n : String} {rest : List Value} {Q : Unit → Shared → Prop} (X : K.In s.heap) (I : PySem.W.InstAt s.heap x ox C od) (hk : builtinKind id = some .slot) (hs : splitId id = some (owner, n))
    (ha : argsOk id ⟨.ref x :: rest, []⟩) (hso : subIn K (.ref C) (.type owner) = some true) (hq : Q () s) :
    wpAny M A (checkBuiltinCall id ⟨.ref x :: rest, []⟩) Q E s := by
  simp only [checkBuiltinCall, hk, hs]
  refine wpAny_bind ?_
  unfold isInstance
  refine wpAny_bind (I.type.here ?_)
  refine (looks_subIn X hso).here ?_
  cases hsig : Manifest.signature? id with
  | none => exact wpAny_pure hq
  | some sig =>
    simp only [argsOk, hsig] at ha
    have h2 : Bind.checkArgs id sig ⟨.ref x :: rest, []⟩ = pure () := ha
    show wpAny M A (Bind.checkArgs id sig ⟨.ref x :: rest, []⟩) Q E _
    rw [h2]
    exact wpAny_pure hq
/-- x != y by an own __eq__ -/
theorem ne_entry {Q : Fin → Shared → Prop} {f : Addr} (hu : A.units < cLine) (X : K.In s.heap) (I : PySem.W.InstAt s.heap x ox C od) (hs : findIn K (.ref C) "__eq__" = some (some (.ref f))) (hf : PySem.W.isFn K (.ref f) = true)
    (h : wpAny (model prog w) A (call (.ref f) [.ref x, b]) (fun v s' => ∃ k, v = .bool k ∧ Q (.done (.ret (.bool (!k)))) s') E s) : wpAny (model prog w) A (Builtin.«object.__ne__» ⟨[.ref x, b], []⟩) Q E s := by
  unfold Builtin.«object.__ne__»
  refine wpAny_bind (wpAny_pure ?_)
  refine wpAny_bind (wpAny_cRoomFor hu ?_)
  refine wpAny_bind (PySem.W.ifBound_K X I hs hf ?_)
  refine wpAny_mono h (fun v s' hv => ?_) (fun _ _ e => e)
  obtain ⟨k, rfl, q⟩ := hv
  refine wpAny_bind (wpAny_truthy_bool ?_)
  exact wpAny_pure q
theorem cmp_ne {Q : Value → Shared → Prop} {f : Addr} {m : Str → Option Value} {L : Addr} {h₀ : Heap} (hu : A.units + 1 < cLine) (G : Fr h₀ L s.heap m) (X₀ : K.In h₀) (I : PySem.W.InstAt s.heap x ox C od) (hb : PySem.W.Looks (model prog w) s.heap (typeOf b) tb) (hn : PySem.W.notFirst K C tb = true)
    (hne : findIn K (.ref C) "__ne__" = some (some (.builtin "object.__ne__"))) (hso : subIn K (.ref C) (.type "object") = some true) (hs : findIn K (.ref C) "__eq__" = some (some (.ref f))) (hf : PySem.W.isFn K (.ref f) = true)
    (h : wpAny (model prog w) A.in1 (call (.ref f) [.ref x, b]) (fun v s' => ∃ k, v = .bool k ∧ Q (.bool (!k)) s') E s) : wpAny (model prog w) A (richCompare .NotEq (.ref x) b) Q E s := by
  have X := X₀.keeps G.keep
  have hu0 : A.units < cLine := by omega
  have one : wpAny (model prog w) A (tryCompare (.ref x) (cmpInfo .NotEq).2.1 b) (fun r s' => ∃ v, r = some v ∧ Q v s') E s := by
    unfold tryCompare
    refine wpAny_bind (ifBound_B X I hne PySem.F.slot_object_ne (wpAny_call (codeAny_call_builtin PySem.F.slot_object_ne.plain PySem.F.cmpEntry_ne (check_B X I PySem.F.cmpKind_ne PySem.F.cmpSplit_ne (PySem.F.cmpArgs_ne _ _) hso (ne_entry (A := A.in1) hu X I hs hf ?_)))))
    refine wpAny_mono h (fun v s' hv => ?_) fun _ _ e => e
    obtain ⟨k, rfl, q⟩ := hv
    exact ⟨k, rfl, wpAny_pure ⟨_, rfl, q⟩⟩
  unfold richCompare
  simp only [oneThing_ref]
  refine wpAny_holding (wpAny_bind (wpAny_cRoomFor hu0 ?_))
  refine wpAny_bind (I.type.here (wpAny_bind (hb.here ?_)))
  split
  · rename_i q
    have e : subIn K tb (.ref C) = some false := by
      rcases Bool.or_eq_true_iff.mp hn with e | e
      · rw [beq_iff_eq.mp e] at q; simp at q
      · exact beq_iff_eq.mp e
    refine wpAny_bind ((looks_subIn X e).here ?_)
    simp only [Bool.false_eq_true, if_false]
    refine wpAny_bind (wpAny_mono one (fun r s' z => ?_) fun _ _ e => e)
    obtain ⟨v, rfl, hq⟩ := z
    exact wpAny_pure hq
  · refine wpAny_bind (wpAny_pure ?_)
    simp only [Bool.false_eq_true, if_false]
    refine wpAny_bind (wpAny_mono one (fun r s' z => ?_) fun _ _ e => e)
    obtain ⟨v, rfl, hq⟩ := z
    exact wpAny_pure hq
end
end Bw

/-! == of own objects, and of lists of such: either answer -/
namespace Bw
open PySem PySem.Spec PySem.SeqAt PyProof.Rows L2 LamX
open AutoSeq1 (wpAny_loadPart')
open MeetsSeq MeetsSeq2 MeetsSeq3 SeqRoads2
section
variable {prog : Program} {w : World} {A : Around} {R : Result → Shared → Prop}
/-- at each turn the two lists are read anew -/
def ListB (prog : Program) (w : World) (A : Around) (E : Value → Shared → Prop) (l b : Addr) (N : Nat) (bs : Nat → Bool) (I : Shared → Prop) : Prop :=
  ∀ s, I s → ∃ (items items2 : Array Value) (n n2 : Nat), s.heap.get? l = some { cls := .type "list", data := .seq items n } ∧ s.heap.get? b = some { cls := .type "list", data := .seq items2 n2 } ∧ items.size = N ∧ items2.size = N ∧
    ∀ i (h1 : i < items.size) (h2 : i < items2.size), wpAny (model prog w) A.in1 (eqBool items[i] items2[i]) (fun r s' => r = bs i ∧ I s') E s
theorem eq_loopB (l b : Addr) (N : Nat) (bs : Nat → Bool) (I : Shared → Prop) (hl : ListB prog w A (fun e s' => R (.error e) s') l b N bs I)
    (fin : ∀ s, I s → R (.ok (.ret (.bool ((List.range N).all bs)))) s) (k : Nat) :
    ∀ i : Nat, N - i = k → i ≤ N → (∀ j, j < i → bs j = true) → ∀ s, I s →
      wpAny (model prog w) A.in1 (Builtin.«list.__eq__.loop» ⟨[.ref l, .ref b, rawInt i, rawInt 2], []⟩) (GQ.FinOf prog w A R) (fun e s' => R (.error e) s') s := by
  induction k with
  | zero =>
    intro i hk hi hbs s h
    obtain ⟨items, items2, n, n2, hl1, hb1, hs1, hs2, _⟩ := hl _ h
    have hi' : i = N := by omega
    have hall : (List.range N).all bs = true := by
      rw [List.all_eq_true]
      intro x hx
      exact hbs x (by rw [hi']; exact List.mem_range.mp hx)
    have hR : R (.ok (.ret (.bool true))) s := hall ▸ fin s h
    obtain ⟨hp, g, d, tk, os⟩ := s
    wp_walk using wpAny_loadPart' hl1, wpAny_loadPart' hb1
    have hi1 : items[((i : Nat) : Int).toNat]? = none := by simp; omega
    have hi2 : items2[((i : Nat) : Int).toNat]? = none := by simp; omega
    rw [hi1, hi2]
    wp_walk using wpAny_loadPart' hl1, wpAny_loadPart' hb1
    show R (.ok (.ret (.bool (items.size == items2.size)))) _
    rw [hs1, hs2]
    simpa using hR
  | succ k ih =>
    intro i hk hi hbs s h
    obtain ⟨items, items2, n, n2, hl1, hb1, hs1, hs2, turn⟩ := hl _ h
    have hlt : i < items.size := by omega
    have hlt2 : i < items2.size := by omega
    have ht := turn i hlt hlt2
    obtain ⟨hp, g, d, tk, os⟩ := s
    wp_walk using wpAny_loadPart' hl1, wpAny_loadPart' hb1
    have hi1 : items[((i : Nat) : Int).toNat]? = some items[i] := by simp [hlt]
    have hi2 : items2[((i : Nat) : Int).toNat]? = some items2[i] := by simp [hlt2]
    have hc : ((i : Int) + 1) = ((i + 1 : Nat) : Int) := by omega
    rw [hi1, hi2]
    refine wpAny_bind (wpAny_mono ht (fun r s2 h2 => ?_) fun _ _ x => x)
    obtain ⟨hr, h2⟩ := h2
    cases hb : bs i with
    | true =>
      rw [hb] at hr
      subst hr
      have hrec := ih (i + 1) (by omega) (by omega) (fun j hj => by
        rcases Nat.lt_or_eq_of_le (Nat.le_of_lt_succ hj) with h | h
        · exact hbs j h
        · exact h ▸ hb) s2 h2
      obtain ⟨hp2, g2, d2, tk2, os2⟩ := s2
      wp_walk
      rw [hc]
      exact ⟨plainId_quiet plain_eq_loop _, codeAny_builtin entry_eq_loop (by
        rw [Around.under_plainId plain_eq_loop _]
        exact hrec)⟩
    | false =>
      rw [hb] at hr
      subst hr
      obtain ⟨itemsB, items2B, nB, n2B, hl1B, hb1B, hs1B, hs2B, _⟩ := hl _ h2
      have hi1B : itemsB[((i : Nat) : Int).toNat]? = some (itemsB[i]'(by omega)) := by
        have : i < itemsB.size := by omega
        simp [this]
      have hi2B : items2B[((i : Nat) : Int).toNat]? = some (items2B[i]'(by omega)) := by
        have : i < items2B.size := by omega
        simp [this]
      have hall : (List.range N).all bs = false := by
        rw [Bool.eq_false_iff]
        intro z
        rw [List.all_eq_true] at z
        have := z i (List.mem_range.mpr (by omega))
        rw [hb] at this
        cases this
      have hR : R (.ok (.ret (.bool false))) s2 := hall ▸ fin s2 h2
      obtain ⟨hp2, g2, d2, tk2, os2⟩ := s2
      wp_walk using wpAny_loadPart' hl1B, wpAny_loadPart' hb1B
      rw [hi1B, hi2B]
      wp_walk
      exact hR
theorem list_eqB (l b : Addr) (N : Nat) (bs : Nat → Bool) (I : Shared → Prop) (hl : ListB prog w A (fun e s' => R (.error e) s') l b N bs I)
    (fin : ∀ s, I s → R (.ok (.ret (.bool ((List.range N).all bs)))) s) {s : Shared} (h : I s) :
    wpAny (model prog w) A.in1 (Builtin.«list.__eq__» ⟨[.ref l, .ref b], []⟩) (GQ.FinOf prog w A R) (fun e s' => R (.error e) s') s := by
  obtain ⟨items, items2, n, n2, hl1, hb1, hs1, hs2, _⟩ := hl _ h
  have hrec := eq_loopB (A := A) (R := R) l b N bs I hl fin _ 0 rfl (Nat.zero_le _) (fun j hj => absurd hj (Nat.not_lt_zero _)) s h
  obtain ⟨hp, g, d, tk, os⟩ := s
  have f3 := AutoSeq1.sub_list_list
  have hne : ¬ (items.size != items2.size) = true := by simp [hs1, hs2]
  wp_walk using wpAny_loadPart' hl1, wpAny_loadPart' hb1
  exact ⟨plainId_quiet plain_eq_loop _, codeAny_builtin entry_eq_loop (by
    rw [Around.under_plainId plain_eq_loop _]
    exact hrec)⟩
/-- x in l -/
def ContB (prog : Program) (w : World) (A : Around) (E : Value → Shared → Prop) (l : Addr) (x : Value) (N : Nat) (bs : Nat → Bool) (I : Shared → Prop) : Prop :=
  ∀ s, I s → ∃ (items : Array Value) (n : Nat), s.heap.get? l = some { cls := .type "list", data := .seq items n } ∧ items.size = N ∧
    ∀ i (h1 : i < items.size), wpAny (model prog w) A.in1 (eqBool items[i] x) (fun r s' => r = bs i ∧ I s') E s
theorem cont_loopB (l : Addr) (x : Value) (N : Nat) (bs : Nat → Bool) (I : Shared → Prop) (hl : ContB prog w A (fun e s' => R (.error e) s') l x N bs I)
    (fin : ∀ s, I s → R (.ok (.ret (.bool ((List.range N).any bs)))) s) (k : Nat) :
    ∀ i : Nat, N - i = k → i ≤ N → (∀ j, j < i → bs j = false) → ∀ s, I s →
      wpAny (model prog w) A.in1 (Builtin.«list.__contains__.loop» ⟨[.ref l, x, rawInt i], []⟩) (GQ.FinOf prog w A R) (fun e s' => R (.error e) s') s := by
  induction k with
  | zero =>
    intro i hk hi hbs s h
    obtain ⟨items, n, hl1, hs1, _⟩ := hl _ h
    have hi' : i = N := by omega
    have hall : (List.range N).any bs = false := by
      rw [List.any_eq_false]
      intro x hx
      rw [hbs x (by rw [hi']; exact List.mem_range.mp hx)]
      exact Bool.false_ne_true
    have hR : R (.ok (.ret (.bool false))) s := hall ▸ fin s h
    obtain ⟨hp, g, d, tk, os⟩ := s
    wp_walk using wpAny_loadPart' hl1
    have hi1 : items[((i : Nat) : Int).toNat]? = none := by simp; omega
    rw [hi1]
    wp_walk
    exact hR
  | succ k ih =>
    intro i hk hi hbs s h
    obtain ⟨items, n, hl1, hs1, turn⟩ := hl _ h
    have hlt : i < items.size := by omega
    have ht := turn i hlt
    obtain ⟨hp, g, d, tk, os⟩ := s
    wp_walk using wpAny_loadPart' hl1
    have hi1 : items[((i : Nat) : Int).toNat]? = some items[i] := by simp [hlt]
    have hc : ((i : Int) + 1) = ((i + 1 : Nat) : Int) := by omega
    rw [hi1]
    refine wpAny_bind (wpAny_mono ht (fun r s2 h2 => ?_) fun _ _ x => x)
    obtain ⟨hr, h2⟩ := h2
    cases hb : bs i with
    | true =>
      rw [hb] at hr
      subst hr
      have hall : (List.range N).any bs = true := by
        rw [List.any_eq_true]
        exact ⟨i, List.mem_range.mpr (by omega), hb⟩
      have hR : R (.ok (.ret (.bool true))) s2 := hall ▸ fin s2 h2
      obtain ⟨hp2, g2, d2, tk2, os2⟩ := s2
      wp_walk
      exact hR
    | false =>
      rw [hb] at hr
      subst hr
      have hrec := ih (i + 1) (by omega) (by omega) (fun j hj => by
        rcases Nat.lt_or_eq_of_le (Nat.le_of_lt_succ hj) with h | h
        · exact hbs j h
        · exact h ▸ hb) s2 h2
      obtain ⟨hp2, g2, d2, tk2, os2⟩ := s2
      wp_walk
      rw [hc]
      exact ⟨plainId_quiet plain_contains_loop _, codeAny_builtin entry_contains_loop (by
        rw [Around.under_plainId plain_contains_loop _]
        exact hrec)⟩
theorem list_contB (l : Addr) (x : Value) (N : Nat) (bs : Nat → Bool) (I : Shared → Prop) (hl : ContB prog w A (fun e s' => R (.error e) s') l x N bs I)
    (fin : ∀ s, I s → R (.ok (.ret (.bool ((List.range N).any bs)))) s) {s : Shared} (h : I s) :
    wpAny (model prog w) A.in1 (Builtin.«list.__contains__» ⟨[.ref l, x], []⟩) (GQ.FinOf prog w A R) (fun e s' => R (.error e) s') s := by
  obtain ⟨items, n, hl1, hs1, _⟩ := hl _ h
  have hrec := cont_loopB (A := A) (R := R) l x N bs I hl fin _ 0 rfl (Nat.zero_le _) (fun j hj => absurd hj (Nat.not_lt_zero _)) s h
  obtain ⟨hp, g, d, tk, os⟩ := s
  wp_walk using wpAny_loadPart' hl1
  exact ⟨plainId_quiet plain_contains_loop _, codeAny_builtin entry_contains_loop (by
    rw [Around.under_plainId plain_contains_loop _]
    exact hrec)⟩
end
section
variable {prog : Program} {w : World} {A : Around} {E : Value → Shared → Prop} {s : Shared}
theorem rc_listB {l b : Addr} {N : Nat} {bs : Nat → Bool} {Q : Value → Shared → Prop} (hu : A.units < cLine) (I : Shared → Prop) (hl : ListB prog w A E l b N bs I)
    (fin : ∀ s, I s → Q (.bool ((List.range N).all bs)) s) (h : I s) : wpAny (model prog w) A (richCompare .Eq (.ref l) (.ref b)) Q E s := by
  obtain ⟨items, items2, n, n2, hl1, hb1, _, _, _⟩ := hl _ h
  refine wpAny_richCompare_same_room (op := .Eq) ⟨_, hl1, rfl⟩ ⟨_, hb1, rfl⟩ F.slot_list_eq (GQ.call_here F.slot_list_eq ⟨_, hl1, rfl⟩ F.entry_list_eq (F.args_list_eq_2 _ _) ?_) hu
  exact list_eqB (R := wants (fun v s' => v ≠ .notImplemented ∧ Q v s') E) l b N bs I hl (fun s' q => ⟨(fun x => nomatch x), fin s' q⟩) h
theorem rc_listD {l b : Addr} {items items2 : Array Value} {n n2 : Nat} {Q : Value → Shared → Prop} (hu : A.units < cLine) (hl : s.heap.get? l = some { cls := .type "list", data := .seq items n }) (hb : s.heap.get? b = some { cls := .type "list", data := .seq items2 n2 }) (hne : items.size ≠ items2.size)
    (fin : Q (.bool false) s) : wpAny (model prog w) A (richCompare .Eq (.ref l) (.ref b)) Q E s := by
  refine wpAny_richCompare_same_room (op := .Eq) ⟨_, hl, rfl⟩ ⟨_, hb, rfl⟩ F.slot_list_eq ?_ hu
  exact call_meets F.slot_list_eq ⟨_, hl, rfl⟩ F.entry_list_eq (F.args_list_eq_2 _ _) (list_eq_lengthsAt l b items items2 n n2 none none #[] #[] (by simp [hne])) ⟨hl, hb, (fun x => nomatch x), fin⟩
end
end Bw

/-! == by own __eq__ over the layer: either answer; !=, in, lists of own objects -/
namespace Bw
open PySem PySem.Spec PyProof.Rows L2 LamX
/-- x == y answers b, by the abstract heap -/
abbrev Eqb := V → V → Hp → Bool → Prop
def MonB (D : Eqb) : Prop := ∀ x y H H' b, Same H H' → D x y H b → D x y H' b
def EqbX (X : Cx) (n : Nat) (D : Eqb) : Prop :=
  ∀ (A : Around) (pins : List (Addr × Obj)) (s : Shared) (σ : L2.St) (H : Hp) (x y : V) (u v : Value) (b : Bool), Sub X n A → Inv X pins σ H s → RelV x u → RelV y v → D x y H b →
    wpAny (model X.prog X.w) A (eqBool u v) (fun r s' => r = b ∧ ∃ H', Inv X pins σ H' s' ∧ Same H H') X.xe s
def RcbX (X : Cx) (n : Nat) (D : Eqb) : Prop :=
  ∀ (A : Around) (pins : List (Addr × Obj)) (s : Shared) (σ : L2.St) (H : Hp) (x y : V) (u v : Value) (b : Bool), Sub X n A → Inv X pins σ H s → RelV x u → RelV y v → D x y H b →
    wpAny (model X.prog X.w) A (richCompare .Eq u v) (fun r s' => r = .bool b ∧ ∃ H', Inv X pins σ H' s' ∧ Same H H') X.xe s
section
variable {X : Cx} {n m : Nat} {D D' : Eqb}
theorem EqbX.mono (h : EqbX X n D) (hn : n ≤ m) : EqbX X m D := fun A pins s σ H x y u v b sb => h A pins s σ H x y u v b (sb.mono hn)
theorem RcbX.mono (h : RcbX X n D) (hn : n ≤ m) : RcbX X m D := fun A pins s σ H x y u v b sb => h A pins s σ H x y u v b (sb.mono hn)
theorem RcbX.or (h : RcbX X n D) (h' : RcbX X n D') : RcbX X n (fun x y H b => D x y H b ∨ D' x y H b) := fun A pins s σ H x y u v b sb I rx ry d =>
  d.elim (h A pins s σ H x y u v b sb I rx ry) (h' A pins s σ H x y u v b sb I rx ry)
theorem EqbX.or (h : EqbX X n D) (h' : EqbX X n D') : EqbX X n (fun x y H b => D x y H b ∨ D' x y H b) := fun A pins s σ H x y u v b sb I rx ry d =>
  d.elim (h A pins s σ H x y u v b sb I rx ry) (h' A pins s σ H x y u v b sb I rx ry)
/-- data -/
def BData (K : PySem.W.Frag) : Eqb := fun x y H b => ∃ d e, Dp K H x d ∧ Dp K H y e ∧ SeqAt.shaped d = true ∧ SeqAt.shaped e = true ∧ PyData.eqv d e = b
theorem rcb_data : RcbX X 1 (BData X.K) := by
  intro A pins s σ H x y u v b sb I rx ry hd
  obtain ⟨d, e, hx, hy, sd, se, rfl⟩ := hd
  obtain ⟨as, r1⟩ := Dp.reads I d x u hx rx
  obtain ⟨bs, r2⟩ := Dp.reads I e y v hy ry
  exact SeqAt.compareEq_shaped r1 r2 sd se sb.room.units ⟨rfl, H, I, fun _ _ h => h⟩
theorem mon_data {K : PySem.W.Frag} : MonB (BData K) := fun x y H H' b s h => by
  obtain ⟨d, e, hx, hy, r⟩ := h
  exact ⟨d, e, same_dp s hx, same_dp s hy, r⟩
/-- the same object equals itself within lists; other ones as by == -/
def BSame (D : Eqb) : Eqb := fun x y H b => (∃ a, x = .ref a ∧ y = .ref a ∧ b = true) ∨ ((∃ a c, x = .ref a ∧ y = .ref c ∧ a ≠ c) ∧ D x y H b)
theorem RcbX.eqb (h : RcbX X n D) : EqbX X n (BSame D) := by
  intro A pins s σ H x y u v b sb I rx ry d
  rcases d with ⟨a, rfl, rfl, rfl⟩ | ⟨⟨a, c, rfl, rfl, hne⟩, d⟩
  · cases rx
    cases ry
    exact SeqAt.EqAt.same (A := A) (s := s) (.ref a) X.prog X.w X.xe _ ⟨rfl, H, I, fun _ _ h => h⟩
  · cases rx
    cases ry
    refine GQ.eqBool_refG hne (wpAny_mono (h A pins s σ H (.ref a) (.ref c) _ _ b sb I rfl rfl d) (fun r s' q => ?_) fun _ _ x => x)
    obtain ⟨hr', q⟩ := q
    exact ⟨b, hr', rfl, q⟩
theorem mon_same (h : MonB D) : MonB (BSame D) := fun x y H H' b s d => d.imp id fun ⟨e, d⟩ => ⟨e, h x y H H' b s d⟩
/-- own objects of the class C -/
def BIns (K : PySem.W.Frag) (C : Addr) (R : Addr → V → Hp → Bool → Prop) : Eqb := fun x y H b => ∃ a dx fs, x = .ref a ∧ H a = some (.ins C dx fs) ∧ Side K H C y ∧ R a y H b
def spEqb (R : Addr → V → Hp → Bool → Prop) : Sp := fun vs H Q _ => ∃ a y b, vs = [.ref a, y] ∧ R a y H b ∧ ∀ H', Same H H' → Q (.bl b) H'
theorem Side.same {K : PySem.W.Frag} {H H' : Hp} {C : Addr} {y : V} (h : Side K H C y) (s : Same H H') : Side K H' C y := by
  cases h with
  | int i h => exact .int i h
  | bl b h => exact .bl b h
  | str x h => exact .str x h
  | non h => exact .non h
  | lst e h => exact .lst (s _ _ e) h
  | tup e h => exact .tup (s _ _ e) h
  | own e => exact .own (s _ _ e)
theorem mon_ins' {K : PySem.W.Frag} {C : Addr} {R : Addr → V → Hp → Bool → Prop} (hR : ∀ a y H H' b, Same H H' → R a y H b → R a y H' b) : MonB (BIns K C R) := fun x y H H' b s d => by
  obtain ⟨a, dx, fs, e, h, sd, r⟩ := d
  exact ⟨a, dx, fs, e, s _ _ h, sd.same s, hR a y H H' b s r⟩
theorem rcb_ins {C : Addr} {ps : List Str} {R : Addr → V → Hp → Bool → Prop} (O : EqO X.prog X.w X.K X.mg X.base C n ps (spEqb R)) : RcbX X n (BIns X.K C R) := by
  intro A pins s σ H x y u v b sb I rx ry d
  obtain ⟨a, dx, fs, rfl, ha, hy, hR⟩ := d
  obtain ⟨f, fd, F, hs, hf, hb⟩ := O.ex
  cases rx
  obtain ⟨tb, lk, nf⟩ := side_looks I ry hy
  obtain ⟨mA, J, _⟩ := ins_get I.hok ha
  obtain ⟨od, J, _⟩ := J.look
  obtain ⟨m, hF⟩ := I.fr
  refine PySem.W.cmp_K (op := .Eq) sb.room.units0 hF I.ok.mod.kin J lk nf hs hf ?_
  have hsp : spEqb R [.ref a, y] H (fun v H' => v = .bl b ∧ Same H H') C8.E0 := ⟨a, y, b, rfl, hR, fun H' e => ⟨rfl, e⟩⟩
  have e0 : Env0 X.prog X.w X.K X.mg X.base A X.stack s H := by
    have e := I.env0
    exact ⟨by rw [sb.fr]; exact e.frames, e.mod, e.bs, e.bsz, e.funs, e.frf, e.hok, e.bare⟩
  have hl := F.len _ _ _ _ hsp
  have r2 : Vals [V.ref a, y] [Value.ref a, v] := .cons rfl (.cons ry .nil)
  refine wpAny_call (codeAny_mono (F.run A X.stack s H ⟨[.ref a, v], []⟩ [.ref a, v] [.ref a, y] _ _ sb.room e0 (by
    have := hb s [.ref a, v] I.kIn (by simpa using hl)
    simpa using this) r2 hsp) fun r s' hq => ?_)
  cases r with
  | error e => exact pass0 pins σ H s e s' I hq
  | ok fl =>
    cases fl with
    | ret w =>
      obtain ⟨z, H', I', rz, ez, ex⟩ := I.after hq
      subst ez
      cases rz
      exact ⟨rfl, H', I', ex⟩
    | next => exact False.elim hq
    | brk => exact False.elim hq
    | cont => exact False.elim hq
/-- lists -/
def BList (D : Eqb) : Eqb := fun x y H b => ∃ a c xs ys, x = .ref a ∧ y = .ref c ∧ H a = some (.lst xs) ∧ H c = some (.lst ys) ∧
  ((xs.length ≠ ys.length ∧ b = false) ∨ (xs.length = ys.length ∧ ∃ bs : Nat → Bool, (∀ i x y, xs[i]? = some x → ys[i]? = some y → D x y H (bs i)) ∧ b = (List.range xs.length).all bs))
theorem mon_list' (h : MonB D) : MonB (BList D) := fun x y H H' b s d => by
  obtain ⟨a, c, xs, ys, e1, e2, h1, h2, d⟩ := d
  refine ⟨a, c, xs, ys, e1, e2, s _ _ h1, s _ _ h2, d.imp id fun ⟨l, bs, hb, e⟩ => ⟨l, bs, fun i x y k1 k2 => h x y H H' _ s (hb i x y k1 k2), e⟩⟩
def LoopB (X : Cx) (pins : List (Addr × Obj)) (σ : L2.St) (H : Hp) (s' : Shared) : Prop := ∃ H', Inv X pins σ H' s' ∧ Same H H'
theorem turnB (hD : MonB D) (h : EqbX X n D) {A : Around} (sb : Sub X (n + 1) A) {pins : List (Addr × Obj)} {σ : L2.St} {H : Hp} {xs ys : List V} {its its2 : List Value} {bs : Nat → Bool}
    (p : ∀ i x y, xs[i]? = some x → ys[i]? = some y → D x y H (bs i)) (r : Vals xs its) (r2 : Vals ys its2)
    (i : Nat) (h1 : i < its.toArray.size) (h2 : i < its2.toArray.size) (s' : Shared) (l : LoopB X pins σ H s') :
    wpAny (model X.prog X.w) A.in1 (eqBool its.toArray[i] its2.toArray[i]) (fun r s2 => r = bs i ∧ LoopB X pins σ H s2) X.xe s' := by
  obtain ⟨H1, I1, e1⟩ := l
  have g1 : its[i]? = some its.toArray[i] := by
    have h1' : i < its.length := by simpa using h1
    rw [List.getElem?_eq_getElem h1'] <;> simp
  have g2 : its2[i]? = some its2.toArray[i] := by
    have h2' : i < its2.length := by simpa using h2
    rw [List.getElem?_eq_getElem h2'] <;> simp
  have k1 : i < xs.length := by rw [r.length]; simpa using h1
  have k2 : i < ys.length := by rw [r2.length]; simpa using h2
  obtain ⟨u, hu, ru⟩ := r.get (List.getElem?_eq_getElem k1)
  obtain ⟨v, hv, rv⟩ := r2.get (List.getElem?_eq_getElem k2)
  rw [g1] at hu
  rw [g2] at hv
  rw [Option.some.inj hu, Option.some.inj hv]
  refine wpAny_mono (h A.in1 pins s' σ H1 _ _ u v (bs i) sb.in1 I1 ru rv (hD _ _ _ _ _ e1 (p i _ _ (List.getElem?_eq_getElem k1) (List.getElem?_eq_getElem k2)))) (fun r s2 q => ?_) fun _ _ x => x
  obtain ⟨hr, H2, I2, e2⟩ := q
  exact ⟨hr, H2, I2, e1.trans e2⟩
theorem rcb_list (hD : MonB D) (h : EqbX X n D) : RcbX X (n + 1) (BList D) := by
  intro A pins s σ H x y u v b sb I rx ry d
  obtain ⟨a, c, xs, ys, rfl, rfl, ha, hc, d⟩ := d
  cases rx
  cases ry
  rcases d with ⟨hne, rfl⟩ | ⟨hl, bs, hb, rfl⟩
  · obtain ⟨z, its, k, r, e⟩ := I.hok a _ ha
    obtain ⟨z2, its2, k2, r2, e2⟩ := I.hok c _ hc
    exact rc_listD sb.room.units0 e e2 (by rw [List.size_toArray, List.size_toArray, ← r.length, ← r2.length]; exact hne) ⟨rfl, H, I, fun _ _ h => h⟩
  · refine rc_listB (N := xs.length) (bs := bs) sb.room.units0 (fun s' => LoopB X pins σ H s') (fun s' q => ?_) (fun s' q => ⟨rfl, q⟩) ⟨H, I, fun _ _ h => h⟩
    obtain ⟨H1, I1, e1⟩ := id q
    obtain ⟨z, its, k, r, e⟩ := I1.hok a _ (e1 _ _ ha)
    obtain ⟨z2, its2, k2, r2, e2⟩ := I1.hok c _ (e1 _ _ hc)
    refine ⟨its.toArray, its2.toArray, k, k2, e, e2, by rw [List.size_toArray, ← r.length], by rw [List.size_toArray, ← r2.length, hl], fun i h1 h2 => ?_⟩
    exact turnB hD h sb hb r r2 i h1 h2 s' q
/-- x == y as an expression -/
def rEqb (D : Eqb) : R2 := fun x y H Q => ∃ b, D x y H b ∧ ∀ H', Same H H' → Q (.bl b) H'
theorem op_eqb (h : RcbX X n D) (hr : Room n X.A) : OpR X (compareOp .Eq) (rEqb D) := by
  intro pins s σ H x y v u Q I rx ry hq
  obtain ⟨b, d, q⟩ := hq
  show wpAny (model X.prog X.w) X.A (richCompare .Eq v u) (EP X pins σ Q) X.xe s
  refine wpAny_mono (h X.A pins s σ H x y v u b ⟨hr, rfl⟩ I rx ry d) (fun r s' z => ?_) fun _ _ x => x
  obtain ⟨hr', H', I', e⟩ := z
  subst hr'
  exact ⟨.bl b, H', I', rfl, q H' e⟩
/-- the class's != is that of object -/
structure NeO (K : PySem.W.Frag) (C : Addr) : Prop where
  ne : PySem.W.findIn K (.ref C) "__ne__" = some (some (.builtin "object.__ne__"))
  so : PySem.W.subIn K (.ref C) (.type "object") = some true
/-- x != y by an own __eq__ -/
def rNeO (K : PySem.W.Frag) (C : Addr) (R : Addr → V → Hp → Bool → Prop) : R2 := fun x y H Q => ∃ b, BIns K C R x y H b ∧ ∀ H', Same H H' → Q (.bl (!b)) H'
theorem op_neO {C : Addr} {ps : List Str} {R : Addr → V → Hp → Bool → Prop} (O : EqO X.prog X.w X.K X.mg X.base C n ps (spEqb R)) (N : NeO X.K C) (hr : Room (n + 1) X.A) : OpR X (compareOp .NotEq) (rNeO X.K C R) := by
  intro pins s σ H x y v u Q I rx ry h
  obtain ⟨b, ⟨a, dx, fs, rfl, ha, hy, hR⟩, q⟩ := h
  obtain ⟨f, fd, F, hs, hf, hb⟩ := O.ex
  cases rx
  obtain ⟨tb, lk, nf⟩ := side_looks I ry hy
  obtain ⟨mA, J, _⟩ := ins_get I.hok ha
  obtain ⟨od, J, _⟩ := J.look
  obtain ⟨m, hF⟩ := I.fr
  show wpAny (model X.prog X.w) X.A (richCompare .NotEq (.ref a) u) (EP X pins σ Q) X.xe s
  have hu1 : X.A.units + 1 < cLine := by have := hr.units; omega
  refine cmp_ne hu1 hF I.ok.mod.kin J lk nf N.ne N.so hs hf ?_
  have hsp : spEqb R [.ref a, y] H (fun v H' => v = .bl b ∧ Same H H') C8.E0 := ⟨a, y, b, rfl, hR, fun H' e => ⟨rfl, e⟩⟩
  have sb : Sub X n X.A.in1 := Sub.in1 ⟨hr, rfl⟩
  have e0 : Env0 X.prog X.w X.K X.mg X.base X.A.in1 X.stack s H := by
    have e := I.env0
    exact ⟨by rw [sb.fr]; exact e.frames, e.mod, e.bs, e.bsz, e.funs, e.frf, e.hok, e.bare⟩
  have hl := F.len _ _ _ _ hsp
  have r2 : Vals [V.ref a, y] [Value.ref a, u] := .cons rfl (.cons ry .nil)
  refine wpAny_call (codeAny_mono (F.run X.A.in1 X.stack s H ⟨[.ref a, u], []⟩ [.ref a, u] [.ref a, y] _ _ sb.room e0 (by
    have := hb s [.ref a, u] I.kIn (by simpa using hl)
    simpa using this) r2 hsp) fun r s' hq => ?_)
  cases r with
  | error e => exact pass0 pins σ H s e s' I hq
  | ok fl =>
    cases fl with
    | ret w =>
      obtain ⟨z, H', I', rz, ez, ex⟩ := I.after hq
      subst ez
      cases rz
      exact ⟨b, rfl, .bl (!b), H', I', rfl, q H' ex⟩
    | next => exact False.elim hq
    | brk => exact False.elim hq
    | cont => exact False.elim hq
/-- x in a list -/
def rInB (D : Eqb) : R2 := fun x y H Q => ∃ l xs, y = .ref l ∧ H l = some (.lst xs) ∧ ∃ bs : Nat → Bool, (∀ i z, xs[i]? = some z → D z x H (bs i)) ∧ ∀ H', Same H H' → Q (.bl ((List.range xs.length).any bs)) H'
theorem op_inB (hD : MonB D) (h : EqbX X n D) (hr : Room (n + 1) X.A) : OpR X (compareOp .In) (rInB D) := by
  intro pins s σ H x y v u Q I rx ry hq
  obtain ⟨l, xs, rfl, hl, bs, hb, q⟩ := hq
  cases ry
  have key : ContB X.prog X.w X.A (fun e s' => wants (fun v s' => ∃ b, v = .bool b ∧ EP X pins σ Q (.bool b) s') X.xe (.error e) s') l v xs.length bs (fun s' => LoopB X pins σ H s') := by
    intro s' hI
    obtain ⟨H1, I1, e1⟩ := id hI
    obtain ⟨z, its, k, r, e⟩ := I1.hok l _ (e1 _ _ hl)
    refine ⟨its.toArray, k, e, by rw [List.size_toArray, ← r.length], fun i h1 => ?_⟩
    have h1' : i < its.length := by simpa using h1
    have g1 : its[i]? = some its.toArray[i] := by rw [List.getElem?_eq_getElem h1'] <;> simp
    have k1 : i < xs.length := by rw [r.length]; simpa using h1
    obtain ⟨u, hu, ru⟩ := r.get (List.getElem?_eq_getElem k1)
    rw [g1] at hu
    rw [Option.some.inj hu]
    refine wpAny_mono (h X.A.in1 pins s' σ H1 _ x u v (bs i) (Sub.in1 ⟨hr, rfl⟩) I1 ru rx (hD _ _ _ _ _ e1 (hb i _ (List.getElem?_eq_getElem k1)))) (fun r s2 q => ?_) fun _ _ x => x
    obtain ⟨hr, H2, I2, e2⟩ := q
    exact ⟨hr, H2, I2, e1.trans e2⟩
  obtain ⟨z, its, k, r, e⟩ := I.hok l _ hl
  show wpAny (model X.prog X.w) X.A (do return Value.bool (← contains (.ref l) v)) (EP X pins σ Q) X.xe s
  refine wpAny_bind (wpAny_contains_slot ⟨_, e, rfl⟩ F.slot_list_contains (wpAny_mono (Q := fun v s' => ∃ b, v = .bool b ∧ EP X pins σ Q (.bool b) s') (GQ.call_here F.slot_list_contains ⟨_, e, rfl⟩ F.entry_list_contains (F.args_list_contains_2 _ _)
    (list_contB (R := wants (fun v s' => ∃ b, v = .bool b ∧ EP X pins σ Q (.bool b) s') X.xe) l v xs.length bs (fun s' => LoopB X pins σ H s') key (fun s' hI => ?_) ⟨H, I, fun _ _ h => h⟩)) (fun v s' hv => ?_) fun _ _ e => e))
  · obtain ⟨H', I', e'⟩ := hI
    exact ⟨_, rfl, .bl _, H', I', rfl, q H' e'⟩
  · obtain ⟨b, rfl, hq⟩ := hv
    exact wpAny_truthy_bool (wpAny_pure hq)
end
/-! ### steps -/
section
variable {H : Hp} {Q : VK} {D : Eqb} {K : PySem.W.Frag} {x y : V}
theorem w_eqb {b : Bool} (d : D x y H b) (k : ∀ H', Same H H' → Q (.bl b) H') : rEqb D x y H Q := ⟨b, d, k⟩
theorem w_neO {C : Addr} {R : Addr → V → Hp → Bool → Prop} {b : Bool} (d : BIns K C R x y H b) (k : ∀ H', Same H H' → Q (.bl (!b)) H') : rNeO K C R x y H Q := ⟨b, d, k⟩
end
/-- either reading of an operator -/
def rOr (r r' : R2) : R2 := fun x y H Q => r x y H Q ∨ r' x y H Q
theorem op_or {X : Cx} {f : Value → Value → Sem Value} {r r' : R2} (h : OpR X f r) (h' : OpR X f r') : OpR X f (rOr r r') := fun pins s σ H x y v u Q I rx ry q =>
  q.elim (h pins s σ H x y v u Q I rx ry) (h' pins s σ H x y v u Q I rx ry)
/-- a class whose instances isinstance knows -/
structure Kls (K : PySem.W.Frag) (C : Addr) : Prop where
  cl : Cls K C
  ha : PySem.W.findIn K (.ref C) "__class__" = some (some (.builtin "object.__class__"))
  hn : PySem.W.specialIn K (.builtin "object.__class__") "__get__" = some (some (.builtin "getset_descriptor.__get__"))
  htk : PySem.W.takesIn K (.builtin "object.__class__") = some true
  hm : PySem.W.mroIn K C (.type "object") = some true
theorem Kls.ty {K : PySem.W.Frag} {H : Hp} {C a dx : Addr} {fs : List (Str × V)} (k : Kls K C) (h : H a = some (.ins C dx fs)) : TyX K H (.ref a) (.ref C) := .base (.ins h k.cl k.ha k.hn k.htk k.hm)
theorem kit_self {K : PySem.W.Frag} {C : Addr} : PySem.W.kitOne K (.ref C) (.ref C) = some true := by
  unfold PySem.W.kitOne
  rw [if_pos (beq_self_eq_true _)]
/-- no instance of C -/
def NotC (K : PySem.W.Frag) (H : Hp) (C : Addr) (y : V) : Prop := ∃ tv, TyX K H y tv ∧ PySem.W.kitOne K tv (.ref C) = some false
/-- what isinstance(x, C) says of the plain kinds -/
structure PlainNot (K : PySem.W.Frag) (C : Addr) : Prop where
  k : ∀ tv ∈ (["int", "bool", "str", "NoneType", "list", "tuple"] : List String), PySem.W.kitOne K (.type tv) (.ref C) = some false ∧ PySem.W.notFirst K C (.type tv) = true
def plainNotB (K : PySem.W.Frag) (C : Addr) : Bool := (["int", "bool", "str", "NoneType", "list", "tuple"] : List String).all fun tv => decide (PySem.W.kitOne K (.type tv) (.ref C) = some false) && PySem.W.notFirst K C (.type tv)
theorem plainNotB_ok {K : PySem.W.Frag} {C : Addr} (h : plainNotB K C = true) : PlainNot K C := ⟨fun tv ht => by
  unfold plainNotB at h
  rw [List.all_eq_true] at h
  have := h tv ht
  simp only [Bool.and_eq_true, decide_eq_true_eq] at this
  exact this⟩
theorem PlainNot.of {K : PySem.W.Frag} {H : Hp} {C : Addr} {y : V} (p : PlainNot K C) (h : Thg H y) : NotC K H C y ∧ Side K H C y := by
  cases h with
  | non => exact ⟨⟨_, tyx_non, (p.k _ (by simp)).1⟩, .non (p.k _ (by simp)).2⟩
  | int i => exact ⟨⟨_, tyx_int, (p.k _ (by simp)).1⟩, .int _ (p.k _ (by simp)).2⟩
  | bl b => exact ⟨⟨_, tyx_bl, (p.k _ (by simp)).1⟩, .bl _ (p.k _ (by simp)).2⟩
  | str x => exact ⟨⟨_, tyx_str, (p.k _ (by simp)).1⟩, .str _ (p.k _ (by simp)).2⟩
  | lst e => exact ⟨⟨_, tyx_lst e, (p.k _ (by simp)).1⟩, .lst e (p.k _ (by simp)).2⟩
  | tup e => exact ⟨⟨_, tyx_tup e, (p.k _ (by simp)).1⟩, .tup e (p.k _ (by simp)).2⟩
theorem w_isiO {K : PySem.W.Frag} {H : Hp} {C : Addr} {y : V} {tv : Value} {k : Bool} {Q : VK} (h : TyX K H y tv) (hk : PySem.W.kitOne K tv (.ref C) = some k) (q : Q (.bl k) H) : rIsi K [y, .ref C] H Q := w_isi (.own C) h hk q
end Bw

namespace Bw
open PySem PySem.Spec PyProof.Rows L2 LamX
section
variable {K : PySem.W.Frag} {H : Hp} {Q : VK}
theorem dpAll_ix : ∀ {xs : List V} {ds : List PyData}, xs.length = ds.length → (∀ (i : Nat) x d, xs[i]? = some x → ds[i]? = some d → Dp K H x d) → DpAll K H xs ds
  | [], [], _, _ => .nil
  | [], _ :: _, h, _ => by cases h
  | _ :: _, [], h, _ => by cases h
  | x :: xs, d :: ds, h, k => .cons (k 0 x d rfl rfl) (dpAll_ix (by simpa using h) fun i y e h1 h2 => k (i + 1) y e h1 h2)
theorem w_rep {l : Addr} {xs : List V} {n : Int} (h : H l = some (.lst xs)) (h0 : -1000 ≤ n) (h1 : n ≤ 100000) (hl : xs.length * n.toNat ≤ 100000) (k : ∀ p H2, H p = none → Same H H2 → H2 p = some (.lst (List.replicate n.toNat xs).flatten) → Q (.ref p) H2) : rRep (.ref l) (.int n) H Q :=
  ⟨l, n, xs, rfl, rfl, h, by omega, by omega, Nat.le_trans hl (by decide), fun p np => k p _ np (same_new np) upd_same⟩
/-- a list is the empty one -/
theorem w_eqNil {x y : V} {ds : List PyData} {n : Nat} (hx : Dp K H x (.list ds)) (hy : Dp K H y (.list [])) (g : GoodD (.list ds) n) (hn : n ≤ 64) (q : Q (.bl ds.isEmpty) H) : rEqD K x y H Q := by
  refine w_eqD hx hy (g.shaped hn) (by simp [SeqAt.shaped, PyData.canLay0, PyData.canLayAll0, PyData.depth, PyData.depthAll]) (k := ds.isEmpty) ?_ q
  cases ds <;> simp [PyData.eqv, PyData.eqvAll]
theorem w_neNil {x y : V} {ds : List PyData} {n : Nat} (hx : Dp K H x (.list ds)) (hy : Dp K H y (.list [])) (g : GoodD (.list ds) n) (hn : n ≤ 64) (q : Q (.bl (!ds.isEmpty)) H) : rNeD K x y H Q := by
  refine w_neD hx hy (g.shaped hn) (by simp [SeqAt.shaped, PyData.canLay0, PyData.canLayAll0, PyData.depth, PyData.depthAll]) (k := ds.isEmpty) ?_ q
  cases ds <;> simp [PyData.eqv, PyData.eqvAll]
/-- a reading whose answer is known, what is behind it once -/
theorem w_val {te : TE} {σ : L2.St} {v : V} {H' : Hp} (h : ∀ Q' : VK, Q' v H' → te σ H Q') (k : Q v H') : te σ H Q := h Q k
theorem tyx_same {H' : Hp} {v : V} {t : Value} (h : TyX K H v t) (s : Same H H') : TyX K H' v t := by
  cases h with
  | base h =>
    refine .base ?_
    cases h with
    | non => exact .non
    | bl x => exact .bl x
    | int i => exact .int i
    | str x => exact .str x
    | flt x => exact .flt x
    | lst e => exact .lst (s _ _ e)
    | frz e => exact .frz (s _ _ e)
    | tup e => exact .tup (s _ _ e)
    | dK e => exact .dK (s _ _ e)
    | dT e => exact .dT (s _ _ e)
    | ins e cl ha hn htk hm => exact .ins (s _ _ e) cl ha hn htk hm
  | byt b => exact .byt b
  | set e => exact .set (s _ _ e)
  | kList e c => exact .kList e c
  | kTuple e c => exact .kTuple e c
  | kDict e c => exact .kDict e c
  | fTuple e => exact .fTuple (s _ _ e)
  | fDict e => exact .fDict (s _ _ e)
end
end Bw

/-! len, str, repr by own methods -/
namespace Bw
open PySem PySem.Spec PyProof.Rows L2 LamX
/-- a class's own special method m -/
structure Spc (P : Program) (w : World) (K : PySem.W.Frag) (mg : Str → Option Value) (base : Heap) (C : Addr) (m : Str) (k : Nat) (ps : List Str) (sp : Sp) : Prop where
  ex : ∃ (f : Addr) (fd : FuncData), FnOk P w K mg base CX0 k f fd ps sp ∧ PySem.W.findIn K (.ref C) m = some (some (.ref f)) ∧ PySem.W.isFn K (.ref f) = true ∧ Binds K fd ps []
section
variable {X : Cx}
theorem run_spc {k : Nat} {f : Addr} {fd : FuncData} {ps : List Str} {sp : Sp} {A : Around} {pins : List (Addr × Obj)} {σ : L2.St} {H : Hp} {s : Shared} {a : Addr} {Q : VK} (F : FnOk X.prog X.w X.K X.mg X.base CX0 k f fd ps sp) (hb : Binds X.K fd ps []) (sb : Sub X k A) (I : L2.Inv X pins σ H s) (h : sp [.ref a] H Q C8.E0) :
    wpAny (model X.prog X.w) A (call (.ref f) [.ref a]) (EP X pins σ Q) X.xe s := by
  have e0 : Env0 X.prog X.w X.K X.mg X.base A X.stack s H := by
    have e := I.env0
    exact ⟨by rw [sb.fr]; exact e.frames, e.mod, e.bs, e.bsz, e.funs, e.frf, e.hok, e.bare⟩
  have hl := F.len _ _ _ _ h
  have r2 : Vals [V.ref a] [Value.ref a] := .cons rfl .nil
  refine wpAny_call (codeAny_mono (F.run A X.stack s H ⟨[.ref a], []⟩ [.ref a] [.ref a] _ _ sb.room e0 (by
    have := hb s [.ref a] I.kIn (by simpa using hl)
    simpa using this) r2 h) fun r s' hq => ?_)
  cases r with
  | error e => exact pass0 pins σ H s e s' I hq
  | ok fl =>
    cases fl with
    | ret w => exact I.after hq
    | next => exact False.elim hq
    | brk => exact False.elim hq
    | cont => exact False.elim hq
/-- len(o) -/
def rLenO (C : Addr) (sp : Sp) : List V → Hp → VK → Prop := fun xs H Q => ∃ a dx fs, xs = [.ref a] ∧ H a = some (.ins C dx fs) ∧ sp [.ref a] H (fun v H' => ∃ n : Nat, v = .int n ∧ n < 2 ^ 63 ∧ Q (.int n) H') C8.E0
theorem cl_lenO {C : Addr} {k : Nat} {ps : List Str} {sp : Sp} (O : Spc X.prog X.w X.K X.mg X.base C "__len__" k ps sp) (hr : Room (k + 1) X.A) : CallR X (.builtin "len") (rLenO C sp) := by
  intro pins s σ H xs us Q I rv h
  obtain ⟨a, dx, fs, rfl, ha, hsp⟩ := h
  obtain ⟨f, fd, F, hs, hf, hb⟩ := O.ex
  cases rv with
  | cons r0 rt =>
    cases rt
    cases r0
    obtain ⟨mA, J, _⟩ := ins_get I.hok ha
    obtain ⟨od, J, _⟩ := J.look
    obtain ⟨m, hF⟩ := I.fr
    refine PySem.W.len_K hF I.ok.mod.kin J hs hf (wpAny_mono (run_spc F hb (Sub.in1 ⟨hr, rfl⟩) I hsp) (fun u s' hq => ?_) fun _ _ e => e)
    obtain ⟨v, H', I', rz, n, rfl, hn, q⟩ := hq
    obtain ⟨t, rfl⟩ := rz
    exact ⟨⟨by omega, by omega⟩, .int n, H', I'.tok _, ⟨_, rfl⟩, q⟩
/-- repr(o), str(o) -/
def rTxtO (C : Addr) (sp : Sp) : List V → Hp → VK → Prop := fun xs H Q => ∃ a dx fs, xs = [.ref a] ∧ H a = some (.ins C dx fs) ∧ sp [.ref a] H (fun v H' => ∃ x : Str, v = .str x ∧ Q (.str x) H') C8.E0
theorem cl_reprO {C : Addr} {k : Nat} {ps : List Str} {sp : Sp} (O : Spc X.prog X.w X.K X.mg X.base C "__repr__" k ps sp) (hr : Room (k + 1) X.A) : CallR X (.builtin "repr") (rTxtO C sp) := by
  intro pins s σ H xs us Q I rv h
  obtain ⟨a, dx, fs, rfl, ha, hsp⟩ := h
  obtain ⟨f, fd, F, hs, hf, hb⟩ := O.ex
  cases rv with
  | cons r0 rt =>
    cases rt
    cases r0
    obtain ⟨mA, J, _⟩ := ins_get I.hok ha
    obtain ⟨od, J, _⟩ := J.look
    obtain ⟨m, hF⟩ := I.fr
    refine PySem.W.repr_K (Sub.in1 (X := X) ⟨hr, rfl⟩).room.units0 hF I.ok.mod.kin J hs hf (wpAny_mono (run_spc F hb (Sub.in1 ⟨hr, rfl⟩) I hsp) (fun u s' hq => ?_) fun _ _ e => e)
    obtain ⟨v, H', I', rz, x, rfl, q⟩ := hq
    obtain ⟨t, rfl⟩ := rz
    exact ⟨.str x, H', I', ⟨_, rfl⟩, q⟩
theorem cl_strO {C : Addr} {k : Nat} {ps : List Str} {sp : Sp} (O : Spc X.prog X.w X.K X.mg X.base C "__str__" k ps sp) (hr : Room (k + 2) X.A) : CallR X (.type "str") (rTxtO C sp) := by
  intro pins s σ H xs us Q I rv h
  obtain ⟨a, dx, fs, rfl, ha, hsp⟩ := h
  obtain ⟨f, fd, F, hs, hf, hb⟩ := O.ex
  cases rv with
  | cons r0 rt =>
    cases rt
    cases r0
    obtain ⟨mA, J, _⟩ := ins_get I.hok ha
    obtain ⟨od, J, _⟩ := J.look
    have sb : Sub X k X.A.in1.in1 := Sub.in1 (Sub.in1 ⟨hr, rfl⟩)
    refine PySem.W.kso_call sb.room.units0 I.kIn J hs hf (wpAny_mono (run_spc F hb sb I hsp) (fun u s' hq => ?_) fun _ _ e => e)
    obtain ⟨v, H', I', rz, x, rfl, q⟩ := hq
    obtain ⟨t, rfl⟩ := rz
    exact ⟨.str x, H', I', ⟨_, rfl⟩, q⟩
/-- either reading of a call -/
def rOrC (r r' : List V → Hp → VK → Prop) : List V → Hp → VK → Prop := fun xs H Q => r xs H Q ∨ r' xs H Q
theorem cl_or {f : Value} {r r' : List V → Hp → VK → Prop} (h : CallR X f r) (h' : CallR X f r') : CallR X f (rOrC r r') := fun pins s σ H xs us Q I rv q =>
  q.elim (h pins s σ H xs us Q I rv) (h' pins s σ H xs us Q I rv)
def tJoin (ts : List TE) : TE := fun σ H Q => tJs ts Str.empty σ H fun out H1 => Q (.str out) H1
theorem pe_fj {v1 v2 : Expr} {rest : List Expr} {ts : List TE} {pos : Pos} (h : PJ X (v1 :: v2 :: rest) ts) : PE X (.JoinedStr (v1 :: v2 :: rest) pos) (tJoin ts) := pe_joined h
end
theorem u1_of {k : Nat} {A : Around} (r : Room k A) : A.units + 1 < cLine := by have := r.un; omega
section
variable {σ : L2.St} {H : Hp} {Q : VK} {te : TE}
theorem w_lenO {C a dx : Addr} {fs : List (Str × V)} {sp : Sp} (h : H a = some (.ins C dx fs)) (k : sp [.ref a] H (fun v H' => ∃ n : Nat, v = .int n ∧ n < 2 ^ 63 ∧ Q (.int n) H') C8.E0) : rLenO C sp [.ref a] H Q := ⟨a, dx, fs, rfl, h, k⟩
theorem w_txtO {C a dx : Addr} {fs : List (Str × V)} {sp : Sp} (h : H a = some (.ins C dx fs)) (k : sp [.ref a] H (fun v H' => ∃ x : Str, v = .str x ∧ Q (.str x) H') C8.E0) : rTxtO C sp [.ref a] H Q := ⟨a, dx, fs, rfl, h, k⟩
theorem w_fmtE (h : te σ H fun x H1 => (∃ y : Str, x = .str y ∧ y.length ≤ sizeLine ∧ Q (.str y) H1) ∨ ∃ i : Int, x = .int i ∧ i.natAbs.log2 < 1920 ∧ Q (.str (toString i)) H1) : tFmt te σ H Q := h
theorem w_fmtS {y : Str} {R : V → Prop} (hl : y.length ≤ sizeLine) (q : R (.str y)) : (∃ z : Str, V.str y = .str z ∧ z.length ≤ sizeLine ∧ R (.str z)) ∨ ∃ i : Int, V.str y = .int i ∧ i.natAbs.log2 < 1920 ∧ R (.str (toString i)) := .inl ⟨y, rfl, hl, q⟩
theorem w_fmtI {i : Int} {R : V → Prop} (h : i.natAbs < 2 ^ 1919) (q : R (.str (toString i))) : (∃ z : Str, V.int i = .str z ∧ z.length ≤ sizeLine ∧ R (.str z)) ∨ ∃ j : Int, V.int i = .int j ∧ j.natAbs.log2 < 1920 ∧ R (.str (toString j)) :=
  .inr ⟨i, rfl, PySem.Flt.log2_lt_of (by decide) (Nat.lt_of_lt_of_le h (Nat.pow_le_pow_right (by decide) (by decide))), q⟩
theorem w_fmtRE (h : te σ H fun x H1 => (∃ y : Str, x = .str y ∧ (reprText y).length ≤ sizeLine ∧ Q (.str (reprText y)) H1) ∨ ∃ i : Int, x = .int i ∧ i.natAbs.log2 < 1920 ∧ Q (.str (toString i)) H1) : tFmtR te σ H Q := h
theorem w_isB {a b : Bool} (q : Q (.bl (decide (a = b))) H) : rIsB (.bl a) (.bl b) H Q := ⟨a, b, rfl, rfl, q⟩
theorem w_isnB {a b : Bool} (q : Q (.bl (!decide (a = b))) H) : rNotB (.bl a) (.bl b) H Q := ⟨a, b, rfl, rfl, q⟩
theorem w_dget2 {td ty tx : TE} (h : td σ H fun x H1 => ∃ a, x = .ref a ∧ IsD H1 a ∧ ty σ H1 fun y H2 => tx σ H2 fun z H3 => ∃ o, DGet H3 a y o ∧ Q (o.getD z) H3) : tDGet2 td ty tx σ H Q := h
theorem w_dgetK {a : Addr} {kvs : List (Key × V)} {k : Key} {y z : V} {R : V → Prop} (h : H a = some (.dK kvs)) (hy : y = kV k) (q : R ((valV kvs k).getD z)) : ∃ o, DGet H a y o ∧ R (o.getD z) := ⟨valV kvs k, .inl ⟨kvs, k, .inl h, hy, rfl⟩, q⟩
theorem w_joinE {ts : List TE} (h : tJs ts Str.empty σ H fun out H1 => Q (.str out) H1) : tJoin ts σ H Q := h
theorem w_js {t : TE} {ts : List TE} {acc : Str} {QS : Str → Hp → Prop} (h : t σ H fun x H1 => ∃ y : Str, x = .str y ∧ (acc ++ y).length ≤ sizeLine ∧ tJs ts (acc ++ y) σ H1 QS) : tJs (t :: ts) acc σ H QS := h
theorem w_jn {acc : Str} {QS : Str → Hp → Prop} (h : QS acc H) : tJs [] acc σ H QS := h
theorem w_jt {acc y : Str} {R : Str → Prop} (hl : acc.length + y.length ≤ sizeLine) (h : R y) : ∃ z : Str, V.str y = .str z ∧ (acc ++ z).length ≤ sizeLine ∧ R z := ⟨y, rfl, by rw [Str.length_append]; exact hl, h⟩
end
end Bw

/-! words and texts of words, plainly -/
namespace Bw
open PySem PySem.Spec PyProof.Rows L2 LamX
def abc : Str := "abcdefghijklmnopqrstuvwxyz"
def isW (x : Str) : Bool := decide (1 ≤ x.length ∧ x.length ≤ 12) && x.cps.toList.all fun c => decide (c ∈ abc.cps.toList)
def isWV : V → Bool
  | .str x => isW x
  | _ => false
def okWs (ws : List Str) : Bool := decide (ws.length ≤ 120) && ws.all isW
def okVs (xs : List V) : Bool := decide (xs.length ≤ 120) && xs.all isWV
theorem okVs_str (ws : List Str) : okVs (ws.map V.str) = okWs ws := by
  unfold okVs okWs
  rw [List.length_map, List.all_map]
  rfl
theorem strs_of : ∀ {xs : List V}, xs.all isWV = true → ∃ ws : List Str, xs = ws.map V.str
  | [], _ => ⟨[], rfl⟩
  | x :: r, h => by
    rw [List.all_cons, Bool.and_eq_true] at h
    obtain ⟨ws, rfl⟩ := strs_of h.2
    cases x with
    | str y => exact ⟨y :: ws, rfl⟩
    | _ => exact absurd h.1 (by unfold isWV; exact Bool.noConfusion)
theorem okVs_of {xs : List V} (h : okVs xs = true) : ∃ ws : List Str, xs = ws.map V.str ∧ okWs ws = true := by
  have h2 := h
  unfold okVs at h2
  rw [Bool.and_eq_true] at h2
  obtain ⟨ws, rfl⟩ := strs_of h2.2
  exact ⟨ws, rfl, (okVs_str ws) ▸ h⟩
def wsOf (x : Str) : List Str := if x = "" then [] else Txt.split x " "
theorem split_bounds (x : Str) (h : x.length ≤ 40000) : (wsOf x).length ≤ 50000 ∧ ∀ y ∈ wsOf x, y.length ≤ 100000 := by
  unfold wsOf
  split
  · simp
  · have h1 := PyProof.Rows.split_weight x " " (Nat.le_refl 1)
    refine ⟨by omega, fun y hy => ?_⟩
    have h2 := le_sum (List.mem_map.mpr ⟨y, hy, rfl⟩ : y.length ∈ (Txt.split x " ").map (·.length))
    omega
theorem txtv_strs {H : Hp} {ws : List Str} (h : ∀ y ∈ ws, y.length ≤ 100000) : ∀ x ∈ ws.map V.str, TxtV H x := fun x hx => by
  obtain ⟨y, hy, rfl⟩ := List.mem_map.mp hx
  exact .inl ⟨y, rfl, h y hy⟩
theorem isW_len {x : Str} (h : isW x = true) : x.length ≤ 12 := by
  unfold isW at h
  simp only [Bool.and_eq_true, decide_eq_true_eq] at h
  exact h.1.2
theorem ok_bounds {ws : List Str} (h : okWs ws = true) : ws.length ≤ 120 ∧ (∀ y ∈ ws, y.length ≤ 12) ∧ (ws.map (·.length)).sum ≤ 1440 := by
  unfold okWs at h
  simp only [Bool.and_eq_true, decide_eq_true_eq, List.all_eq_true] at h
  have h2 : ∀ y ∈ ws, y.length ≤ 12 := fun y hy => isW_len (h.2 y hy)
  refine ⟨h.1, h2, ?_⟩
  have h3 := sum_le (l := ws.map (·.length)) (c := 12) (fun x hx => by
    obtain ⟨y, hy, rfl⟩ := List.mem_map.mp hx
    exact h2 y hy)
  rw [List.length_map] at h3
  omega
theorem isW_strOk {x : Str} (h : isW x = true) : PyData.strOk x = true := by
  unfold isW at h
  simp only [Bool.and_eq_true, decide_eq_true_eq, List.all_eq_true] at h
  unfold PyData.strOk
  rw [Array.all_eq_true']
  intro c hc
  have h1 := h.2 c (Array.mem_toList_iff.mpr hc)
  have h2 : ∀ c ∈ abc.cps.toList, c < 0x110000 := by decide +kernel
  exact decide_eq_true (h2 c h1)
theorem okWs_all {ws : List Str} (h : okWs ws = true) : ∀ b ∈ ws, isW b = true := by
  unfold okWs at h
  simp only [Bool.and_eq_true, decide_eq_true_eq, List.all_eq_true] at h
  exact h.2
theorem ok_strs {ws : List Str} (h : okWs ws = true) : ∀ b ∈ ws, PyData.strOk b = true := fun b hb => isW_strOk (okWs_all h b hb)
theorem join_ws (x : Str) : Txt.join " " (wsOf x) = x := by
  unfold wsOf
  split
  · rename_i h
    rw [h]
    rfl
  · rw [txt_join]
    exact StrLaws.join_split x " "
theorem join_ne {ws : List Str} (h : ∀ b ∈ ws, isW b = true) (hn : ws ≠ []) : Txt.join " " ws ≠ "" := by
  intro e
  rw [txt_join] at e
  cases ws with
  | nil => exact hn rfl
  | cons b r =>
    have h1 := PyProof.Rows.len_join_cons " " b r
    rw [e] at h1
    have h2 := h b List.mem_cons_self
    unfold isW at h2
    simp only [Bool.and_eq_true, decide_eq_true_eq] at h2
    have h3 : ("" : Str).length = 0 := rfl
    rw [h3] at h1
    simp only [List.map_cons, List.sum_cons] at h1
    omega
theorem ws_join {ws : List Str} (h : ∀ b ∈ ws, isW b = true) : wsOf (Txt.join " " ws) = ws := by
  unfold wsOf
  cases hw : ws with
  | nil => rfl
  | cons b r =>
    rw [← hw, if_neg (join_ne h (by rw [hw]; simp))]
    refine TL.split_join (s := 32) (S := []) rfl (by decide +kernel) (by rw [hw]; simp) (fun p hp z => ?_)
    have h2 := h p hp
    unfold isW at h2
    simp only [Bool.and_eq_true, decide_eq_true_eq, List.all_eq_true] at h2
    have h3 := h2.2 32 z
    revert h3
    decide +kernel
theorem isW_signs {x : Str} (h : isW x = true) : ∀ c ∈ x.cps.toList, 97 ≤ c ∧ c ≤ 122 := by
  unfold isW at h
  simp only [Bool.and_eq_true, decide_eq_true_eq, List.all_eq_true] at h
  have key : ∀ c ∈ abc.cps.toList, 97 ≤ c ∧ c ≤ 122 := by decide +kernel
  exact fun c hc => key c (h.2 c hc)
/-- the places of a word -/
def plc (ws : List Str) (w : Str) : List Nat := (List.range ws.length).filter fun i => decide (ws[i]? = some w)
theorem plc_snoc (ws : List Str) (u w : Str) : plc (ws ++ [u]) w = plc ws w ++ (if u = w then [ws.length] else []) := by
  unfold plc
  rw [List.length_append, List.length_singleton, List.range_succ, List.filter_append]
  congr 1
  · refine List.filter_congr fun i hi => ?_
    rw [List.mem_range] at hi
    rw [List.getElem?_append_left hi]
  · rw [List.filter_cons, List.filter_nil, List.getElem?_append_right (Nat.le_refl _), Nat.sub_self]
    by_cases h : u = w
    · simp [h]
    · simp [h]
theorem plc_nil (w : Str) : plc [] w = [] := rfl
theorem plc_len (ws : List Str) (w : Str) : (plc ws w).length ≤ ws.length := by
  have := List.length_filter_le (fun i => decide (ws[i]? = some w)) (List.range ws.length)
  rwa [List.length_range] at this
theorem plc_none {ws : List Str} {w : Str} (h : w ∉ ws) : plc ws w = [] := by
  unfold plc
  rw [List.filter_eq_nil_iff]
  intro i _ hi
  exact h (List.mem_of_getElem? (of_decide_eq_true hi))
/-- repr of a text of letters and blanks -/
theorem repr_plain {x : Str} (h : ∀ c ∈ x.cps.toList, c = 32 ∨ (97 ≤ c ∧ c ≤ 122)) : reprText x = S (39 :: (x.cps.toList ++ [39])) := by
  have hq : PySem.reprQuote x = 39 := by
    have h39 : ¬ 39 ∈ x.cps.toList := fun z => by
      have := h 39 z
      omega
    have : x.cps.contains 39 = false := by
      rw [Bool.eq_false_iff]
      intro z
      exact h39 (by simpa using z)
    unfold PySem.reprQuote
    rw [this]
    rfl
  have hc : ∀ c ∈ x.cps.toList, Builtin.Str.reprChar 39 c = [c] := by
    have key : ∀ c, c < 128 → (c = 32 ∨ (97 ≤ c ∧ c ≤ 122)) → Builtin.Str.reprChar 39 c = [c] := by decide +kernel
    intro c hc
    have := h c hc
    exact key c (by omega) this
  refine str_ext ?_
  unfold reprText
  rw [hq]
  show ((x.cps.foldl (fun out c => out ++ (Builtin.Str.reprChar 39 c).toArray) #[39]).push 39).toList = _
  rw [Array.toList_push, ← Array.foldl_toList]
  have key : ∀ (l : List Nat) (acc : Array Nat), (∀ c ∈ l, Builtin.Str.reprChar 39 c = [c]) → (l.foldl (fun out c => out ++ (Builtin.Str.reprChar 39 c).toArray) acc).toList = acc.toList ++ l := by
    intro l
    induction l with
    | nil => intro acc _; simp
    | cons c r ih =>
      intro acc hl
      rw [List.foldl_cons, ih _ (fun d hd => hl d (List.mem_cons_of_mem _ hd)), hl c List.mem_cons_self]
      simp
  rw [key _ _ hc]
  rfl
theorem join_signs {ws : List Str} (h : ∀ b ∈ ws, isW b = true) : ∀ c ∈ (Txt.join " " ws).cps.toList, c = 32 ∨ (97 ≤ c ∧ c ≤ 122) := by
  rw [txt_join]
  induction ws with
  | nil => intro c hc; exact absurd hc (by show ¬ c ∈ ([] : List Nat); simp)
  | cons b r ih =>
    cases r with
    | nil =>
      intro c hc
      exact .inr (isW_signs (h b List.mem_cons_self) c hc)
    | cons d r =>
      intro c hc
      have e : Str.join (" " : Str) (b :: d :: r) = b ++ (" " : Str) ++ Str.join (" " : Str) (d :: r) := rfl
      rw [e, cps_append, cps_append] at hc
      rcases List.mem_append.mp hc with hc | hc
      · rcases List.mem_append.mp hc with hc | hc
        · exact .inr (isW_signs (h b List.mem_cons_self) c hc)
        · left
          have : c ∈ ([32] : List Nat) := hc
          simpa using this
      · exact ih (fun x hx => h x (List.mem_cons_of_mem _ hx)) c hc
theorem join_len {ws : List Str} (h : ∀ b ∈ ws, isW b = true) : (Txt.join " " ws).length ≤ ws.length * 13 := by
  have hsum := sum_le (l := ws.map (·.length)) (c := 12) (fun x hx => by
    obtain ⟨y, hy, rfl⟩ := List.mem_map.mp hx
    exact isW_len (h y hy))
  rw [List.length_map] at hsum
  rw [txt_join]
  cases hys : ws with
  | nil => decide +kernel
  | cons y rr =>
    have h1s : (" " : Str).length = 1 := rfl
    rw [PyProof.Rows.len_join_cons, h1s, ← hys]
    have : ws.length = rr.length + 1 := by rw [hys]; rfl
    omega
end Bw

namespace Bw
open PySem PySem.Spec PyProof.Rows L2 LamX
/-! ### comprehensions with two fors -/
def NxJ (D : Addr) (i : Nat) (Iv : Nat → List V → Hp → Prop) : Hp → Prop := fun H' => ∃ acc', H' D = some (.lst acc') ∧ Iv (i + 1) acc' H'
theorem w_accJ {D : Addr} {i : Nat} {Iv : Nat → List V → Hp → Prop} {acc : List V} {y : V} {H4 : Hp} (hD : H4 D = some (.lst acc)) (hn : acc.length ≤ 100000) (k : ∀ H5, KB D H4 H5 → H5 D = some (.lst (acc ++ [y])) → Iv (i + 1) (acc ++ [y]) H5) :
    ∃ acc, H4 D = some (.lst acc) ∧ acc.length < sizeLine ∧ NxJ D i Iv (upd H4 D (.lst (acc ++ [y]))) := ⟨acc, hD, Nat.lt_of_le_of_lt hn (by decide), acc ++ [y], upd_same, k _ kb_upd upd_same⟩
theorem in_fin {J : It} {n : Nat} {ok : Hp → Prop} {it : Nat → V → Hp → Hp → Prop} {g : TG} {tt : TT} {te : TE} {vs : List Nat} {σ : L2.St} {H1 : Hp} {D : Addr} {Nx : Hp → Prop} (F : Fini J n ok it) (Jv : Nat → List V → Hp → Prop)
    (h0 : ∃ acc, H1 D = some (.lst acc) ∧ Jv 0 acc H1) (hl : ∀ i acc H, i ≤ n → Jv i acc H → ok H)
    (hs : ∀ i x acc H H', i < n → Jv i acc H → H D = some (.lst acc) → it i x H H' → g x (wipe σ vs) H' fun σ2 H2 => wipe σ2 vs = wipe σ vs ∧ tt σ2 H2 fun b H3 =>
      if b = true then te σ2 H3 fun y H4 => ∃ acc, H4 D = some (.lst acc) ∧ acc.length < sizeLine ∧ NxJ D i Jv (upd H4 D (.lst (acc ++ [y]))) else NxJ D i Jv H3)
    (hd : ∀ acc H, Jv n acc H → H D = some (.lst acc) → Nx H) :
    ∃ W1 : Nat → Nat → Hp → Prop, (∃ m, W1 0 m H1) ∧ ∀ j k H, W1 j k H →
      (J.stop j H ∧ Nx H) ∨ (J.go j H ∧ ∃ Nx1 : Hp → Prop, (∀ H', Nx1 H' → ∃ k', k' < k ∧ W1 (j + 1) k' H') ∧ ∀ x H', J.yld j H x H' → g x (wipe σ vs) H' fun σ3 H5 => wipe σ3 vs = wipe σ vs ∧ tt σ3 H5 fun b H6 =>
        if b = true then te σ3 H6 fun y H7 => ∃ acc, H7 D = some (.lst acc) ∧ acc.length < sizeLine ∧ Nx1 (upd H7 D (.lst (acc ++ [y]))) else Nx1 H6) := by
  obtain ⟨acc0, e0, i0⟩ := h0
  refine ⟨fun i m H => m = n - i ∧ i ≤ n ∧ ∃ acc, H D = some (.lst acc) ∧ Jv i acc H, ⟨n, by simp, Nat.zero_le _, acc0, e0, i0⟩, ?_⟩
  rintro i m H ⟨rfl, hi, acc, hD, p⟩
  have o := hl i acc H hi p
  rcases Nat.lt_or_ge i n with hlt | hge
  · exact .inr ⟨F.go i H hlt o, NxJ D i Jv, fun H' p' => ⟨n - (i + 1), by omega, rfl, hlt, p'⟩, fun x H' y => hs i x acc H H' hlt p hD (F.yl i H x H' hlt o y)⟩
  · obtain rfl : i = n := Nat.le_antisymm hi hge
    exact .inl ⟨F.st H o, hd acc H p hD⟩
theorem lc2_fin {J : It} {n : Nat} {ok : Hp → Prop} {it : Nat → V → Hp → Hp → Prop} {wi1 : TI} {g g1 : TG} {tt tt1 : TT} {te : TE} {vs vs1 : List Nat} {σ : L2.St} {H1 : Hp} {Qd : Addr → Hp → Prop} (F : Fini J n ok it) (Iv : Nat → List V → Hp → Prop)
    (h0 : ∀ D H2, H1 D = none → Same H1 H2 → H2 D = some (.lst []) → Iv 0 [] H2) (hl : ∀ i acc H, i ≤ n → Iv i acc H → ok H)
    (hs : ∀ D i x acc H H', H1 D = none → i < n → Iv i acc H → H D = some (.lst acc) → it i x H H' → g x (wipe σ vs) H' fun σ2 H2 => wipe σ2 vs = wipe σ vs ∧ tt σ2 H2 fun b H3 =>
      if b = true then wi1 σ2 H3 fun J1 H4 => ∃ W1 : Nat → Nat → Hp → Prop, (∃ m, W1 0 m H4) ∧ ∀ j k H, W1 j k H →
        (J1.stop j H ∧ NxJ D i Iv H) ∨ (J1.go j H ∧ ∃ Nx1 : Hp → Prop, (∀ H', Nx1 H' → ∃ k', k' < k ∧ W1 (j + 1) k' H') ∧ ∀ x H', J1.yld j H x H' → g1 x (wipe σ2 vs1) H' fun σ3 H5 => wipe σ3 vs1 = wipe σ2 vs1 ∧ tt1 σ3 H5 fun b H6 =>
          if b = true then te σ3 H6 fun y H7 => ∃ acc, H7 D = some (.lst acc) ∧ acc.length < sizeLine ∧ Nx1 (upd H7 D (.lst (acc ++ [y]))) else Nx1 H6)
      else NxJ D i Iv H3)
    (hd : ∀ D acc H, H1 D = none → Iv n acc H → H D = some (.lst acc) → Qd D H) :
    ∀ D, H1 D = none → ∃ W : Nat → Nat → Hp → Prop, (∃ m, W 0 m (upd H1 D (.lst []))) ∧ ∀ i m H, W i m H →
      (J.stop i H ∧ Qd D H) ∨ (J.go i H ∧ ∃ Nx : Hp → Prop, (∀ H', Nx H' → ∃ m', m' < m ∧ W (i + 1) m' H') ∧ ∀ x H', J.yld i H x H' → g x (wipe σ vs) H' fun σ2 H2 => wipe σ2 vs = wipe σ vs ∧ tt σ2 H2 fun b H3 =>
        if b = true then wi1 σ2 H3 fun J1 H4 => ∃ W1 : Nat → Nat → Hp → Prop, (∃ m, W1 0 m H4) ∧ ∀ j k H, W1 j k H →
          (J1.stop j H ∧ Nx H) ∨ (J1.go j H ∧ ∃ Nx1 : Hp → Prop, (∀ H', Nx1 H' → ∃ k', k' < k ∧ W1 (j + 1) k' H') ∧ ∀ x H', J1.yld j H x H' → g1 x (wipe σ2 vs1) H' fun σ3 H5 => wipe σ3 vs1 = wipe σ2 vs1 ∧ tt1 σ3 H5 fun b H6 =>
            if b = true then te σ3 H6 fun y H7 => ∃ acc, H7 D = some (.lst acc) ∧ acc.length < sizeLine ∧ Nx1 (upd H7 D (.lst (acc ++ [y]))) else Nx1 H6)
        else Nx H3) := by
  intro D nD
  refine ⟨fun i m H => m = n - i ∧ i ≤ n ∧ ∃ acc, H D = some (.lst acc) ∧ Iv i acc H, ⟨n, by simp, Nat.zero_le _, [], upd_same, h0 D _ nD (same_new nD) upd_same⟩, ?_⟩
  rintro i m H ⟨rfl, hi, acc, hD, p⟩
  have o := hl i acc H hi p
  rcases Nat.lt_or_ge i n with hlt | hge
  · exact .inr ⟨F.go i H hlt o, NxJ D i Iv, fun H' p' => ⟨n - (i + 1), by omega, rfl, hlt, p'⟩, fun x H' y => hs D i x acc H H' nD hlt p hD (F.yl i H x H' hlt o y)⟩
  · obtain rfl : i = n := Nat.le_antisymm hi hge
    exact .inl ⟨F.st H o, hd D acc H nD p hD⟩
theorem w_lc2E {wi wi1 : TI} {g g1 : TG} {tt tt1 : TT} {te : TE} {vs vs1 : List Nat} {σ : L2.St} {H : Hp} {Q : VK} (h : wi σ H fun J H1 => ∀ D, H1 D = none → ∃ W : Nat → Nat → Hp → Prop, (∃ m, W 0 m (upd H1 D (.lst []))) ∧ ∀ i m H, W i m H →
  (J.stop i H ∧ Q (.ref D) H) ∨ (J.go i H ∧ ∃ Nx : Hp → Prop, (∀ H', Nx H' → ∃ m', m' < m ∧ W (i + 1) m' H') ∧ ∀ x H', J.yld i H x H' → g x (wipe σ vs) H' fun σ2 H2 => wipe σ2 vs = wipe σ vs ∧ tt σ2 H2 fun b H3 =>
    if b = true then wi1 σ2 H3 fun J1 H4 => ∃ W1 : Nat → Nat → Hp → Prop, (∃ m, W1 0 m H4) ∧ ∀ j k H, W1 j k H →
      (J1.stop j H ∧ Nx H) ∨ (J1.go j H ∧ ∃ Nx1 : Hp → Prop, (∀ H', Nx1 H' → ∃ k', k' < k ∧ W1 (j + 1) k' H') ∧ ∀ x H', J1.yld j H x H' → g1 x (wipe σ2 vs1) H' fun σ3 H5 => wipe σ3 vs1 = wipe σ2 vs1 ∧ tt1 σ3 H5 fun b H6 =>
        if b = true then te σ3 H6 fun y H7 => ∃ acc, H7 D = some (.lst acc) ∧ acc.length < sizeLine ∧ Nx1 (upd H7 D (.lst (acc ++ [y]))) else Nx1 H6)
    else Nx H3)) : tLc2 wi g tt wi1 g1 tt1 te vs vs1 σ H Q := h
/-! ### data as it stands on the heap -/
mutual
inductive Rp (H : Hp) : V → PyData → Prop
  | non : Rp H .non .none
  | bl (b : Bool) : Rp H (.bl b) (.bool b)
  | int (i : Int) : Rp H (.int i) (.int i)
  | str (x : Str) : Rp H (.str x) (.str x)
  | lst {a : Addr} {xs : List V} {ds : List PyData} : H a = some (.lst xs) → RpAll H xs ds → Rp H (.ref a) (.list ds)
  | tup {a : Addr} {xs : List V} {ds : List PyData} : H a = some (.tup xs) → RpAll H xs ds → Rp H (.ref a) (.tuple ds)
inductive RpAll (H : Hp) : List V → List PyData → Prop
  | nil : RpAll H [] []
  | cons {v : V} {d : PyData} {vs : List V} {ds : List PyData} : Rp H v d → RpAll H vs ds → RpAll H (v :: vs) (d :: ds)
end
section
variable {K : PySem.W.Frag} {H H' : Hp}
mutual
theorem Rp.dp : ∀ {v : V} {d : PyData}, Rp H v d → Dp K H v d
  | _, _, .non => .non
  | _, _, .bl b => .bl b
  | _, _, .int i => .int i
  | _, _, .str x => .str x
  | _, _, .lst h r => .lst (.of h) (RpAll.dp r)
  | _, _, .tup h r => .tup (.of h) (RpAll.dp r)
theorem RpAll.dp : ∀ {vs : List V} {ds : List PyData}, RpAll H vs ds → DpAll K H vs ds
  | _, _, .nil => .nil
  | _, _, .cons h r => .cons (Rp.dp h) (RpAll.dp r)
end
mutual
theorem Rp.same (s : Same H H') : ∀ {v : V} {d : PyData}, Rp H v d → Rp H' v d
  | _, _, .non => .non
  | _, _, .bl b => .bl b
  | _, _, .int i => .int i
  | _, _, .str x => .str x
  | _, _, .lst h r => .lst (s _ _ h) (RpAll.same s r)
  | _, _, .tup h r => .tup (s _ _ h) (RpAll.same s r)
theorem RpAll.same (s : Same H H') : ∀ {vs : List V} {ds : List PyData}, RpAll H vs ds → RpAll H' vs ds
  | _, _, .nil => .nil
  | _, _, .cons h r => .cons (Rp.same s h) (RpAll.same s r)
end
/-- tuples stay -/
def TupK (H H' : Hp) : Prop := ∀ a xs, H a = some (.tup xs) → H' a = some (.tup xs)
theorem TupK.of (s : Same H H') : TupK H H' := fun _ _ h => s _ _ h
theorem TupK.kb {p : Addr} {xs : List V} (k : KB p H H') (hp : H p = some (.lst xs)) : TupK H H' := fun a ys h => k _ _ h (fun z => by rw [z, hp] at h; cases h)
theorem TupK.trans {H2 : Hp} (a : TupK H H') (b : TupK H' H2) : TupK H H2 := fun _ _ h => b _ _ (a _ _ h)
mutual
def noL : PyData → Bool
  | .list _ => false
  | .tuple ds => noLs ds
  | _ => true
def noLs : List PyData → Bool
  | [] => true
  | d :: r => noL d && noLs r
end
mutual
theorem Rp.tupk (t : TupK H H') : ∀ {v : V} {d : PyData}, Rp H v d → noL d = true → Rp H' v d
  | _, _, .non, _ => .non
  | _, _, .bl b, _ => .bl b
  | _, _, .int i, _ => .int i
  | _, _, .str x, _ => .str x
  | _, _, .lst h r, n => by simp [noL] at n
  | _, _, .tup h r, n => .tup (t _ _ h) (RpAll.tupk t r (by simpa [noL] using n))
theorem RpAll.tupk (t : TupK H H') : ∀ {vs : List V} {ds : List PyData}, RpAll H vs ds → noLs ds = true → RpAll H' vs ds
  | _, _, .nil, _ => .nil
  | _, _, .cons h r, n => by
    rw [noLs, Bool.and_eq_true] at n
    exact .cons (Rp.tupk t h n.1) (RpAll.tupk t r n.2)
end
theorem RpAll.length : ∀ {vs : List V} {ds : List PyData}, RpAll H vs ds → vs.length = ds.length
  | _, _, .nil => rfl
  | _, _, .cons _ r => congrArg Nat.succ (RpAll.length r)
theorem RpAll.at : ∀ {vs : List V} {ds : List PyData}, RpAll H vs ds → ∀ {i : Nat} {v : V}, vs[i]? = some v → ∃ d, ds[i]? = some d ∧ Rp H v d
  | _, _, .nil, i, v, h => by simp at h
  | _, _, .cons h r, 0, v, e => by
    cases e
    exact ⟨_, rfl, h⟩
  | _, _, .cons h r, i + 1, v, e => by
    obtain ⟨d, h1, h2⟩ := RpAll.at r (i := i) (v := v) (by simpa using e)
    exact ⟨d, by simpa using h1, h2⟩
theorem RpAll.append : ∀ {xs ys : List V} {ds es : List PyData}, RpAll H xs ds → RpAll H ys es → RpAll H (xs ++ ys) (ds ++ es)
  | _, _, _, _, .nil, h => h
  | _, _, _, _, .cons h r, h2 => .cons h (RpAll.append r h2)
theorem RpAll.drop : ∀ {vs : List V} {ds : List PyData} (n : Nat), RpAll H vs ds → RpAll H (vs.drop n) (ds.drop n)
  | _, _, 0, h => h
  | _, _, n + 1, .nil => .nil
  | _, _, n + 1, .cons _ r => RpAll.drop n r
theorem RpAll.take : ∀ {vs : List V} {ds : List PyData} (n : Nat), RpAll H vs ds → RpAll H (vs.take n) (ds.take n)
  | _, _, 0, h => .nil
  | _, _, n + 1, .nil => .nil
  | _, _, n + 1, .cons h r => .cons h (RpAll.take n r)
theorem rpAll_str : ∀ ws : List Str, RpAll H (ws.map V.str) (ws.map PyData.str)
  | [] => .nil
  | w :: r => .cons (.str w) (rpAll_str r)
/-! ### things of bounded size -/
def Fit : Nat → PyData → Prop
  | 0, d => (d = .none ∨ (∃ b, d = .bool b) ∨ (∃ i, d = .int i)) ∨ ∃ x, d = .str x ∧ x.length ≤ 1000 ∧ PyData.strOk x = true
  | n + 1, d => ((d = .none ∨ (∃ b, d = .bool b) ∨ (∃ i, d = .int i)) ∨ ∃ x, d = .str x ∧ x.length ≤ 1000 ∧ PyData.strOk x = true) ∨ ∃ ds : List PyData, (d = .tuple ds ∨ d = .list ds) ∧ ds.length ≤ 1000 ∧ ∀ e ∈ ds, Fit n e
theorem Fit.succ : ∀ {n : Nat} {d : PyData}, Fit n d → Fit (n + 1) d
  | 0, d, h => .inl h
  | n + 1, d, h => by
    rcases h with h | ⟨ds, h1, h2, h3⟩
    · exact .inl h
    · exact .inr ⟨ds, h1, h2, fun e he => (h3 e he).succ⟩
theorem Fit.mono {n m : Nat} {d : PyData} (h : Fit n d) (l : n ≤ m) : Fit m d := by
  induction l with
  | refl => exact h
  | step _ ih => exact ih.succ
theorem Fit.good : ∀ {n : Nat} {d : PyData}, Fit n d → GoodD d n
  | 0, d, h => by
    rcases h with (rfl | ⟨b, rfl⟩ | ⟨i, rfl⟩) | ⟨x, rfl, _, h⟩
    · exact good_none
    · exact good_bool
    · exact good_int
    · exact good_str h
  | n + 1, d, h => by
    rcases h with ((rfl | ⟨b, rfl⟩ | ⟨i, rfl⟩) | ⟨x, rfl, _, h⟩) | ⟨ds, rfl | rfl, _, h⟩
    · exact good_none
    · exact good_bool
    · exact good_int
    · exact good_str h
    · exact good_tuple fun e he => (h e he).good
    · exact good_list fun e he => (h e he).good
theorem fit_str {x : Str} {n : Nat} (h1 : x.length ≤ 1000) (h2 : PyData.strOk x = true) : Fit n (.str x) := Fit.mono (n := 0) (.inr ⟨x, rfl, h1, h2⟩) (Nat.zero_le _)
theorem fit_int {i : Int} {n : Nat} : Fit n (.int i) := Fit.mono (n := 0) (.inl (.inr (.inr ⟨i, rfl⟩))) (Nat.zero_le _)
theorem fit_word {x : Str} {n : Nat} (h : isW x = true) : Fit n (.str x) := fit_str (Nat.le_trans (isW_len h) (by decide)) (isW_strOk h)
theorem fit_tup {ds : List PyData} {n : Nat} (h1 : ds.length ≤ 1000) (h : ∀ e ∈ ds, Fit n e) : Fit (n + 1) (.tuple ds) := .inr ⟨ds, .inl rfl, h1, h⟩
theorem Fit.tup {ds : List PyData} {n : Nat} (h : Fit (n + 1) (.tuple ds)) : ds.length ≤ 1000 ∧ ∀ e ∈ ds, Fit n e := by
  rcases h with ((h | ⟨b, h⟩ | ⟨i, h⟩) | ⟨x, h, _⟩) | ⟨es, h | h, h1, h2⟩
  · cases h
  · cases h
  · cases h
  · cases h
  · cases h
    exact ⟨h1, h2⟩
  · cases h
/-- such a thing, as a text or none -/
theorem Rp.txt {v : V} {d : PyData} {n : Nat} (h : Rp H v d) (f : Fit n d) : TxtV H v := by
  cases h with
  | non => exact .inr .non
  | bl b => exact .inr (.bl b)
  | int i => exact .inr (.int i)
  | str x =>
    have : x.length ≤ 1000 := by
      cases n with
      | zero => rcases f with (h | ⟨b, h⟩ | ⟨i, h⟩) | ⟨y, h, hl, _⟩ <;> cases h; exact hl
      | succ n => rcases f with ((h | ⟨b, h⟩ | ⟨i, h⟩) | ⟨y, h, hl, _⟩) | ⟨es, h | h, _⟩ <;> cases h; exact hl
    exact .inl ⟨x, rfl, by omega⟩
  | lst h r => exact .inr (.lst h)
  | tup h r => exact .inr (.tup h)
theorem Rp.thg {v : V} {d : PyData} (h : Rp H v d) : Thg H v := by
  cases h with
  | non => exact .non
  | bl b => exact .bl b
  | int i => exact .int i
  | str x => exact .str x
  | lst h r => exact .lst h
  | tup h r => exact .tup h
end
/-- what a def keeps at its room, it keeps at more -/
theorem fnok_mono {P : Program} {w : World} {K : PySem.W.Frag} {mg : Str → Option Value} {base : Heap} {CX : CXT} {k k' : Nat} {f : Addr} {fd : FuncData} {ps : List Str} {sp : Sp} (F : FnOk P w K mg base CX k f fd ps sp) (h : k ≤ k') : FnOk P w K mg base CX k' f fd ps sp :=
  ⟨F.len, fun A outer s H args us vs Q E hr => F.run A outer s H args us vs Q E (hr.mono h)⟩
end Bw

/-! queries, plainly: on data -/
namespace Bw
open PySem PySem.Spec PyProof.Rows L2 LamX
def isWD : PyData → Bool
  | .str x => isW x
  | _ => false
theorem isWD_of {H : Hp} {v : V} {d : PyData} (h : Rp H v d) : isWV v = isWD d := by
  cases h <;> rfl
def joinC (cs : List (Option Nat)) : Option Nat := if 2 ≤ cs.length ∧ cs.length ≤ 4 ∧ cs.all (·.isSome) = true then some (cs.filterMap id).sum else none
def nearC : List PyData → Option Nat
  | [.int f, a, b] => if 1 ≤ f ∧ f ≤ 20 ∧ isWD a = true ∧ isWD b = true then some 2 else none
  | _ => none
def wordC (ps : List PyData) : Option Nat := if ps.length = 1 ∧ ps.all isWD = true then some 1 else none
def phraseC (ps : List PyData) : Option Nat := if 2 ≤ ps.length ∧ ps.length ≤ 5 ∧ ps.all isWD = true then some ps.length else none
def butC (cs : List (Option Nat)) : Option Nat := if cs.length = 2 then joinC cs else none
/-- how many words a query of at most so many within one another has -/
def cnt : Nat → PyData → Option Nat
  | 0, _ => none
  | n + 1, .tuple (.str k :: ps) =>
    if k = "word" then wordC ps else if k = "phrase" then phraseC ps else if k = "near" then nearC ps
    else if k = "and" then joinC (ps.map (cnt n)) else if k = "or" then joinC (ps.map (cnt n)) else if k = "but" then butC (ps.map (cnt n)) else none
  | _ + 1, _ => none
def cntV : Option Nat → V
  | some m => .int m
  | none => .non
theorem sum_bound {f : Option Nat → Nat} : True := trivial
def strD : PyData → Option Str
  | .str x => some x
  | _ => none
/-- the words that count -/
def wIn : Nat → PyData → List Str
  | 0, _ => []
  | n + 1, .tuple (.str k :: ps) =>
    if k = "word" ∨ k = "phrase" then ps.filterMap strD else if k = "near" then (ps.drop 1).filterMap strD
    else if k = "but" then ((ps.take 1).map (wIn n)).flatten else (ps.map (wIn n)).flatten
  | _ + 1, _ => []
theorem words_all : ∀ {ps : List PyData}, ps.all isWD = true → ∃ ws : List Str, ps = ws.map PyData.str ∧ ∀ w ∈ ws, isW w = true
  | [], _ => ⟨[], rfl, fun w hw => absurd hw (by simp)⟩
  | p :: r, h => by
    rw [List.all_cons, Bool.and_eq_true] at h
    obtain ⟨ws, rfl, hw⟩ := words_all h.2
    cases p with
    | str x => exact ⟨x :: ws, rfl, fun w hm => by
        rcases List.mem_cons.mp hm with rfl | hm
        · exact h.1
        · exact hw w hm⟩
    | _ => exact absurd h.1 (by unfold isWD; exact Bool.noConfusion)
theorem filt_str (ws : List Str) : (ws.map PyData.str).filterMap strD = ws := by
  induction ws with
  | nil => rfl
  | cons w r ih => simp [strD, ih]
/-- a query, as it is built -/
inductive QOf (n : Nat) : PyData → Nat → Prop
  | word {w : Str} : isW w = true → QOf n (.tuple [.str "word", .str w]) 1
  | phrase {ws : List Str} : 2 ≤ ws.length → ws.length ≤ 5 → (∀ w ∈ ws, isW w = true) → QOf n (.tuple (.str "phrase" :: ws.map PyData.str)) ws.length
  | near {f : Int} {a b : Str} : 1 ≤ f → f ≤ 20 → isW a = true → isW b = true → QOf n (.tuple [.str "near", .int f, .str a, .str b]) 2
  | join {k : Str} {ps : List PyData} {m : Nat} : (k = "and" ∨ k = "or" ∨ k = "but") → (k = "but" → ps.length = 2) → joinC (ps.map (cnt n)) = some m → QOf n (.tuple (.str k :: ps)) m
theorem wordC_some {ps : List PyData} {m : Nat} (h : wordC ps = some m) : ∃ w : Str, ps = [.str w] ∧ isW w = true ∧ m = 1 := by
  unfold wordC at h
  split at h
  · rename_i hc
    obtain ⟨ws, rfl, hw⟩ := words_all hc.2
    have hl : ws.length = 1 := by simpa using hc.1
    match ws, hl with
    | [w], _ => exact ⟨w, rfl, hw w (by simp), (Option.some.inj h).symm⟩
  · cases h
theorem phraseC_some {ps : List PyData} {m : Nat} (h : phraseC ps = some m) : ∃ ws : List Str, ps = ws.map PyData.str ∧ 2 ≤ ws.length ∧ ws.length ≤ 5 ∧ (∀ w ∈ ws, isW w = true) ∧ m = ws.length := by
  unfold phraseC at h
  split at h
  · rename_i hc
    obtain ⟨ws, rfl, hw⟩ := words_all hc.2.2
    rw [List.length_map] at hc h
    exact ⟨ws, rfl, hc.1, hc.2.1, hw, (Option.some.inj h).symm⟩
  · cases h
theorem isWD_str {d : PyData} (h : isWD d = true) : ∃ x, d = .str x ∧ isW x = true := by
  cases d with
  | str x => exact ⟨x, rfl, h⟩
  | _ => exact absurd h (by unfold isWD; exact Bool.noConfusion)
theorem nearC_some {ps : List PyData} {m : Nat} (h : nearC ps = some m) : ∃ (f : Int) (a b : Str), ps = [.int f, .str a, .str b] ∧ 1 ≤ f ∧ f ≤ 20 ∧ isW a = true ∧ isW b = true ∧ m = 2 := by
  unfold nearC at h
  split at h
  · rename_i f a b
    split at h
    · rename_i hc
      obtain ⟨x, rfl, hx⟩ := isWD_str hc.2.2.1
      obtain ⟨y, rfl, hy⟩ := isWD_str hc.2.2.2
      exact ⟨f, x, y, rfl, hc.1, hc.2.1, hx, hy, (Option.some.inj h).symm⟩
    · cases h
  · cases h
theorem cnt_inv {n : Nat} {d : PyData} {m : Nat} (h : cnt (n + 1) d = some m) : QOf n d m := by
  unfold cnt at h
  split at h
  · contradiction
  · rename_i n' k ps hn
    cases hn
    split at h
    · rename_i hk
      subst hk
      obtain ⟨w, rfl, hw, rfl⟩ := wordC_some h
      exact .word hw
    · split at h
      · rename_i hk
        subst hk
        obtain ⟨ws, rfl, h1, h2, h3, rfl⟩ := phraseC_some h
        exact .phrase h1 h2 h3
      · split at h
        · rename_i hk
          subst hk
          obtain ⟨f, a, b, rfl, h1, h2, h3, h4, rfl⟩ := nearC_some h
          exact .near h1 h2 h3 h4
        · split at h
          · rename_i hk
            exact .join (.inl hk) (fun z => by rw [hk] at z; exact absurd z (by decide +kernel)) h
          · split at h
            · rename_i hk
              exact .join (.inr (.inl hk)) (fun z => by rw [hk] at z; exact absurd z (by decide +kernel)) h
            · split at h
              · rename_i hk
                unfold butC at h
                split at h
                · rename_i hl
                  rw [List.length_map] at hl
                  exact .join (.inr (.inr hk)) (fun _ => hl) h
                · cases h
              · cases h
  · cases h
theorem cnt_word {n : Nat} {w : Str} (h : isW w = true) : cnt (n + 1) (.tuple [.str "word", .str w]) = some 1 := by
  unfold cnt
  rw [if_pos rfl]
  unfold wordC
  rw [if_pos ⟨rfl, by simp [isWD, h]⟩]
theorem cnt_phrase {n : Nat} {ws : List Str} (h1 : 2 ≤ ws.length) (h2 : ws.length ≤ 5) (h : ∀ w ∈ ws, isW w = true) : cnt (n + 1) (.tuple (.str "phrase" :: ws.map PyData.str)) = some ws.length := by
  unfold cnt
  rw [if_neg (by decide +kernel), if_pos rfl]
  unfold phraseC
  have ha : (ws.map PyData.str).all isWD = true := by
    rw [List.all_eq_true]
    intro d hd
    obtain ⟨w, hw, rfl⟩ := List.mem_map.mp hd
    exact h w hw
  rw [List.length_map, if_pos ⟨h1, h2, ha⟩]
theorem cnt_near {n : Nat} {f : Int} {a b : Str} (h1 : 1 ≤ f) (h2 : f ≤ 20) (ha : isW a = true) (hb : isW b = true) : cnt (n + 1) (.tuple [.str "near", .int f, .str a, .str b]) = some 2 := by
  unfold cnt
  rw [if_neg (by decide +kernel), if_neg (by decide +kernel), if_pos rfl]
  unfold nearC
  simp only
  rw [if_pos ⟨h1, h2, ha, hb⟩]
theorem cnt_and {n : Nat} {ps : List PyData} : cnt (n + 1) (.tuple (.str "and" :: ps)) = joinC (ps.map (cnt n)) := by
  rw [cnt, if_neg (by decide +kernel), if_neg (by decide +kernel), if_neg (by decide +kernel), if_pos rfl]
theorem cnt_or {n : Nat} {ps : List PyData} : cnt (n + 1) (.tuple (.str "or" :: ps)) = joinC (ps.map (cnt n)) := by
  rw [cnt, if_neg (by decide +kernel), if_neg (by decide +kernel), if_neg (by decide +kernel), if_neg (by decide +kernel), if_pos rfl]
theorem cnt_but {n : Nat} {ps : List PyData} : cnt (n + 1) (.tuple (.str "but" :: ps)) = butC (ps.map (cnt n)) := by
  rw [cnt, if_neg (by decide +kernel), if_neg (by decide +kernel), if_neg (by decide +kernel), if_neg (by decide +kernel), if_neg (by decide +kernel), if_pos rfl]
/-- all are queries -/
theorem join_some {n : Nat} {ps : List PyData} {m : Nat} (h : joinC (ps.map (cnt n)) = some m) : 2 ≤ ps.length ∧ ps.length ≤ 4 ∧ ∀ p ∈ ps, ∃ c, cnt n p = some c := by
  unfold joinC at h
  split at h
  · rename_i hc
    rw [List.length_map] at hc
    refine ⟨hc.1, hc.2.1, fun p hp => ?_⟩
    have := List.all_eq_true.mp hc.2.2 _ (List.mem_map.mpr ⟨p, hp, rfl⟩)
    exact Option.isSome_iff_exists.mp this
  · cases h
theorem noLs_all {ds : List PyData} (h : ∀ d ∈ ds, noL d = true) : noLs ds = true := by
  induction ds with
  | nil => rfl
  | cons d r ih =>
    rw [noLs, h d List.mem_cons_self, ih (fun e he => h e (List.mem_cons_of_mem _ he))]
    rfl
theorem cnt_noL : ∀ {n : Nat} {d : PyData} {m : Nat}, cnt n d = some m → noL d = true
  | 0, d, m, h => by cases h
  | n + 1, d, m, h => by
    cases cnt_inv h with
    | word => rfl
    | phrase =>
      rw [noL]
      refine noLs_all fun d hd => ?_
      rcases List.mem_cons.mp hd with rfl | hd
      · rfl
      · obtain ⟨w, _, rfl⟩ := List.mem_map.mp hd
        rfl
    | near => rfl
    | join h1 h2 h3 =>
      rw [noL]
      refine noLs_all fun d hd => ?_
      rcases List.mem_cons.mp hd with rfl | hd
      · rfl
      · obtain ⟨c, hc⟩ := (join_some h3).2.2 d hd
        exact cnt_noL hc
theorem kind_fit {k : Str} {n : Nat} (h : k = "and" ∨ k = "or" ∨ k = "but") : Fit n (.str k) := by
  rcases h with rfl | rfl | rfl <;> exact fit_str (by decide +kernel) (by decide +kernel)
theorem cnt_fit : ∀ {n : Nat} {d : PyData} {m : Nat}, cnt n d = some m → Fit n d
  | 0, d, m, h => by cases h
  | n + 1, d, m, h => by
    cases cnt_inv h with
    | word hw =>
      refine fit_tup (by simp) fun e he => ?_
      simp only [List.mem_cons, List.not_mem_nil, or_false] at he
      rcases he with rfl | rfl
      · exact fit_str (by decide +kernel) (by decide +kernel)
      · exact fit_word hw
    | phrase h1 h2 h3 =>
      refine fit_tup (by simp; omega) fun e he => ?_
      rcases List.mem_cons.mp he with rfl | he
      · exact fit_str (by decide +kernel) (by decide +kernel)
      · obtain ⟨w, hw, rfl⟩ := List.mem_map.mp he
        exact fit_word (h3 w hw)
    | near h1 h2 ha hb =>
      refine fit_tup (by simp) fun e he => ?_
      simp only [List.mem_cons, List.not_mem_nil, or_false] at he
      rcases he with rfl | rfl | rfl | rfl
      · exact fit_str (by decide +kernel) (by decide +kernel)
      · exact fit_int
      · exact fit_word ha
      · exact fit_word hb
    | join h1 h2 h3 =>
      obtain ⟨j1, j2, j3⟩ := join_some h3
      refine fit_tup (by simp; omega) fun e he => ?_
      rcases List.mem_cons.mp he with rfl | he
      · exact kind_fit h1
      · obtain ⟨c, hc⟩ := j3 e he
        exact cnt_fit hc
/-- deeper is let -/
theorem cnt_succ : ∀ {n : Nat} {d : PyData} {m : Nat}, cnt n d = some m → cnt (n + 1) d = some m
  | 0, d, m, h => by cases h
  | n + 1, d, m, h => by
    have key : ∀ {ps : List PyData} {m : Nat}, joinC (ps.map (cnt n)) = some m → joinC (ps.map (cnt (n + 1))) = some m := fun {ps m} hj => by
      have e : ps.map (cnt (n + 1)) = ps.map (cnt n) := List.map_congr_left fun p hp => by
        obtain ⟨c, hc⟩ := (join_some hj).2.2 p hp
        rw [hc, cnt_succ hc]
      rw [e]
      exact hj
    cases cnt_inv h with
    | word hw => exact cnt_word hw
    | phrase h1 h2 h3 => exact cnt_phrase h1 h2 h3
    | near h1 h2 ha hb => exact cnt_near h1 h2 ha hb
    | join h1 h2 h3 =>
      rcases h1 with rfl | rfl | rfl
      · rw [cnt_and]; exact key h3
      · rw [cnt_or]; exact key h3
      · rw [cnt_but]
        unfold butC
        rw [List.length_map, if_pos (h2 rfl)]
        exact key h3
theorem cnt_mono {n k : Nat} {d : PyData} {m : Nat} (h : cnt n d = some m) (l : n ≤ k) : cnt k d = some m := by
  induction l with
  | refl => exact h
  | step _ ih => exact cnt_succ ih
/-- the words of a query -/
theorem wIn_ok : ∀ {n : Nat} {d : PyData} {m : Nat}, cnt n d = some m → (wIn n d).length ≤ m ∧ ∀ w ∈ wIn n d, isW w = true
  | 0, d, m, h => by cases h
  | n + 1, d, m, h => by
    cases cnt_inv h with
    | word hw =>
      rw [wIn, if_pos (.inl rfl)]
      exact ⟨by simp [strD], fun w hm => by simp [strD] at hm; rw [hm]; exact hw⟩
    | phrase h1 h2 h3 =>
      rw [wIn, if_pos (.inr rfl), filt_str]
      exact ⟨Nat.le_refl _, h3⟩
    | near h1 h2 ha hb =>
      rw [wIn, if_neg (by decide +kernel), if_pos rfl]
      refine ⟨by simp [strD], fun w hm => ?_⟩
      simp [strD] at hm
      rcases hm with rfl | rfl
      · exact ha
      · exact hb
    | @join k ps _ h1 h2 h3 =>
      obtain ⟨j1, j2, j3⟩ := join_some h3
      have hm : ((ps.map (cnt n)).filterMap id).sum = m := by
        unfold joinC at h3
        split at h3
        · exact Option.some.inj h3
        · cases h3
      have hsum : ∀ l : List PyData, (∀ p ∈ l, ∃ c, cnt n p = some c) → ((l.map (wIn n)).flatten.length ≤ ((l.map (cnt n)).filterMap id).sum ∧ ∀ w ∈ (l.map (wIn n)).flatten, isW w = true) := by
        intro l
        induction l with
        | nil => intro _; exact ⟨Nat.le_refl _, fun w hw => absurd hw (by simp)⟩
        | cons p r ih =>
          intro hl
          obtain ⟨c, hc⟩ := hl p List.mem_cons_self
          obtain ⟨i1, i2⟩ := wIn_ok hc
          obtain ⟨r1, r2⟩ := ih (fun q hq => hl q (List.mem_cons_of_mem _ hq))
          rw [List.map_cons, List.flatten_cons, List.map_cons, hc]
          refine ⟨by simp only [List.length_append, List.filterMap_cons, id, List.sum_cons]; omega, fun w hw => ?_⟩
          rcases List.mem_append.mp hw with hw | hw
          · exact i2 w hw
          · exact r2 w hw
      have hpre : ∀ l : List PyData, (((l.take 1).map (cnt n)).filterMap id).sum ≤ ((l.map (cnt n)).filterMap id).sum := by
        intro l
        cases l with
        | nil => simp
        | cons p r =>
          simp only [List.take_succ_cons, List.take_zero, List.map_cons, List.map_nil]
          cases cnt n p with
          | none => simp
          | some c => simp
      have kd : ¬ (k = "word" ∨ k = "phrase") := by
        rcases h1 with rfl | rfl | rfl <;> decide +kernel
      have kn : ¬ k = "near" := by
        rcases h1 with rfl | rfl | rfl <;> decide +kernel
      rw [wIn, if_neg kd, if_neg kn]
      split
      · obtain ⟨a, b⟩ := hsum (ps.take 1) (fun p hp => j3 p (List.mem_of_mem_take hp))
        exact ⟨Nat.le_trans a (hm ▸ hpre ps), b⟩
      · obtain ⟨a, b⟩ := hsum ps j3
        exact ⟨hm ▸ a, b⟩
section
variable {K : PySem.W.Frag} {H : Hp} {Q : VK}
theorem w_inV {p : Addr} {xs : List V} {x : V} (hs : SqL K H p xs ∨ SqT K H p xs) (fx : flatV x = true) (fs : xs.all flatV = true) (q : Q (.bl (inV x xs)) H) : rIn K false x (.ref p) H Q := ⟨p, xs, rfl, hs, fx, fs, q⟩
theorem w_decN {c A B : Prop} {dc : Decidable c} (h1 : c → B) (h2 : ¬ c → A) : if (!decide c) = true then A else B := by
  by_cases h : c
  · rw [if_neg (by rw [decide_eq_true h]; exact Bool.noConfusion)]
    exact h1 h
  · rw [if_pos (by rw [decide_eq_false h]; rfl)]
    exact h2 h
end
theorem cnt_flat (cs : List (Option Nat)) : (cs.map cntV).all flatV = true := by
  rw [List.all_eq_true]
  intro v hv
  obtain ⟨o, _, rfl⟩ := List.mem_map.mp hv
  cases o <;> rfl
theorem cnt_none (cs : List (Option Nat)) : inV .non (cs.map cntV) = !cs.all (·.isSome) := by
  unfold inV
  induction cs with
  | nil => rfl
  | cons o r ih =>
    rw [List.map_cons, List.any_cons, ih, List.all_cons]
    cases o with
    | none => simp [cntV, eqV]
    | some m => simp [cntV, eqV]
theorem cnt_all : ∀ {cs : List (Option Nat)}, cs.all (·.isSome) = true → ∃ ms : List Nat, cs = ms.map some
  | [], _ => ⟨[], rfl⟩
  | o :: r, h => by
    rw [List.all_cons, Bool.and_eq_true] at h
    obtain ⟨ms, rfl⟩ := cnt_all h.2
    cases o with
    | none => cases h.1
    | some m => exact ⟨m :: ms, rfl⟩
theorem sum_cast : ∀ ms : List Nat, (ms.map fun m : Nat => (m : Int)).sum = ((ms.sum : Nat) : Int)
  | [] => rfl
  | m :: r => by
    rw [List.map_cons, List.sum_cons, List.sum_cons, sum_cast r]
    omega
/-- a query -/
def isQ (d : PyData) : Bool := match cnt 5 d with
  | some m => decide (m ≤ 12)
  | none => false
end Bw

namespace Bw
open PySem PySem.Spec PyProof.Rows L2 LamX
/-! ### slices by places, tuples put together -/
theorem sIx_nat {n d i : Nat} (h : i ≤ n) : HT.sIx n d (some (i : Int)) = i := by
  unfold HT.sIx
  simp only
  split <;> omega
theorem sIx_big {n d : Nat} {i : Int} (h : (n : Int) ≤ i) : HT.sIx n d (some i) = n := by
  unfold HT.sIx
  simp only
  split <;> omega
theorem sIx_none {n d : Nat} : HT.sIx n d none = d := rfl
theorem cutV_drop {xs : List V} {i : Nat} (h : i ≤ xs.length) : cutV xs (some (i : Int)) none = xs.drop i := by
  unfold cutV
  rw [sIx_nat h, sIx_none, List.take_of_length_le (by rw [List.length_drop]; omega)]
theorem cutV_mid {xs : List V} {i j : Nat} (h : i ≤ j) (h2 : j ≤ xs.length) : cutV xs (some (i : Int)) (some (j : Int)) = (xs.drop i).take (j - i) := by
  unfold cutV
  rw [sIx_nat (i := i) (by omega), sIx_nat (i := j) h2]
theorem cutV_take {xs : List V} {j : Nat} (h2 : j ≤ xs.length) : cutV xs none (some (j : Int)) = xs.take j := by
  unfold cutV
  rw [sIx_nat h2, sIx_none, List.drop_zero, Nat.sub_zero]
section
variable {K : PySem.W.Frag} {H : Hp} {Q : VK}
/-- t[i:], i above 0 -/
theorem w_slTd {a : Addr} {xs : List V} {i : Nat} (h : SqT K H a xs) (h0 : 0 < i) (hi : i ≤ xs.length) (k : ∀ p H2, H p = none → Same H H2 → H2 p = some (.tup (xs.drop i)) → Q (.ref p) H2) : rSlT K (.ref a) (some (i : Int)) none H Q :=
  ⟨a, xs, rfl, h, fun z => by rw [sIx_nat hi] at z; omega, fun p n => k p _ n (same_new n) (by rw [cutV_drop hi]; exact upd_same)⟩
/-- t[i:] behind the end -/
theorem w_slTe {a : Addr} {xs : List V} {i : Int} (h : SqT K H a xs) (h0 : 0 < xs.length) (hi : (xs.length : Int) ≤ i) (k : ∀ p H2, H p = none → Same H H2 → H2 p = some (.tup []) → Q (.ref p) H2) : rSlT K (.ref a) (some i) none H Q :=
  ⟨a, xs, rfl, h, fun z => by rw [sIx_big hi] at z; omega, fun p n => k p _ n (same_new n) (by
    have : cutV xs (some i) none = [] := by
      unfold cutV
      rw [sIx_big hi]
      simp
    rw [this]; exact upd_same)⟩
/-- t[i:j] -/
theorem w_slTm {a : Addr} {xs : List V} {i j : Nat} (h : SqT K H a xs) (h0 : 0 < i) (hij : i ≤ j) (hj : j ≤ xs.length) (k : ∀ p H2, H p = none → Same H H2 → H2 p = some (.tup ((xs.drop i).take (j - i))) → Q (.ref p) H2) : rSlT K (.ref a) (some (i : Int)) (some (j : Int)) H Q :=
  ⟨a, xs, rfl, h, fun z => by rw [sIx_nat (by omega)] at z; omega, fun p n => k p _ n (same_new n) (by rw [cutV_mid hij hj]; exact upd_same)⟩
theorem w_catT {a b : Addr} {xs ys : List V} (ha : H a = some (.tup xs)) (hb : H b = some (.tup ys)) (hx : xs ≠ []) (hl : xs.length + ys.length ≤ 100000) (k : ∀ p H2, Same H H2 → H2 p = some (.tup (xs ++ ys)) → Q (.ref p) H2) : rCatT K (.ref a) (.ref b) H Q :=
  ⟨a, b, xs, ys, rfl, rfl, .of ha, .of hb, hx, Nat.le_trans hl (by decide), fun e => k a H (.refl _) (by rw [e, List.append_nil]; exact ha), fun _ p n => k p _ (same_new n) upd_same⟩
end
/-- an if whose test is known, what is behind it once -/
theorem w_ifB {tt : TT} {t u : TS} {D : Ends} {σ : L2.St} {H : Hp} (b : Bool) (H' : Hp) (h : ∀ QB : Bool → Hp → Prop, QB b H' → tt σ H QB) (k : if b = true then t D σ H' else u D σ H') : tIfS tt t u D σ H := h _ k
/-- a vacuous promise -/
theorem fnok_no {P : Program} {w : World} {K : PySem.W.Frag} {mg : Str → Option Value} {base : Heap} {CX : CXT} {k : Nat} {f : Addr} {fd : FuncData} {ps : List Str} {sp : Sp} (h : ∀ vs H Q E, ¬ sp vs H Q E) : FnOk P w K mg base CX k f fd ps sp :=
  ⟨fun vs H Q E z => absurd z (h vs H Q E), fun A outer s H args us vs Q E _ _ _ _ z => absurd z (h vs H Q E)⟩
/-! ### a dict of defs, written at the top -/
structure Ent where
  (k : Str) (t : Tok) (v : Value)
def Ent.de (P : Params) (e : Ent) : DictEntry := ⟨PyData.keyHash P e.k, .str e.k e.t, e.v⟩
theorem lits (P : Params) : ∀ es : List Ent, PySem.W.KeysLit P (es.map (Ent.de P))
  | [] => trivial
  | e :: r => ⟨⟨e.k, e.t, rfl, rfl⟩, lits P r⟩
theorem ns_lits {K : PySem.W.Frag} {P : Params} {D : Addr} {c : Value} {o : Option Addr} {n : Nat} {sl : Array (Option Value)} {es : List Ent} (h : K.lookup D = some ⟨c, o, .dict (es.map (Ent.de P)).toArray n, sl⟩) (k : Str) :
    PySem.W.nsIn K D k = some ((es.find? fun e => decide (e.k = k)).map (·.v)) := by
  unfold PySem.W.nsIn
  rw [h]
  simp only [List.toList_toArray]
  have e1 : ∀ l : List Ent, (l.map (Ent.de P)).find? (fun x => x.key.isStr k) = (l.find? fun e => decide (e.k = k)).map (Ent.de P) := by
    intro l
    induction l with
    | nil => rfl
    | cons e r ih =>
      rw [List.map_cons, List.find?_cons, List.find?_cons, ih]
      have : (Ent.de P e).key.isStr k = decide (e.k = k) := by
        show (Value.str e.k e.t).isStr k = _
        rw [PySem.W.isStr_of]
        show (e.k == k) = _
        by_cases hk : e.k = k
        · simp [hk]
        · simp [hk]
      rw [this]
      split <;> rfl
  have e2 : ∀ l : List Ent, (l.map (Ent.de P)).any (·.refKey) = false := by
    intro l
    rw [List.any_eq_false]
    intro x hx
    obtain ⟨e, _, rfl⟩ := List.mem_map.mp hx
    exact Bool.false_ne_true
  rw [e1 es, e2 es]
  cases es.find? fun e => decide (e.k = k) with
  | none => rfl
  | some e => rfl
theorem kdict_lits {K : PySem.W.Frag} {w : World} {D : Addr} {n : Nat} {es : List Ent} (h : K.lookup D = some ⟨.type "dict", none, .dict (es.map (Ent.de w.params)).toArray n, #[]⟩) (low : (D == sysModules) = false) : KDict K w D (es.map (Ent.de w.params)).toArray n :=
  ⟨h, by simpa using lits w.params es, low⟩
end Bw

/-! what a page has of a query, plainly -/
namespace Bw
open PySem PySem.Spec PyProof.Rows L2 LamX
/-- where some words stand one behind another -/
def runP (held us : List Str) : List Nat := (plc held (us.headD "")).filter fun i => decide ((held.drop i).take us.length = us)
def isNear (f : Int) (i j : Nat) : Bool := decide (1 ≤ ((i : Int) - j).natAbs ∧ ((((i : Int) - j).natAbs : Nat) : Int) ≤ f)
/-- where two words stand near one another -/
def nearP (f : Int) (a b : Str) (held : List Str) : List (Nat × Nat) := ((plc held a).map fun i => ((plc held b).filter fun j => isNear f i j).map fun j => (i, j)).flatten
def pD (q : Nat × Nat) : PyData := .tuple [.int q.1, .int q.2]
def nearD (ps : List PyData) (held : List Str) : PyData := match ps with
  | [.int f, .str a, .str b] => .list ((nearP f a b held).map pD)
  | _ => .none
def plcD (d : PyData) (held : List Str) : PyData := match d with
  | .tuple (.str k :: ps) => if k = "near" then nearD ps held
    else if k = "word" ∨ k = "phrase" then .list ((runP held (ps.filterMap strD)).map nD) else .none
  | _ => .none
def hasN : PyData → Bool
  | .list [] => false
  | _ => true
/-- whether a page has what a query asks -/
def hasQ : Nat → PyData → List Str → Bool
  | 0, _, _ => false
  | n + 1, .tuple (.str k :: ps), held =>
    if k = "and" then (ps.map fun p => hasQ n p held).all id else if k = "or" then (ps.map fun p => hasQ n p held).any id
    else if k = "but" then (((ps.take 1).map fun p => hasQ n p held).all id && !((ps.drop 1).map fun p => hasQ n p held).any id)
    else hasN (plcD (.tuple (.str k :: ps)) held)
  | _ + 1, _, _ => false
theorem good_nD (ns : List Nat) : GoodD (.list (ns.map nD)) 2 := (good_list (n := 1) fun d hd => by
  obtain ⟨n, _, rfl⟩ := List.mem_map.mp hd
  exact good_int)
theorem good_pD (qs : List (Nat × Nat)) : GoodD (.list (qs.map pD)) 2 := good_list fun d hd => by
  obtain ⟨q, _, rfl⟩ := List.mem_map.mp hd
  exact good_tuple fun e he => by
    simp only [List.mem_cons, List.not_mem_nil, or_false] at he
    rcases he with rfl | rfl
    · exact good_int
    · exact good_int
theorem plc_lt {ws : List Str} {w : Str} {i : Nat} (h : i ∈ plc ws w) : i < ws.length ∧ ws[i]? = some w := by
  unfold plc at h
  rw [List.mem_filter, List.mem_range] at h
  exact ⟨h.1, of_decide_eq_true h.2⟩
theorem plc_mem {ws : List Str} {w : Str} {i : Nat} : i ∈ plc ws w ↔ ws[i]? = some w := by
  refine ⟨fun h => (plc_lt h).2, fun h => ?_⟩
  unfold plc
  rw [List.mem_filter, List.mem_range]
  exact ⟨(List.getElem?_eq_some_iff.mp h).1, decide_eq_true h⟩
theorem runP_len (held us : List Str) : (runP held us).length ≤ held.length := by
  unfold runP
  exact Nat.le_trans (List.length_filter_le _ _) (plc_len _ _)
theorem nearP_len (f : Int) (a b : Str) (held : List Str) : (nearP f a b held).length ≤ held.length * held.length := by
  unfold nearP
  rw [List.length_flatten]
  have h := sum_le (l := (((plc held a).map fun i => ((plc held b).filter fun j => isNear f i j).map fun j => (i, j)).map List.length)) (c := held.length) (fun x hx => by
    obtain ⟨l, hl, rfl⟩ := List.mem_map.mp hx
    obtain ⟨i, _, rfl⟩ := List.mem_map.mp hl
    rw [List.length_map]
    exact Nat.le_trans (List.length_filter_le _ _) (plc_len _ _))
  rw [List.length_map, List.length_map] at h
  exact Nat.le_trans h (Nat.mul_le_mul_right _ (plc_len _ _))
theorem hasQ_and {n : Nat} {ps : List PyData} {held : List Str} : hasQ (n + 1) (.tuple (.str "and" :: ps)) held = (ps.map fun p => hasQ n p held).all id := by
  rw [hasQ, if_pos rfl]
theorem hasQ_or {n : Nat} {ps : List PyData} {held : List Str} : hasQ (n + 1) (.tuple (.str "or" :: ps)) held = (ps.map fun p => hasQ n p held).any id := by
  rw [hasQ, if_neg (by decide +kernel), if_pos rfl]
theorem hasQ_but {n : Nat} {a b : PyData} {held : List Str} : hasQ (n + 1) (.tuple [.str "but", a, b]) held = (hasQ n a held && !hasQ n b held) := by
  rw [hasQ, if_neg (by decide +kernel), if_neg (by decide +kernel), if_pos rfl]
  simp
theorem plcD_near {f : Int} {a b : Str} {held : List Str} : plcD (.tuple [.str "near", .int f, .str a, .str b]) held = .list ((nearP f a b held).map pD) := by
  rw [plcD, if_pos rfl]
  rfl
theorem plcD_word {a : Str} {held : List Str} : plcD (.tuple [.str "word", .str a]) held = .list ((runP held [a]).map nD) := by
  rw [plcD, if_neg (by decide +kernel), if_pos (.inl rfl)]
  rfl
theorem plcD_phrase {ws : List Str} {held : List Str} : plcD (.tuple (.str "phrase" :: ws.map PyData.str)) held = .list ((runP held ws).map nD) := by
  rw [plcD, if_neg (by decide +kernel), if_pos (.inr rfl), filt_str]
theorem hasQ_plc {n : Nat} {k : Str} {ps : List PyData} {held : List Str} (h1 : ¬ k = "and") (h2 : ¬ k = "or") (h3 : ¬ k = "but") : hasQ (n + 1) (.tuple (.str k :: ps)) held = hasN (plcD (.tuple (.str k :: ps)) held) := by
  rw [hasQ, if_neg h1, if_neg h2, if_neg h3]
theorem plcD_list' (held : List Str) {n m : Nat} {k : Str} {ps : List PyData} (h : QOf n (.tuple (.str k :: ps)) m) (h1 : ¬ k = "and") (h2 : ¬ k = "or") (h3 : ¬ k = "but") : ∃ ds, plcD (.tuple (.str k :: ps)) held = .list ds ∧ GoodD (.list ds) 2 := by
  cases h with
  | word hw => exact ⟨_, plcD_word, good_nD _⟩
  | phrase a b c => exact ⟨_, plcD_phrase, good_nD _⟩
  | near a b c d => exact ⟨_, plcD_near, good_pD _⟩
  | join a _ _ => rcases a with a | a | a <;> contradiction
theorem plcD_list (held : List Str) {m : Nat} {d : PyData} (h : cnt 1 d = some m) : ∃ ds, plcD d held = .list ds := by
  cases cnt_inv h with
  | word hw => exact ⟨_, plcD_word⟩
  | phrase a b c => exact ⟨_, plcD_phrase⟩
  | near a b c d => exact ⟨_, plcD_near⟩
  | @join k ps _ a b c =>
    obtain ⟨j1, j2, j3⟩ := join_some c
    cases ps with
    | nil => simp at j1
    | cons p r =>
      obtain ⟨c, hc⟩ := j3 p (by simp)
      cases hc
theorem w_any {K : PySem.W.Frag} {bs : List Bool} {a : Addr} {xs : List V} {H : Hp} {Q : VK} (e : xs = bs.map V.bl) (h : SqL K H a xs) (q : Q (.bl (bs.any id)) H) : rAny K [.ref a] H Q := ⟨a, bs, rfl, e ▸ h, q⟩
theorem hasQ_and2 {n : Nat} {a b : PyData} {held : List Str} : hasQ (n + 1) (.tuple [.str "and", a, b]) held = (hasQ n a held && hasQ n b held) := by
  rw [hasQ_and]; simp
theorem hasQ_and3 {n : Nat} {a b c : PyData} {held : List Str} : hasQ (n + 1) (.tuple [.str "and", a, b, c]) held = (hasQ n a held && (hasQ n b held && hasQ n c held)) := by
  rw [hasQ_and]; simp
theorem hasQ_or2 {n : Nat} {a b : PyData} {held : List Str} : hasQ (n + 1) (.tuple [.str "or", a, b]) held = (hasQ n a held || hasQ n b held) := by
  rw [hasQ_or]; simp
theorem hasQ_or3 {n : Nat} {a b c : PyData} {held : List Str} : hasQ (n + 1) (.tuple [.str "or", a, b, c]) held = (hasQ n a held || (hasQ n b held || hasQ n c held)) := by
  rw [hasQ_or]; simp
theorem join2 {a b : PyData} {n x y : Nat} (h1 : cnt n a = some x) (h2 : cnt n b = some y) : joinC ([a, b].map (cnt n)) = some (x + y) := by
  simp [joinC, h1, h2]
theorem join3 {a b c : PyData} {n x y z : Nat} (h1 : cnt n a = some x) (h2 : cnt n b = some y) (h3 : cnt n c = some z) : joinC ([a, b, c].map (cnt n)) = some (x + (y + z)) := by
  simp [joinC, h1, h2, h3]
theorem cnt_and2 {a b : PyData} {n x y : Nat} (h1 : cnt n a = some x) (h2 : cnt n b = some y) : cnt (n + 1) (.tuple [.str "and", a, b]) = some (x + y) := cnt_and.trans (join2 h1 h2)
theorem cnt_or2 {a b : PyData} {n x y : Nat} (h1 : cnt n a = some x) (h2 : cnt n b = some y) : cnt (n + 1) (.tuple [.str "or", a, b]) = some (x + y) := cnt_or.trans (join2 h1 h2)
theorem cnt_and3 {a b c : PyData} {n x y z : Nat} (h1 : cnt n a = some x) (h2 : cnt n b = some y) (h3 : cnt n c = some z) : cnt (n + 1) (.tuple [.str "and", a, b, c]) = some (x + (y + z)) := cnt_and.trans (join3 h1 h2 h3)
theorem cnt_or3 {a b c : PyData} {n x y z : Nat} (h1 : cnt n a = some x) (h2 : cnt n b = some y) (h3 : cnt n c = some z) : cnt (n + 1) (.tuple [.str "or", a, b, c]) = some (x + (y + z)) := cnt_or.trans (join3 h1 h2 h3)
theorem cnt_but2 {a b : PyData} {n x y : Nat} (h1 : cnt n a = some x) (h2 : cnt n b = some y) : cnt (n + 1) (.tuple [.str "but", a, b]) = some (x + y) := by
  rw [cnt_but]
  unfold butC
  rw [if_pos (show ([a, b].map (cnt n)).length = 2 from rfl)]
  exact join2 h1 h2
/-- deeper alike -/
theorem hasQ_succ : ∀ {n : Nat} {d : PyData} {m : Nat} {held : List Str}, cnt n d = some m → hasQ (n + 1) d held = hasQ n d held
  | 0, d, m, held, h => by cases h
  | n + 1, d, m, held, h => by
    have key : ∀ {ps : List PyData} {m : Nat}, joinC (ps.map (cnt n)) = some m → (ps.map fun p => hasQ (n + 1) p held) = ps.map fun p => hasQ n p held := fun {ps m} hj => List.map_congr_left fun p hp => by
      obtain ⟨c, hc⟩ := (join_some hj).2.2 p hp
      exact hasQ_succ hc
    cases cnt_inv h with
    | word hw => rw [hasQ_plc (by decide +kernel) (by decide +kernel) (by decide +kernel), hasQ_plc (by decide +kernel) (by decide +kernel) (by decide +kernel)]
    | phrase h1 h2 h3 => rw [hasQ_plc (by decide +kernel) (by decide +kernel) (by decide +kernel), hasQ_plc (by decide +kernel) (by decide +kernel) (by decide +kernel)]
    | near h1 h2 ha hb => rw [hasQ_plc (by decide +kernel) (by decide +kernel) (by decide +kernel), hasQ_plc (by decide +kernel) (by decide +kernel) (by decide +kernel)]
    | @join k ps _ h1 h2 h3 =>
      rcases h1 with rfl | rfl | rfl
      · rw [hasQ_and, hasQ_and, key h3]
      · rw [hasQ_or, hasQ_or, key h3]
      · have hl := h2 rfl
        match ps, hl with
        | [a, b], _ =>
          obtain ⟨_, _, j3⟩ := join_some h3
          obtain ⟨x, hx⟩ := j3 a (by simp)
          obtain ⟨y, hy⟩ := j3 b (by simp)
          rw [hasQ_but, hasQ_but, hasQ_succ hx, hasQ_succ hy]
/-- an if whose answer is known, the heap not -/
theorem w_ifH {tt : TT} {t u : TS} {D : Ends} {σ : L2.St} {H : Hp} (b : Bool) (I : Hp → Prop) (h : ∀ QB : Bool → Hp → Prop, (∀ H', I H' → QB b H') → tt σ H QB) (k : ∀ H', I H' → if b = true then t D σ H' else u D σ H') : tIfS tt t u D σ H := h _ k
theorem in_two' {k : Str} : inV (.str k) [.str "word", .str "phrase"] = decide (k = "word" ∨ k = "phrase") := by
  unfold inV
  simp only [List.any_cons, List.any_nil, Bool.or_false, eqV]
  by_cases h1 : k = "word"
  · subst h1
    decide +kernel
  · by_cases h2 : k = "phrase"
    · subst h2
      decide +kernel
    · rw [decide_eq_false (fun z => z.elim h1 h2)]
      simp [Ne.symm h1, Ne.symm h2]
theorem rp_strs {H : Hp} : ∀ {xs : List V} {ws : List Str}, RpAll H xs (ws.map PyData.str) → xs = ws.map V.str := fun {xs ws} h => by
  induction ws generalizing xs with
  | nil => cases h; rfl
  | cons y r ih =>
    cases h with
    | cons h1 h2 =>
      cases h1
      rw [ih h2]
      rfl
end Bw

/-! list.remove of any data -/
namespace Bw
open PySem PySem.Spec PyProof.Rows L2 LamX
section
variable {X : Cx}
def rRemD (K : PySem.W.Frag) : V → List V → Hp → VK → Prop := fun x xs H Q => ∃ (l : Addr) (y : V) (d : PyData) (vs : List V) (ds : List PyData) (j : Nat), x = .ref l ∧ xs = [y] ∧ H l = some (.lst vs) ∧ DpAll K H vs ds ∧ Dp K H y d ∧ SeqAt.shaped (.list ds) = true ∧ SeqAt.shaped d = true ∧
  (∃ e, ds[j]? = some e ∧ PyData.eqv e d = true) ∧ (∀ m : Nat, m < j → ∀ e, ds[m]? = some e → PyData.eqv e d = false) ∧ Q .non (upd H l (.lst (vs.eraseIdx j)))
theorem mt_removeD (hu : X.A.units + 65 < cLine) : MtM X "list.remove" (rRemD X.K) := by
  intro pins s σ H x xs v us Q I rx rxs h
  obtain ⟨l, y, d, vs, ds, j, rfl, rfl, hH, hds, hy, sl, sd, ⟨e0, he0, hit⟩, hno, q⟩ := h
  cases rx
  obtain ⟨u, rfl, ru⟩ := rxs.one
  obtain ⟨bs, r1⟩ := Dp.reads I d y u hy ru
  have hroom : X.A.units + 1 + min (PyData.depthAll ds) d.depth < cLine := room_in_shaped sd hu
  have cl : PyData.canLayAll0 ds = true := SeqAt.canLay_of_shaped sl
  obtain ⟨z, its, n, r, hl, e⟩ := I.lstM hH
  obtain ⟨as, h4⟩ := Dp.readsAll I ds _ its hds r
  have hmap : its.map (SeqAt.readOf s.heap) = ds := SeqAt.readsAll_map ds its as cl h4
  have hdl : ds.length = its.length := by rw [← hmap, List.length_map]
  have hj : j < its.length := by
    have := (List.getElem?_eq_some_iff.mp he0).1
    omega
  have hat : ∀ (m : Nat) (hm : m < its.toArray.size) (e' : PyData), ds[m]? = some e' → SeqAt.readOf s.heap its.toArray[m] = e' := fun m hm e' he => by
    rw [← hmap, List.getElem?_map, List.getElem?_eq_getElem (by simpa using hm)] at he
    simpa using he
  refine call_meets PySem.F.slot_list_remove ⟨_, e, rfl⟩ PySem.F.entry_list_remove (PySem.F.args_list_remove_2 _ _)
    (SeqAt.list_removeAt l its.toArray n _ _ u (fun w => PyData.eqv (SeqAt.readOf s.heap w) d) j (by rw [List.size_toArray]; exact hj) ?_ ?_ (by rw [List.size_toArray]; omega)) ⟨e, SeqAt.items_eqAt (vs := its.toArray) (show ReadsAll s.heap its.toArray.toList ds as from h4) r1 cl (SeqAt.canLay_of_shaped sd) hroom, ?_⟩
  · show PyData.eqv (SeqAt.readOf s.heap its.toArray[j]) d = true
    rw [hat j (by rw [List.size_toArray]; exact hj) e0 he0]
    exact hit
  · intro m hm hmj
    have hm' : m < ds.length := by rw [List.size_toArray] at hm; omega
    show PyData.eqv (SeqAt.readOf s.heap its.toArray[m]) d = false
    rw [hat m hm _ (List.getElem?_eq_getElem hm')]
    exact hno m hmj _ (List.getElem?_eq_getElem hm')
  · have rr := r.eraseIdx j
    refine ⟨.non, _, I.lset (its' := its.eraseIdx j) (t' := s.toks) hH e ?_ rr ?_, rfl, q⟩
    · show its.toArray.eraseIdxIfInBounds j = (its.eraseIdx j).toArray
      rw [List.eraseIdxIfInBounds_toArray]
    · have z2 := len_erase vs j
      omega
end
end Bw
namespace Bw
open PySem PySem.Spec PyProof.Rows L2 LamX
theorem w_removeD {K : PySem.W.Frag} {H : Hp} {Q : VK} {l : Addr} {y : V} {d : PyData} {vs : List V} {ds : List PyData} {j n : Nat} (h : H l = some (.lst vs)) (hds : DpAll K H vs ds) (hy : Dp K H y d) (gl : GoodD (.list ds) n) (gd : GoodD d n) (hn : n ≤ 64) (hit : ∃ e, ds[j]? = some e ∧ PyData.eqv e d = true) (hno : ∀ m : Nat, m < j → ∀ e, ds[m]? = some e → PyData.eqv e d = false)
    (k : ∀ H2, KB l H H2 → H2 l = some (.lst (vs.eraseIdx j)) → Q .non H2) : rRemD K (.ref l) [y] H Q :=
  ⟨l, y, d, vs, ds, j, rfl, rfl, h, hds, hy, gl.shaped hn, gd.shaped hn, hit, hno, k _ kb_upd upd_same⟩
end Bw
namespace Bw
theorem u65_of {k : Nat} {A : PySem.Around} (r : L2.Room k A) : A.units + 65 < PySem.cLine := by have := r.un; omega
end Bw

/-! set comprehensions over keys, with one for and with two -/
namespace Bw
open PySem PySem.Spec PyProof.Rows L2
abbrev emptySetOf (w : World) : Obj := { cls := .type "set", dict := none, data := .set #[] 0 (.fresh 0 0 (!w.params.followText "set-order")) }
/-- a kind of set as a tracked thing -/
structure Bag (κ : Type) [DecidableEq κ] where
  bo : World → Addr → (κ → Bool) → Nat → HO
  kv : κ → V
  fresh : ∀ (P : Program) (w : World) (H : Hp) (h : Heap), ObjOk P w H (h.push (emptySetOf w)) h.objs.size (bo w h.objs.size (fun _ => false) 0)
  add : ∀ {X : Cx} {pins : List (Addr × Obj)} {σ : L2.St} {H : Hp} {s : Shared} {E : Value → Shared → Prop} {D : Addr} {S : κ → Bool} {n : Nat} {y : κ} {u : Value} {Q : Value → Shared → Prop}, Inv X pins σ H s → H D = some (bo X.w D S n) → n + 1 < scanBound → RelV (kv y) u →
    (∀ s', Inv X pins σ (upd H D (bo X.w D (fun j => S j || decide (j = y)) (if S y = true then n else n + 1))) s' → Q .none s') → wpAny (model X.prog X.w) X.A (call (.builtin "set.add") [.ref D, u]) Q E s
/-- sets of whole numbers -/
def bagI : Bag Int where
  bo := SetO
  kv := .int
  fresh := fun P w H h => setO_new (setR_fresh w)
  add := fun {X pins σ H s E D S n y u Q} I hD room r h => by
    obtain ⟨tk, rfl⟩ := r
    have R := setO_get I hD
    refine setR_add R room fun h' sb new => ?_
    have he : ∃ z, h'.get? D = some z := by
      have ⟨o, _, _, _, ho, _⟩ := new
      exact ⟨o, ho⟩
    exact h _ (I.write (e := D) (t' := s.toks + 1) (by rw [hD]; trivial) (.inl rfl) (fun b z hb hz => (sb.2 b hb).trans hz) he (setO_new new))
section
variable {κ : Type} [DecidableEq κ]
/-- what a turn of the innermost for does with the key at hand -/
def bagPut (B : Bag κ) (w : World) (D : Addr) (Nx : Hp → Prop) (y : V) (H : Hp) : Prop := ∃ (k : κ) (S : κ → Bool) (n : Nat), y = B.kv k ∧ H D = some (B.bo w D S n) ∧ n + 1 < scanBound ∧ Nx (upd H D (B.bo w D (fun j => S j || decide (j = k)) (if S k = true then n else n + 1)))
def tBag (B : Bag κ) (w : World) (wi : TI) (g : TG) (tt : TT) (te : TE) (vs : List Nat) : TE := fun σ H Q => wi σ H fun J H1 => ∀ D, H1 D = none → ∃ W : Nat → Nat → Hp → Prop, (∃ m, W 0 m (upd H1 D (B.bo w D (fun _ => false) 0))) ∧ ∀ i m H, W i m H →
  (J.stop i H ∧ Q (.ref D) H) ∨ (J.go i H ∧ ∃ Nx : Hp → Prop, (∀ H', Nx H' → ∃ m', m' < m ∧ W (i + 1) m' H') ∧ ∀ x H', J.yld i H x H' → g x (wipe σ vs) H' fun σ2 H2 => wipe σ2 vs = wipe σ vs ∧ tt σ2 H2 fun b H3 =>
    if b = true then te σ2 H3 (bagPut B w D Nx) else Nx H3)
def tBag2 (B : Bag κ) (w : World) (wi : TI) (g : TG) (tt : TT) (wi1 : TI) (g1 : TG) (tt1 : TT) (te : TE) (vs vs1 : List Nat) : TE := fun σ H Q => wi σ H fun J H1 => ∀ D, H1 D = none → ∃ W : Nat → Nat → Hp → Prop, (∃ m, W 0 m (upd H1 D (B.bo w D (fun _ => false) 0))) ∧ ∀ i m H, W i m H →
  (J.stop i H ∧ Q (.ref D) H) ∨ (J.go i H ∧ ∃ Nx : Hp → Prop, (∀ H', Nx H' → ∃ m', m' < m ∧ W (i + 1) m' H') ∧ ∀ x H', J.yld i H x H' → g x (wipe σ vs) H' fun σ2 H2 => wipe σ2 vs = wipe σ vs ∧ tt σ2 H2 fun b H3 =>
    if b = true then wi1 σ2 H3 fun J1 H4 => ∃ W1 : Nat → Nat → Hp → Prop, (∃ m, W1 0 m H4) ∧ ∀ j k H, W1 j k H →
      (J1.stop j H ∧ Nx H) ∨ (J1.go j H ∧ ∃ Nx1 : Hp → Prop, (∀ H', Nx1 H' → ∃ k', k' < k ∧ W1 (j + 1) k' H') ∧ ∀ x H', J1.yld j H x H' → g1 x (wipe σ2 vs1) H' fun σ3 H5 => wipe σ3 vs1 = wipe σ2 vs1 ∧ tt1 σ3 H5 fun b H6 =>
        if b = true then te σ3 H6 (bagPut B w D Nx1) else Nx1 H6)
    else Nx H3)
end
section
variable {prog : Program} {w : World} {A : Around} {R : Result → Shared → Prop} {s : Shared} {elt t0 i0 t1 i1 : Expr} {ifs0 ifs1 : List Expr} {scope : Scope} {pos : Pos} {it acc : Value} {env : Env}
abbrev noteE (prog : Program) (w : World) (A : Around) (env : Env) (R : Result → Shared → Prop) : Value → Shared → Prop := notedBy (model prog w) A env fun e s' => R (.error e) s'
abbrev testsOf (env : Env) (ifs : List Expr) : Sem Bool := forIn ifs true fun c r => if r = true then (do let b ← isTrue c env (eval c env); pure (.yield b)) else pure (.yield r)
/-- the loop of a clause of any comprehension's block -/
theorem loop_of {C tg : Expr} {i : Nat} {ifs : List Expr} {p : Pos} {body : Sem Unit} (hu : A.under (.compLoop C i it acc env) = A) (hd : (model prog w).den (.compLoop C i it acc env) = (compTurn C i it acc env).onRaise (fun x => do noteFrame x env; theTreesLotGoes x))
    (ht : compTurn C i it acc env = (do standAt p; match ← pyNext it with
      | none => pure (.done .next)
      | some v => letOwnedTupleGo tg it v; assign tg env v; let mut ok := true; for c in ifs do { if ok then ok ← isTrue c env (eval c env) }; if ok then { body }; again (.compLoop C i it acc env)))
    (I : Nat → Shared → Prop)
    (turn : ∀ n s, I n s → wpAny (model prog w) A (pyNext it) (fun r s1 => match r with
      | none => R (.ok .next) s1
      | some v => wpAny (model prog w) A (letOwnedTupleGo tg it v) (fun _ s2 => wpAny (model prog w) A (assign tg env v) (fun _ s3 => wpAny (model prog w) A (testsOf env ifs) (fun b s4 =>
          if b = true then wpAny (model prog w) A body (fun _ s5 => ∃ m, m < n ∧ I m s5) (noteE prog w A env R) s4 else ∃ m, m < n ∧ I m s4) (noteE prog w A env R) s3) (noteE prog w A env R) s2) (noteE prog w A env R) s1) (noteE prog w A env R) s)
    (n : Nat) (h : I n s) : codeAny (model prog w) A (.compLoop C i it acc env) R s := by
  refine codeAny_loop rfl I (fun n s hI => ?_) n h
  rw [hu, hd]
  refine wpAny_noted ?_
  rw [ht]
  refine wpAny_bind (wpAny_standAt (wpAny_bind (wpAny_mono (turn n s hI) (fun r s1 h1 => ?_) fun _ _ z => z)))
  cases r with
  | none => exact wpAny_pure h1
  | some v =>
    refine wpAny_bind (wpAny_mono h1 (fun _ s2 h2 => wpAny_bind (wpAny_mono h2 (fun _ s3 h3 => wpAny_bind (wpAny_mono h3 (fun b s4 h4 => ?_) fun _ _ z => z)) fun _ _ z => z)) fun _ _ z => z)
    cases b with
    | false => exact wpAny_pure ⟨rfl, h4⟩
    | true => exact wpAny_bind (wpAny_mono h4 (fun _ s5 h5 => wpAny_pure ⟨rfl, h5⟩) fun _ _ z => z)
abbrev setTwo (elt t0 i0 t1 i1 : Expr) (ifs0 ifs1 : List Expr) (scope : Scope) (pos : Pos) : Expr := .SetComp elt [⟨t0, i0, ifs0, 0⟩, ⟨t1, i1, ifs1, 0⟩] scope pos
/-- the body of the innermost clause, of the outer one -/
abbrev addOne (elt : Expr) (acc : Value) (env : Env) : Sem Unit := do let v ← eval elt env; standAt elt.pos; let _ ← call (.builtin "set.add") [acc, v]
abbrev goIn (C i1 : Expr) (acc : Value) (env : Env) : Sem Unit := do let x ← eval i1 env; standAt i1.pos; let x ← foldedSetIterable i1 env x; let _ ← runOwn (.compStart C 1 (← holding [x] (pyIter x)) acc env) env
theorem loopSet_in (I : Nat → Shared → Prop)
    (turn : ∀ n s, I n s → wpAny (model prog w) A (pyNext it) (fun r s1 => match r with
      | none => R (.ok .next) s1
      | some v => wpAny (model prog w) A (letOwnedTupleGo t1 it v) (fun _ s2 => wpAny (model prog w) A (assign t1 env v) (fun _ s3 => wpAny (model prog w) A (testsOf env ifs1) (fun b s4 =>
          if b = true then wpAny (model prog w) A (addOne elt acc env) (fun _ s5 => ∃ m, m < n ∧ I m s5) (noteE prog w A env R) s4 else ∃ m, m < n ∧ I m s4) (noteE prog w A env R) s3) (noteE prog w A env R) s2) (noteE prog w A env R) s1) (noteE prog w A env R) s)
    (n : Nat) (h : I n s) : codeAny (model prog w) A (.compLoop (setTwo elt t0 i0 t1 i1 ifs0 ifs1 scope pos) 1 it acc env) R s := loop_of rfl rfl (by rfl) I turn n h
theorem loopSet_out (I : Nat → Shared → Prop)
    (turn : ∀ n s, I n s → wpAny (model prog w) A (pyNext it) (fun r s1 => match r with
      | none => R (.ok .next) s1
      | some v => wpAny (model prog w) A (letOwnedTupleGo t0 it v) (fun _ s2 => wpAny (model prog w) A (assign t0 env v) (fun _ s3 => wpAny (model prog w) A (testsOf env ifs0) (fun b s4 =>
          if b = true then wpAny (model prog w) A (goIn (setTwo elt t0 i0 t1 i1 ifs0 ifs1 scope pos) i1 acc env) (fun _ s5 => ∃ m, m < n ∧ I m s5) (noteE prog w A env R) s4 else ∃ m, m < n ∧ I m s4) (noteE prog w A env R) s3) (noteE prog w A env R) s2) (noteE prog w A env R) s1) (noteE prog w A env R) s)
    (n : Nat) (h : I n s) : codeAny (model prog w) A (.compLoop (setTwo elt t0 i0 t1 i1 ifs0 ifs1 scope pos) 0 it acc env) R s := loop_of rfl rfl (by simp only [bind_assoc, pure_bind]; rfl) I turn n h
/-- the inner clause, begun -/
theorem startIn {C : Expr} (hn : C = setTwo elt t0 i0 t1 i1 ifs0 ifs1 scope pos) (h0 : codeAny (model prog w) A (.compLoop C 1 it acc env) R s)
    (h : wpAny (model prog w) A (pyIter it) (fun it' s' => codeAny (model prog w) A (.compLoop C 1 it' acc env) R s') (noteE prog w A env R) s) : codeAny (model prog w) A (.compStart C 1 it acc env) R s := by
  subst hn
  refine codeAny_of_tree ?_
  show wpAny _ _ ((compStart (setTwo elt t0 i0 t1 i1 ifs0 ifs1 scope pos) 1 it acc env).onRaise (fun x => do noteFrame x env; standAt theWindowsPlace)) _ _ s
  refine wpAny_notedAt ?_
  unfold compStart
  show wpAny _ _ (ask >>= _) _ _ s
  refine wpAny_bind (wpAny_askSetting (wpAny_ite ?_))
  split
  · first
      | exact wpAny_bind (wpAny_pure (wpAny_pure ⟨rfl, h0⟩))
      | exact wpAny_pure ⟨rfl, h0⟩
  · refine wpAny_bind (wpAny_rule ?_)
    show wpAny _ _ (standAt i1.pos >>= _) _ _ s
    exact wpAny_bind (wpAny_standAt (wpAny_bind (wpAny_mono h (fun it' s' h' => wpAny_pure ⟨rfl, h'⟩) fun _ _ z => z)))
/-- the inner clause by its own loop -/
theorem goIn_ok {C : Expr} {Q : Unit → Shared → Prop} {E : Value → Shared → Prop} {N : Shared → Prop} (hs : ∀ x, foldedSetIterable i1 env x = pure x) (hQ : ∀ s, N s → Q () s)
    (h : wpAny (model prog w) A (eval i1 env) (fun x s1 => wpAny (model prog w) A (pyIter x) (fun it1 s2 => codeAny (model prog w) A (.compStart C 1 it1 acc env) (fun r s' => match r with | .ok _ => N s' | .error _ => False) s2) E s1) E s) :
    wpAny (model prog w) A (goIn C i1 acc env) Q E s := by
  refine wpAny_bind (wpAny_mono h (fun x s1 h1 => ?_) fun _ _ z => z)
  refine wpAny_bind (wpAny_standAt (wpAny_bind (wpAny_of_eq (hs x) (wpAny_bind (wpAny_holding (wpAny_mono h1 (fun it1 s2 h2 => ?_) fun _ _ z => z))))))
  refine wpAny_bind (wpAny_runOwn ?_)
  rw [Around.mark_none]
  refine codeAny_mono h2 fun r s' hr => ?_
  cases r with
  | ok f => exact wpAny_pure (hQ _ hr)
  | error e => exact hr.elim
end
section
variable {X : Cx} {κ : Type} [DecidableEq κ]
/-- what the walk of a comprehension's block starts from -/
structure BlkAt (X : Cx) (pins : List (Addr × Obj)) (σ : L2.St) (tg : Expr) (Q : VK) (pst : Addr → Result → Shared → Prop) (scope : Scope) (vs : List Nat) (s3 : Shared) (H3 : Hp) (ce : Env) (fp : List Addr) (it D : Addr) (tn : Nat → Heap → Prop) (J : It) (s4 : Shared) : Prop where
  inv : Inv (X.blk s3 H3 scope ce fp) [] (wipe σ vs) H3 s4
  turn : Turn X.prog X.w X.K tg J fp it tn
  first : tn 0 s4.heap
  none : ∀ b ∈ fp, H3 b = none
  back : ∀ H5 s6, Inv (X.blk s3 H3 scope ce fp) [] (wipe σ vs) H5 s6 → Q (.ref D) H5 → pst ce.locals (.ok .next) s6
theorem BlkAt.stat {pins : List (Addr × Obj)} {σ : L2.St} {tg : Expr} {Q : VK} {pst : Addr → Result → Shared → Prop} {scope : Scope} {vs : List Nat} {s3 : Shared} {H3 : Hp} {ce : Env} {fp : List Addr} {it D : Addr} {tn : Nat → Heap → Prop} {J : It} {s4 : Shared} (_ : BlkAt X pins σ tg Q pst scope vs s3 H3 ce fp it D tn J s4)
    {σ' : L2.St} {H' : Hp} {s' : Shared} (I : Inv (X.blk s3 H3 scope ce fp) [] σ' H' s') (hn : ∀ b ∈ fp, H' b = Option.none) : ∀ b ∈ fp, FpOk (X.blk s3 H3 scope ce fp) [] H' b := fun b hb =>
  ⟨hn b hb, (I.ok.exf b hb).1, I.ok.exfs b hb, .inl hb, fun x c e => (I.ok.exf b hb).2 x c e, fun p hp => absurd (show p ∈ ([] : List (Addr × Obj)) ++ [] from hp) (by simp)⟩
/-- a set comprehension up to its block's first loop -/
theorem set_open (B : Bag κ) {pins : List (Addr × Obj)} {s : Shared} {σ : L2.St} {H : Hp} {Q : VK} {elt tg iter : Expr} {ifs : List Expr} {rest : List Comprehension} {scope : Scope} {own : List (PySem.Str × Nat)} {pos pos' : Pos} {wi : TI} {use : Option (Value → Sem Unit)} {Qf : Value → Shared → Prop} {M : It → Hp → Prop}
    (hN : X.N.Nodup) (I : Inv X pins σ H s) (hi : PI X tg iter wi) (ok : BlkOk X.N X.env.scope scope own) (hs : ∀ x, foldedSetIterable iter X.env x = pure x)
    (h : wi σ H M)
    (hRR : ∀ D C s' m H', Inv X pins σ H' s' → Q (.ref D) H' → s'.heap.Ns C m → FpOk X pins H' C → compPost (model X.prog X.w) X.A X.xe use Qf (.ref D) C (.ok .next) s')
    (walk : ∀ (s3 : Shared) (H2 : Hp) (C : Addr) (cl : List (PySem.Str × Addr)) (fp : List Addr) (it D : Addr) (tn : Nat → Heap → Prop) (J : It) (s4 : Shared), M J H2 → H2 D = none → BlkAt X pins σ tg Q (fun C => compPost (model X.prog X.w) X.A X.xe use Qf (.ref D) C) scope (own.map (·.2)) s3 (upd H2 D (B.bo X.w D (fun _ => false) 0)) (compEnvC scope cl C X.env) fp it D tn J s4 →
      codeAny (model X.prog X.w) X.A (.compLoop (.SetComp elt (⟨tg, iter, ifs, 0⟩ :: rest) scope pos) 0 (.ref it) (.ref D) (compEnvC scope cl C X.env)) (compPost (model X.prog X.w) X.A X.xe use Qf (.ref D) C) s4) :
    wpAny (model X.prog X.w) X.A (comprehension (.SetComp elt (⟨tg, iter, ifs, 0⟩ :: rest) scope pos) scope X.env pos' (newSet (.type "set")) false (eval iter X.env) use) Qf X.xe s := by
  have hfree : ∀ y ∈ scope.names, y.2 = .free → ∃ c, X.env.cells.lookup y.1 = some c := fun y hy e => (ok.free y hy e).elim (fun k => I.ok.has _ (.inl k)) fun k => I.ok.has _ (.inr k)
  refine wpAny_comprehension_free (use := use) rfl hs (closure_ok hfree) ok.kind (fun y hy e => by rw [ok.uniq y hy, e]) (thn (hi.run pins s σ H _ I h) fun xv s1 hx => thn hx fun itv s2 h2 => ?_)
  obtain ⟨it, fp, tn, J, H2, e, I2, T, st2, f2, q⟩ := h2
  subst e
  refine PpSet.newSet_ok (newEnv_comp ?_)
  have hDn : H2 s2.heap.objs.size = none := I2.hok.fresh (Nat.le_refl _)
  generalize hs3 : ({ s2 with heap := s2.heap.push (emptySetOf X.w) } : Shared) = s3
  have h3 : s3.heap = s2.heap.push (emptySetOf X.w) := by rw [← hs3]
  have I3 : Inv X pins σ (upd H2 s2.heap.objs.size (B.bo X.w s2.heap.objs.size (fun _ => false) 0)) s3 := by
    rw [← hs3]
    exact I2.laid (t' := s2.toks) (fun b o e => Heap.get?_push_of_some _ e) (Nat.le_refl _) (B.fresh _ _ _ _)
  generalize hD : s2.heap.objs.size = D at hDn I3
  have f3 : ∀ b ∈ fp, FpOk X pins (upd H2 D (B.bo X.w D (fun _ => false) 0)) b ∧ b < s3.heap.objs.size := fun b hb => by
    obtain ⟨o, e, _⟩ := T.obj _ _ st2 b hb
    have hlt := Heap.lt_size e
    refine ⟨⟨?_, (f2 b hb).2⟩, by rw [h3, Heap.size_push]; exact Nat.lt_succ_of_lt hlt⟩
    rw [upd_ne (by rw [← hD]; exact Nat.ne_of_lt hlt)]
    exact (f2 b hb).1
  have st3 : tn 0 s3.heap := T.keep _ _ _ st2 fun b _ o e => by rw [h3]; exact Heap.get?_push_of_some _ e
  have I4 := block_start I3 ok hN f3
  have st4 : tn 0 (pushCells (s3.heap.push { cls := .type "dict", data := .dict #[] }) scope.names) := T.keep _ _ _ st3 fun b _ o e => pushCells_keeps _ _ _ _ (Heap.get?_push_of_some _ e)
  have loop := walk s3 H2 s3.heap.objs.size (cellsFrom (s3.heap.objs.size + 1) scope.names (cloFrom X.env.cells scope.names [])) fp it D tn J { s3 with heap := pushCells (s3.heap.push { cls := .type "dict", data := .dict #[] }) scope.names } q hDn ⟨I4, T, st4, fun b hb => (f3 b hb).1.1, fun H5 s6 I6 qq => by
    have I7 : Inv X pins σ H5 s6 := I3.call' (ch := fp) I6.os I6.base I6.hok I6.bare fun b hb => let z := (f3 b hb).1.2; ⟨z.2.2.1, z.1, z.2.2.2.1, z.2.2.2.2⟩
    obtain ⟨m, hn, _⟩ := I6.loc
    exact hRR D s3.heap.objs.size s6 m H5 I7 qq hn (I3.fpOk (Nat.le_refl _) I6.free)⟩
  exact PpSet.codeAny_compStart_set loop (T.self X.A 0 _ _ _ st4 loop)
/-- the block's rules stand for any block -/
abbrev InBlk (X : Cx) (scope : Scope) (Pr : Cx → Prop) : Prop := ∀ (s : Shared) (H : Hp) (C : Addr) (cl : List (PySem.Str × Addr)) (fp : List Addr), Pr (X.blk s H scope (compEnvC scope cl C X.env) fp)
/-- what a turn's end leaves behind -/
theorem turn_end {pins : List (Addr × Obj)} {s0 : Shared} {H0 : Hp} {scope : Scope} {ce : Env} {fp fp1 : List Addr} {σa σb : L2.St} {tg : Expr} {it : Addr} {J : It} {tn : Nat → Heap → Prop} {i : Nat} {h7 : Heap} {s' : Shared} {H' : Hp} (T : Turn X.prog X.w X.K tg J fp1 it tn) (st7 : tn (i + 1) h7)
    (I' : Inv (X.blk s0 H0 scope ce fp) (pins ++ pinsAt fp1 h7) σb H' s') (hl : σa.length = σb.length) (hk : ∀ (j : Nat) v, σa[j]? = some (some v) → σb[j]? = some (some v)) :
    Inv (X.blk s0 H0 scope ce fp) pins σa H' s' ∧ tn (i + 1) s'.heap ∧ ∀ b ∈ fp1, H' b = none := by
  have pin' : ∀ b ∈ fp1, ∀ o, h7.get? b = some o → s'.heap.get? b = some o ∧ H' b = none := fun b hb o e =>
    let z := I'.pin (b, o) (List.mem_append_right _ (List.mem_append_right _ (mem_pinsAt hb e)))
    ⟨z.1, z.2.1⟩
  refine ⟨(I'.unpinned (pins := pins)).weak hl hk, T.keep _ _ _ st7 fun b hb o e => (pin' b hb o e).1, fun b hb => ?_⟩
  obtain ⟨o, e, _⟩ := T.obj _ _ st7 b hb
  exact (pin' b hb o e).2
theorem addOne_ok (B : Bag κ) {Y : Cx} {pins : List (Addr × Obj)} {s : Shared} {σ : L2.St} {H : Hp} {elt : Expr} {te : TE} {D : Addr} {Nx : Hp → Prop} {Q : Unit → Shared → Prop} {E : Value → Shared → Prop} (hY : Y.xe = fun _ _ => False) (he : PE Y elt te) (I : Inv Y pins σ H s) (q : te σ H (bagPut B Y.w D Nx))
    (k : ∀ s' H', Inv Y pins σ H' s' → Nx H' → Q () s') : wpAny (model Y.prog Y.w) Y.A (addOne elt (.ref D) Y.env) Q E s := by
  have r := he.run pins s σ H _ I q
  rw [hY] at r
  refine wpAny_bind (thnF r fun u s1 ⟨yv, H1, I1, r1, key, S0, n0, ey, hD1, hz1, nx⟩ => wpAny_bind (wpAny_standAt (wpAny_bind ?_)))
  subst ey
  exact B.add I1 hD1 hz1 r1 fun s2 I2 => wpAny_pure (k _ _ I2 nx)
/-- {elt for tg in iter if ..} -/
theorem pe_bag (B : Bag κ) {elt tg iter : Expr} {ifs : List Expr} {scope : Scope} {own : List (PySem.Str × Nat)} {pos : Pos} {wi : TI} {g : TG} {tt : TT} {te : TE} (hc : X.calm = true) (hN : X.N.Nodup) (hi : PI X tg iter wi) (ok : BlkOk X.N X.env.scope scope own)
    (hg : InBlk X scope fun Y => PG Y tg g) (ht : InBlk X scope fun Y => PTs Y ifs tt) (he : InBlk X scope fun Y => PE Y elt te) (hs : ∀ x, foldedSetIterable iter X.env x = pure x := by intro _; rfl) :
    PE X (.SetComp elt [⟨tg, iter, ifs, 0⟩] scope pos) (tBag B X.w wi g tt te (own.map (·.2))) := by
  refine ⟨fun pins s σ H Q I h => ?_⟩
  rw [PpSet.eval_SetComp]
  refine set_open B (Q := Q) hN I hi ok hs h (fun D C s' m H' I' q hn f => ⟨m, hn, fun h'' sb => ?_⟩) ?_
  · obtain ⟨f0, f1, f2, f3, f4, f5⟩ := f
    exact ⟨.ref D, H', I'.turned (t' := s'.toks) (fun b o hb e => (sb.2 b hb).trans e) f0 f1 f3 f4 f5, rfl, q⟩
  intro s3 H2 C cl fp it D tn J s4 q hDn bk
  obtain ⟨W, ⟨m0, w0⟩, turn⟩ := q D hDn
  have pg := hg s3 (upd H2 D (B.bo X.w D (fun _ => false) 0)) C cl fp
  have pt := ht s3 (upd H2 D (B.bo X.w D (fun _ => false) 0)) C cl fp
  have pe := he s3 (upd H2 D (B.bo X.w D (fun _ => false) 0)) C cl fp
  have cL : (compEnvC scope cl C X.env).locals = C := rfl
  generalize compEnvC scope cl C X.env = ce at *
  have st := fun {σ' H' s'} => bk.stat (σ' := σ') (H' := H') (s' := s')
  generalize upd H2 D (B.bo X.w D (fun _ => false) 0) = H3 at *
  refine PpSet.compLoopS_any (fun n s' => ∃ i H', Inv (X.blk s3 H3 scope ce fp) [] (wipe σ (own.map (·.2))) H' s' ∧ tn i s'.heap ∧ (∀ b ∈ fp, H' b = none) ∧ W i n H') ?_ m0 ⟨0, H3, bk.inv, bk.first, bk.none, w0⟩
  rintro n s5 ⟨i, H5, I5, st5, n5, w5⟩
  rcases turn i n H5 w5 with ⟨stop, qq⟩ | ⟨go, Nx, hNx, step⟩
  · refine thnF (bk.turn.done (X.blk s3 H3 scope ce fp) rfl rfl rfl hc i [] s5 _ H5 (fun _ _ => False) I5 (st I5 n5) st5 stop) fun r s6 ⟨hr, I6⟩ => ?_
    subst hr
    have := bk.back H5 s6 I6 qq
    rw [cL] at this
    exact this
  · refine thnF (bk.turn.item (X.blk s3 H3 scope ce fp) rfl rfl rfl hc i [] s5 _ H5 (fun _ _ => False) I5 (st I5 n5) st5 go) fun r s6 ⟨u, hr, h6⟩ => ?_
    subst hr
    refine thnF h6 fun _ s7 ⟨x, H7, I7, r7, y7, st7, n7⟩ => ?_
    have I7' := I7.pinned (st I7 n7) (bk.turn.obj _ _ st7)
    refine thnF (pg.run _ s7 _ H7 x u _ I7' r7 (step x H7 y7)) fun _ s8 ⟨σ8, H8, I8, hw8, q8⟩ => ?_
    refine thnF (pt.run _ s8 σ8 H8 _ I8 q8) fun b s9 ⟨H9, I9, q9⟩ => ?_
    have fin : ∀ {s' : Shared} {H' : Hp}, Inv (X.blk s3 H3 scope ce fp) ([] ++ pinsAt fp s7.heap) σ8 H' s' → Nx H' → ∃ m, m < n ∧ ∃ i H', Inv (X.blk s3 H3 scope ce fp) [] (wipe σ (own.map (·.2))) H' s' ∧ tn i s'.heap ∧ (∀ b ∈ fp, H' b = none) ∧ W i m H' := fun {s' H'} I' nx => by
      obtain ⟨m', hm, w'⟩ := hNx H' nx
      obtain ⟨z1, z2, z3⟩ := turn_end bk.turn st7 I' (σa := wipe σ (own.map (·.2))) (by rw [← hw8, wipe_length]) (fun j v e => by rw [← hw8] at e; exact (wipe_some e).1)
      exact ⟨m', hm, i + 1, H', z1, z2, z3, w'⟩
    cases b with
    | false =>
      simp only [Bool.false_eq_true, if_false] at q9 ⊢
      exact fin I9 q9
    | true =>
      simp only [if_true] at q9 ⊢
      refine thnF (pe.run _ s9 σ8 H9 _ I9 q9) fun z s10 ⟨yv, H10, I10, r10, key, S0, n0, ey, hD10, hz10, nx⟩ => ?_
      subst ey
      exact B.add (X := X.blk s3 H3 scope ce fp) I10 hD10 hz10 r10 fun s11 I11 => fin I11 nx
/-- {elt for tg in iter if .. for tg1 in iter1 if ..} -/
theorem pe_bag2 (B : Bag κ) {elt tg iter tg1 iter1 : Expr} {ifs ifs1 : List Expr} {scope : Scope} {own : List (PySem.Str × Nat)} {vs1 : List Nat} {pos : Pos} {wi wi1 : TI} {g g1 : TG} {tt tt1 : TT} {te : TE} (hc : X.calm = true) (hN : X.N.Nodup) (hi : PI X tg iter wi) (ok : BlkOk X.N X.env.scope scope own) (hv : ∀ i ∈ vs1, i ∈ own.map (·.2))
    (hg : InBlk X scope fun Y => PG Y tg g) (ht : InBlk X scope fun Y => PTs Y ifs tt) (hi1 : InBlk X scope fun Y => PI Y tg1 iter1 wi1) (hg1 : InBlk X scope fun Y => PG Y tg1 g1) (ht1 : InBlk X scope fun Y => PTs Y ifs1 tt1) (he : InBlk X scope fun Y => PE Y elt te)
    (hs : ∀ x, foldedSetIterable iter X.env x = pure x := by intro _; rfl) (hs1 : ∀ env x, foldedSetIterable iter1 env x = pure x := by intro _ _; rfl) :
    PE X (.SetComp elt [⟨tg, iter, ifs, 0⟩, ⟨tg1, iter1, ifs1, 0⟩] scope pos) (tBag2 B X.w wi g tt wi1 g1 tt1 te (own.map (·.2)) vs1) := by
  refine ⟨fun pins s σ H Q I h => ?_⟩
  rw [PpSet.eval_SetComp]
  refine set_open B (Q := Q) hN I hi ok hs h (fun D C s' m H' I' q hn f => ⟨m, hn, fun h'' sb => ?_⟩) ?_
  · obtain ⟨f0, f1, f2, f3, f4, f5⟩ := f
    exact ⟨.ref D, H', I'.turned (t' := s'.toks) (fun b o hb e => (sb.2 b hb).trans e) f0 f1 f3 f4 f5, rfl, q⟩
  intro s3 H2 C cl fp it D tn J s4 q hDn bk
  obtain ⟨W, ⟨m0, w0⟩, turn⟩ := q D hDn
  have pg := hg s3 (upd H2 D (B.bo X.w D (fun _ => false) 0)) C cl fp
  have pt := ht s3 (upd H2 D (B.bo X.w D (fun _ => false) 0)) C cl fp
  have pe := he s3 (upd H2 D (B.bo X.w D (fun _ => false) 0)) C cl fp
  have pi1 := hi1 s3 (upd H2 D (B.bo X.w D (fun _ => false) 0)) C cl fp
  have pg1 := hg1 s3 (upd H2 D (B.bo X.w D (fun _ => false) 0)) C cl fp
  have pt1 := ht1 s3 (upd H2 D (B.bo X.w D (fun _ => false) 0)) C cl fp
  have cL : (compEnvC scope cl C X.env).locals = C := rfl
  generalize compEnvC scope cl C X.env = ce at *
  have st := fun {σ' H' s'} => bk.stat (σ' := σ') (H' := H') (s' := s')
  generalize upd H2 D (B.bo X.w D (fun _ => false) 0) = H3 at *
  refine loopSet_out (fun n s' => ∃ i H', Inv (X.blk s3 H3 scope ce fp) [] (wipe σ (own.map (·.2))) H' s' ∧ tn i s'.heap ∧ (∀ b ∈ fp, H' b = none) ∧ W i n H') ?_ m0 ⟨0, H3, bk.inv, bk.first, bk.none, w0⟩
  rintro n s5 ⟨i, H5, I5, st5, n5, w5⟩
  rcases turn i n H5 w5 with ⟨stop, qq⟩ | ⟨go, Nx, hNx, step⟩
  · refine thnF (bk.turn.done (X.blk s3 H3 scope ce fp) rfl rfl rfl hc i [] s5 _ H5 (fun _ _ => False) I5 (st I5 n5) st5 stop) fun r s6 ⟨hr, I6⟩ => ?_
    subst hr
    have := bk.back H5 s6 I6 qq
    rw [cL] at this
    exact this
  · refine thnF (bk.turn.item (X.blk s3 H3 scope ce fp) rfl rfl rfl hc i [] s5 _ H5 (fun _ _ => False) I5 (st I5 n5) st5 go) fun r s6 ⟨u, hr, h6⟩ => ?_
    subst hr
    refine thnF h6 fun _ s7 ⟨x, H7, I7, r7, y7, st7, n7⟩ => ?_
    have I7' := I7.pinned (st I7 n7) (bk.turn.obj _ _ st7)
    refine thnF (pg.run _ s7 _ H7 x u _ I7' r7 (step x H7 y7)) fun _ s8 ⟨σ8, H8, I8, hw8, q8⟩ => ?_
    refine thnF (pt.run _ s8 σ8 H8 _ I8 q8) fun b s9 ⟨H9, I9, q9⟩ => ?_
    have fin : ∀ {σ9 : L2.St} {s' : Shared} {H' : Hp}, Inv (X.blk s3 H3 scope ce fp) ([] ++ pinsAt fp s7.heap) σ9 H' s' → (wipe σ (own.map (·.2))).length = σ9.length → (∀ (j : Nat) v, (wipe σ (own.map (·.2)))[j]? = some (some v) → σ9[j]? = some (some v)) → Nx H' → ∃ m, m < n ∧ ∃ i H', Inv (X.blk s3 H3 scope ce fp) [] (wipe σ (own.map (·.2))) H' s' ∧ tn i s'.heap ∧ (∀ b ∈ fp, H' b = none) ∧ W i m H' := fun {σ9 s' H'} I' hl hk nx => by
      obtain ⟨m', hm, w'⟩ := hNx H' nx
      obtain ⟨z1, z2, z3⟩ := turn_end bk.turn st7 I' hl hk
      exact ⟨m', hm, i + 1, H', z1, z2, z3, w'⟩
    have hl8 : (wipe σ (own.map (·.2))).length = σ8.length := by rw [← hw8, wipe_length]
    have hk9 : ∀ (j : Nat) v, (wipe σ (own.map (·.2)))[j]? = some (some v) → (wipe σ8 vs1)[j]? = some (some v) := fun j v e => by
      rw [← hw8] at e
      obtain ⟨e1, e2⟩ := wipe_some e
      rw [wipe_out fun z => e2 (hv j z)]
      exact e1
    cases b with
    | false =>
      simp only [Bool.false_eq_true, if_false] at q9 ⊢
      exact fin I9 hl8 (fun j v e => by rw [← hw8] at e; exact (wipe_some e).1) q9
    | true =>
      simp only [if_true] at q9 ⊢
      refine goIn_ok (N := fun s' => ∃ m, m < n ∧ ∃ i H', Inv (X.blk s3 H3 scope ce fp) [] (wipe σ (own.map (·.2))) H' s' ∧ tn i s'.heap ∧ (∀ b ∈ fp, H' b = none) ∧ W i m H') (hs1 ce) (fun _ z => z) ?_
      refine thnF (pi1.run _ s9 σ8 H9 _ I9 q9) fun xv s10 hx => thnF hx fun itv s11 h11 => ?_
      obtain ⟨it1, fp1, tn1, J1, H11, e1, I11, T1, st11, f11, W1, ⟨m1, w1⟩, turn1⟩ := h11
      subst e1
      have stat1 : ∀ {H' : Hp}, (∀ b ∈ fp1, H' b = none) → ∀ b ∈ fp1, FpOk (X.blk s3 H3 scope ce fp) ([] ++ pinsAt fp s7.heap) H' b := fun hn b hb => ⟨hn b hb, (f11 b hb).2⟩
      have loop1 : codeAny (model X.prog X.w) X.A (.compLoop (setTwo elt tg iter tg1 iter1 ifs ifs1 scope pos) 1 (.ref it1) (.ref D) ce)
          (fun r s' => match r with
            | .ok _ => ∃ m, m < n ∧ ∃ i H', Inv (X.blk s3 H3 scope ce fp) [] (wipe σ (own.map (·.2))) H' s' ∧ tn i s'.heap ∧ (∀ b ∈ fp, H' b = none) ∧ W i m H'
            | .error _ => False) s11 := by
        refine loopSet_in (fun k s' => ∃ j H', Inv (X.blk s3 H3 scope ce fp) ([] ++ pinsAt fp s7.heap) (wipe σ8 vs1) H' s' ∧ tn1 j s'.heap ∧ (∀ b ∈ fp1, H' b = none) ∧ W1 j k H') ?_ m1 ⟨0, H11, I11.weak (wipe_length _ _) (fun j v e => (wipe_some e).1), st11, fun b hb => (f11 b hb).1, w1⟩
        rintro k s12 ⟨j, H12, I12, st12, n12, w12⟩
        rcases turn1 j k H12 w12 with ⟨stop1, nx1⟩ | ⟨go1, Nx1, hNx1, step1⟩
        · refine thnF (T1.done (X.blk s3 H3 scope ce fp) rfl rfl rfl hc j _ s12 (wipe σ8 vs1) H12 (fun _ _ => False) I12 (stat1 n12) st12 stop1) fun r s13 ⟨hr, I13⟩ => ?_
          subst hr
          exact fin I13 (hl8.trans (wipe_length σ8 vs1).symm) hk9 nx1
        · refine thnF (T1.item (X.blk s3 H3 scope ce fp) rfl rfl rfl hc j _ s12 (wipe σ8 vs1) H12 (fun _ _ => False) I12 (stat1 n12) st12 go1) fun r s13 ⟨u1, hr, h13⟩ => ?_
          subst hr
          refine thnF h13 fun _ s14 ⟨x1, H14, I14, r14, y14, st14, n14⟩ => ?_
          have I14' := I14.pinned (stat1 n14) (T1.obj _ _ st14)
          refine thnF (pg1.run _ s14 (wipe σ8 vs1) H14 x1 u1 _ I14' r14 (step1 x1 H14 y14)) fun _ s15 ⟨σ15, H15, I15, hw15, q15⟩ => ?_
          refine thnF (pt1.run _ s15 σ15 H15 _ I15 q15) fun b1 s16 ⟨H16, I16, q16⟩ => ?_
          have fin1 : ∀ {s' : Shared} {H' : Hp}, Inv (X.blk s3 H3 scope ce fp) (([] ++ pinsAt fp s7.heap) ++ pinsAt fp1 s14.heap) σ15 H' s' → Nx1 H' → ∃ m, m < k ∧ ∃ j H', Inv (X.blk s3 H3 scope ce fp) ([] ++ pinsAt fp s7.heap) (wipe σ8 vs1) H' s' ∧ tn1 j s'.heap ∧ (∀ b ∈ fp1, H' b = none) ∧ W1 j m H' := fun {s' H'} I' nx => by
            obtain ⟨m', hm, w'⟩ := hNx1 H' nx
            obtain ⟨z1, z2, z3⟩ := turn_end T1 st14 I' (σa := wipe σ8 vs1) (by rw [← hw15, wipe_length]) (fun j v e => by rw [← hw15] at e; exact (wipe_some e).1)
            exact ⟨m', hm, j + 1, H', z1, z2, z3, w'⟩
          cases b1 with
          | false =>
            simp only [Bool.false_eq_true, if_false] at q16 ⊢
            exact fin1 I16 q16
          | true =>
            simp only [if_true] at q16 ⊢
            refine addOne_ok B (Y := X.blk s3 H3 scope ce fp) (Nx := Nx1) rfl pe I16 q16 fun s' H' I' nx => ?_
            exact fin1 I' nx
      exact startIn rfl loop1 (T1.self X.A 0 _ _ _ st11 loop1)
end
end Bw

/-! set comprehensions: readings; sorted of such a set; lists held against the empty one -/
namespace Bw
open PySem PySem.Spec PyProof.Rows L2
section
variable {κ : Type} [DecidableEq κ] {B : Bag κ} {w : World}
/-- one more member, once -/
def addU (us : List κ) (k : κ) : List κ := if k ∈ us then us else us ++ [k]
theorem mem_addU {us : List κ} {k j : κ} : j ∈ addU us k ↔ j ∈ us ∨ j = k := by
  unfold addU
  split
  · rename_i h
    exact ⟨.inl, fun z => z.elim id fun e => e ▸ h⟩
  · simp
theorem addU_nodup {us : List κ} {k : κ} (h : us.Nodup) : (addU us k).Nodup := by
  unfold addU
  split
  · exact h
  · rename_i hk
    refine List.nodup_append.mpr ⟨h, by simp, fun x hx y hy z => hk ?_⟩
    rw [List.mem_singleton.mp hy] at z
    exact z ▸ hx
/-- the set at D has just these members -/
def BagU (B : Bag κ) (w : World) (H : Hp) (D : Addr) (us : List κ) : Prop := us.Nodup ∧ ∃ S, H D = some (B.bo w D S us.length) ∧ ∀ k, S k = decide (k ∈ us)
theorem bagU_nil {H : Hp} {D : Addr} (h : H D = some (B.bo w D (fun _ => false) 0)) : BagU B w H D [] := ⟨.nil, _, h, fun k => by simp⟩
theorem BagU.same {H H' : Hp} {D : Addr} {us : List κ} (h : BagU B w H D us) (s : Same H H') : BagU B w H' D us := ⟨h.1, h.2.imp fun S z => ⟨s _ _ z.1, z.2⟩⟩
theorem w_bagPut {D : Addr} {Nx : Hp → Prop} {us : List κ} {k : κ} {H : Hp} (hD : BagU B w H D us) (hm : us.length ≤ 1000) (q : ∀ H', KB D H H' → BagU B w H' D (addU us k) → Nx H') : bagPut B w D Nx (B.kv k) H := by
  obtain ⟨nd, S, h1, h2⟩ := hD
  refine ⟨k, S, us.length, rfl, h1, Nat.lt_of_le_of_lt (Nat.succ_le_succ hm) (by decide), q _ kb_upd ⟨addU_nodup nd, fun j => S j || decide (j = k), ?_, fun j => ?_⟩⟩
  · rw [upd_same]
    have e : (if S k = true then us.length else us.length + 1) = (addU us k).length := by
      rw [h2]
      unfold addU
      by_cases h : k ∈ us
      · rw [if_pos (decide_eq_true h), if_pos h]
      · rw [if_neg (fun z => h (of_decide_eq_true z)), if_neg h]
        simp
    rw [e]
  · show (S j || decide (j = k)) = _
    rw [h2]
    by_cases h : j ∈ us
    · rw [decide_eq_true h, decide_eq_true (mem_addU.mpr (.inl h))]
      rfl
    · rw [decide_eq_false h, Bool.false_or]
      exact decide_eq_decide.mpr ⟨fun z => mem_addU.mpr (.inr z), fun z => (mem_addU.mp z).resolve_left h⟩
def NxU (B : Bag κ) (w : World) (D : Addr) (i : Nat) (Iv : Nat → List κ → Hp → Prop) : Hp → Prop := fun H' => ∃ us, BagU B w H' D us ∧ Iv (i + 1) us H'
/-- {elt for tg in iter if ..} -/
theorem bag_fin {J : It} {n : Nat} {ok : Hp → Prop} {it : Nat → V → Hp → Hp → Prop} {g : TG} {tt : TT} {te : TE} {vs : List Nat} {σ : L2.St} {H1 : Hp} {Qd : Addr → Hp → Prop} (F : Fini J n ok it) (Iv : Nat → List κ → Hp → Prop)
    (h0 : ∀ D H2, H1 D = none → Same H1 H2 → Iv 0 [] H2) (hl : ∀ i us H, i ≤ n → Iv i us H → ok H)
    (hs : ∀ D i x us H H', H1 D = none → i < n → Iv i us H → BagU B w H D us → it i x H H' → g x (wipe σ vs) H' fun σ2 H2 => wipe σ2 vs = wipe σ vs ∧ tt σ2 H2 fun b H3 => if b = true then te σ2 H3 (bagPut B w D (NxU B w D i Iv)) else NxU B w D i Iv H3)
    (hd : ∀ D us H, H1 D = none → Iv n us H → BagU B w H D us → Qd D H) :
    ∀ D, H1 D = none → ∃ W : Nat → Nat → Hp → Prop, (∃ m, W 0 m (upd H1 D (B.bo w D (fun _ => false) 0))) ∧ ∀ i m H, W i m H →
      (J.stop i H ∧ Qd D H) ∨ (J.go i H ∧ ∃ Nx : Hp → Prop, (∀ H', Nx H' → ∃ m', m' < m ∧ W (i + 1) m' H') ∧ ∀ x H', J.yld i H x H' → g x (wipe σ vs) H' fun σ2 H2 => wipe σ2 vs = wipe σ vs ∧ tt σ2 H2 fun b H3 => if b = true then te σ2 H3 (bagPut B w D Nx) else Nx H3) := by
  intro D nD
  refine ⟨fun i m H => m = n - i ∧ i ≤ n ∧ ∃ us, BagU B w H D us ∧ Iv i us H, ⟨n, by simp, Nat.zero_le _, [], bagU_nil upd_same, h0 D _ nD (same_new nD)⟩, ?_⟩
  rintro i m H ⟨rfl, hi, us, hD, p⟩
  have o := hl i us H hi p
  rcases Nat.lt_or_ge i n with hlt | hge
  · exact .inr ⟨F.go i H hlt o, NxU B w D i Iv, fun H' p' => ⟨n - (i + 1), by omega, rfl, hlt, p'⟩, fun x H' y => hs D i x us H H' nD hlt p hD (F.yl i H x H' hlt o y)⟩
  · obtain rfl : i = n := Nat.le_antisymm hi hge
    exact .inl ⟨F.st H o, hd D us H nD p hD⟩
/-- the inner for of two -/
theorem bag_in {J : It} {n : Nat} {ok : Hp → Prop} {it : Nat → V → Hp → Hp → Prop} {g : TG} {tt : TT} {te : TE} {vs : List Nat} {σ : L2.St} {H1 : Hp} {D : Addr} {Nx : Hp → Prop} (F : Fini J n ok it) (Jv : Nat → List κ → Hp → Prop)
    (h0 : ∃ us, BagU B w H1 D us ∧ Jv 0 us H1) (hl : ∀ i us H, i ≤ n → Jv i us H → ok H)
    (hs : ∀ i x us H H', i < n → Jv i us H → BagU B w H D us → it i x H H' → g x (wipe σ vs) H' fun σ2 H2 => wipe σ2 vs = wipe σ vs ∧ tt σ2 H2 fun b H3 => if b = true then te σ2 H3 (bagPut B w D (NxU B w D i Jv)) else NxU B w D i Jv H3)
    (hd : ∀ us H, Jv n us H → BagU B w H D us → Nx H) :
    ∃ W1 : Nat → Nat → Hp → Prop, (∃ m, W1 0 m H1) ∧ ∀ j k H, W1 j k H →
      (J.stop j H ∧ Nx H) ∨ (J.go j H ∧ ∃ Nx1 : Hp → Prop, (∀ H', Nx1 H' → ∃ k', k' < k ∧ W1 (j + 1) k' H') ∧ ∀ x H', J.yld j H x H' → g x (wipe σ vs) H' fun σ3 H5 => wipe σ3 vs = wipe σ vs ∧ tt σ3 H5 fun b H6 => if b = true then te σ3 H6 (bagPut B w D Nx1) else Nx1 H6) := by
  obtain ⟨us0, e0, i0⟩ := h0
  refine ⟨fun i m H => m = n - i ∧ i ≤ n ∧ ∃ us, BagU B w H D us ∧ Jv i us H, ⟨n, by simp, Nat.zero_le _, us0, e0, i0⟩, ?_⟩
  rintro i m H ⟨rfl, hi, us, hD, p⟩
  have o := hl i us H hi p
  rcases Nat.lt_or_ge i n with hlt | hge
  · exact .inr ⟨F.go i H hlt o, NxU B w D i Jv, fun H' p' => ⟨n - (i + 1), by omega, rfl, hlt, p'⟩, fun x H' y => hs i x us H H' hlt p hD (F.yl i H x H' hlt o y)⟩
  · obtain rfl : i = n := Nat.le_antisymm hi hge
    exact .inl ⟨F.st H o, hd us H p hD⟩
/-- {elt for tg in iter for tg1 in iter1}: the outer for -/
theorem bag2_fin {J : It} {n : Nat} {ok : Hp → Prop} {it : Nat → V → Hp → Hp → Prop} {wi1 : TI} {g g1 : TG} {tt tt1 : TT} {te : TE} {vs vs1 : List Nat} {σ : L2.St} {H1 : Hp} {Qd : Addr → Hp → Prop} (F : Fini J n ok it) (Iv : Nat → List κ → Hp → Prop)
    (h0 : ∀ D H2, H1 D = none → Same H1 H2 → Iv 0 [] H2) (hl : ∀ i us H, i ≤ n → Iv i us H → ok H)
    (hs : ∀ D i x us H H', H1 D = none → i < n → Iv i us H → BagU B w H D us → it i x H H' → g x (wipe σ vs) H' fun σ2 H2 => wipe σ2 vs = wipe σ vs ∧ tt σ2 H2 fun b H3 =>
      if b = true then wi1 σ2 H3 fun J1 H4 => ∃ W1 : Nat → Nat → Hp → Prop, (∃ m, W1 0 m H4) ∧ ∀ j k H, W1 j k H →
        (J1.stop j H ∧ NxU B w D i Iv H) ∨ (J1.go j H ∧ ∃ Nx1 : Hp → Prop, (∀ H', Nx1 H' → ∃ k', k' < k ∧ W1 (j + 1) k' H') ∧ ∀ x H', J1.yld j H x H' → g1 x (wipe σ2 vs1) H' fun σ3 H5 => wipe σ3 vs1 = wipe σ2 vs1 ∧ tt1 σ3 H5 fun b H6 => if b = true then te σ3 H6 (bagPut B w D Nx1) else Nx1 H6)
      else NxU B w D i Iv H3)
    (hd : ∀ D us H, H1 D = none → Iv n us H → BagU B w H D us → Qd D H) :
    ∀ D, H1 D = none → ∃ W : Nat → Nat → Hp → Prop, (∃ m, W 0 m (upd H1 D (B.bo w D (fun _ => false) 0))) ∧ ∀ i m H, W i m H →
      (J.stop i H ∧ Qd D H) ∨ (J.go i H ∧ ∃ Nx : Hp → Prop, (∀ H', Nx H' → ∃ m', m' < m ∧ W (i + 1) m' H') ∧ ∀ x H', J.yld i H x H' → g x (wipe σ vs) H' fun σ2 H2 => wipe σ2 vs = wipe σ vs ∧ tt σ2 H2 fun b H3 =>
        if b = true then wi1 σ2 H3 fun J1 H4 => ∃ W1 : Nat → Nat → Hp → Prop, (∃ m, W1 0 m H4) ∧ ∀ j k H, W1 j k H →
          (J1.stop j H ∧ Nx H) ∨ (J1.go j H ∧ ∃ Nx1 : Hp → Prop, (∀ H', Nx1 H' → ∃ k', k' < k ∧ W1 (j + 1) k' H') ∧ ∀ x H', J1.yld j H x H' → g1 x (wipe σ2 vs1) H' fun σ3 H5 => wipe σ3 vs1 = wipe σ2 vs1 ∧ tt1 σ3 H5 fun b H6 => if b = true then te σ3 H6 (bagPut B w D Nx1) else Nx1 H6)
        else Nx H3) := by
  intro D nD
  refine ⟨fun i m H => m = n - i ∧ i ≤ n ∧ ∃ us, BagU B w H D us ∧ Iv i us H, ⟨n, by simp, Nat.zero_le _, [], bagU_nil upd_same, h0 D _ nD (same_new nD)⟩, ?_⟩
  rintro i m H ⟨rfl, hi, us, hD, p⟩
  have o := hl i us H hi p
  rcases Nat.lt_or_ge i n with hlt | hge
  · exact .inr ⟨F.go i H hlt o, NxU B w D i Iv, fun H' p' => ⟨n - (i + 1), by omega, rfl, hlt, p'⟩, fun x H' y => hs D i x us H H' nD hlt p hD (F.yl i H x H' hlt o y)⟩
  · obtain rfl : i = n := Nat.le_antisymm hi hge
    exact .inl ⟨F.st H o, hd D us H nD p hD⟩
theorem w_bagE {wi : TI} {g : TG} {tt : TT} {te : TE} {vs : List Nat} {σ : L2.St} {H : Hp} {Q : VK} (h : wi σ H fun J H1 => ∀ D, H1 D = none → ∃ W : Nat → Nat → Hp → Prop, (∃ m, W 0 m (upd H1 D (B.bo w D (fun _ => false) 0))) ∧ ∀ i m H, W i m H →
  (J.stop i H ∧ Q (.ref D) H) ∨ (J.go i H ∧ ∃ Nx : Hp → Prop, (∀ H', Nx H' → ∃ m', m' < m ∧ W (i + 1) m' H') ∧ ∀ x H', J.yld i H x H' → g x (wipe σ vs) H' fun σ2 H2 => wipe σ2 vs = wipe σ vs ∧ tt σ2 H2 fun b H3 => if b = true then te σ2 H3 (bagPut B w D Nx) else Nx H3)) : tBag B w wi g tt te vs σ H Q := h
theorem w_bag2E {wi wi1 : TI} {g g1 : TG} {tt tt1 : TT} {te : TE} {vs vs1 : List Nat} {σ : L2.St} {H : Hp} {Q : VK} (h : wi σ H fun J H1 => ∀ D, H1 D = none → ∃ W : Nat → Nat → Hp → Prop, (∃ m, W 0 m (upd H1 D (B.bo w D (fun _ => false) 0))) ∧ ∀ i m H, W i m H →
  (J.stop i H ∧ Q (.ref D) H) ∨ (J.go i H ∧ ∃ Nx : Hp → Prop, (∀ H', Nx H' → ∃ m', m' < m ∧ W (i + 1) m' H') ∧ ∀ x H', J.yld i H x H' → g x (wipe σ vs) H' fun σ2 H2 => wipe σ2 vs = wipe σ vs ∧ tt σ2 H2 fun b H3 =>
    if b = true then wi1 σ2 H3 fun J1 H4 => ∃ W1 : Nat → Nat → Hp → Prop, (∃ m, W1 0 m H4) ∧ ∀ j k H, W1 j k H →
      (J1.stop j H ∧ Nx H) ∨ (J1.go j H ∧ ∃ Nx1 : Hp → Prop, (∀ H', Nx1 H' → ∃ k', k' < k ∧ W1 (j + 1) k' H') ∧ ∀ x H', J1.yld j H x H' → g1 x (wipe σ2 vs1) H' fun σ3 H5 => wipe σ3 vs1 = wipe σ2 vs1 ∧ tt1 σ3 H5 fun b H6 => if b = true then te σ3 H6 (bagPut B w D Nx1) else Nx1 H6)
    else Nx H3)) : tBag2 B w wi g tt wi1 g1 tt1 te vs vs1 σ H Q := h
end
/-- sorted(a set of whole numbers) -/
theorem cl_sortedSet {X : Cx} (hc : X.calm = true) : CallR X (.builtin "sorted") (rSortedSet X.w) := cr_sortedSet hc
theorem w_sortedI {w : World} {H : Hp} {Q : VK} {D : Addr} {us : List Int} (h : BagU bagI w H D us) (hl : us.length < 64) (k : ∀ (ns : List Int) p H', ns.Pairwise (· < ·) → (∀ j, j ∈ ns ↔ j ∈ us) → ns.length = us.length → H p = none → Same H H' → H' p = some (.lst (ns.map V.int)) → Q (.ref p) H') : rSortedSet w [.ref D] H Q := by
  obtain ⟨nd, S, h1, h2⟩ := h
  refine ⟨D, S, us.length, rfl, h1, hl, fun ns p s m l n => k ns p _ s (fun j => ?_) l n (same_new n) upd_same⟩
  rw [m, h2, decide_eq_true_eq]
/-! ### xs != [], xs == [] of any list -/
def rNeNil : R2 := fun x y H Q => ∃ a c xs, x = .ref a ∧ y = .ref c ∧ H a = some (.lst xs) ∧ H c = some (.lst []) ∧ Q (.bl (!xs.isEmpty)) H
def rEqNil : R2 := fun x y H Q => ∃ a c xs, x = .ref a ∧ y = .ref c ∧ H a = some (.lst xs) ∧ H c = some (.lst []) ∧ Q (.bl xs.isEmpty) H
section
variable {X : Cx}
theorem isList_of {pins : List (Addr × Obj)} {σ : L2.St} {H : Hp} {s : Shared} {a : Addr} {xs : List V} (I : Inv X pins σ H s) (h : H a = some (.lst xs)) : ∃ its : List Value, s.heap.IsList a its.toArray ∧ its.length = xs.length := by
  obtain ⟨_, its, n, r, e⟩ := (show ObjOk X.prog X.w H s.heap a (.lst xs) from I.hok a _ h)
  exact ⟨its, ⟨_, e, rfl, n, rfl⟩, r.length.symm⟩
theorem op_neNil (hu : X.A.units < cLine) : OpR X (compareOp .NotEq) rNeNil := by
  intro pins s σ H x y v u Q I rx ry h
  obtain ⟨a, c, xs, rfl, rfl, ha, hc, q⟩ := h
  cases rx
  cases ry
  obtain ⟨i1, l1, e1⟩ := isList_of I ha
  obtain ⟨i2, l2, e2⟩ := isList_of I hc
  show wpAny (model X.prog X.w) X.A (richCompare .NotEq (.ref a) (.ref c)) (EP X pins σ Q) X.xe s
  cases xs with
  | nil =>
    refine SeqAt.RcNeAt.lists (e := fun _ => true) l1 l2 (by simp [e1, e2]) hu (fun j h1 _ => ?_) X.prog X.w X.xe _ ?_
    · simp [e1] at h1
    · refine ⟨.bl false, H, I, ?_, q⟩
      rw [List.size_toArray, e1]
      rfl
  | cons z r => exact SeqAt.RcNeAt.lists_lengths l1 l2 (by simp [e1, e2]) hu X.prog X.w X.xe _ ⟨.bl true, H, I, rfl, q⟩
theorem op_eqNil (hu : X.A.units < cLine) : OpR X (compareOp .Eq) rEqNil := by
  intro pins s σ H x y v u Q I rx ry h
  obtain ⟨a, c, xs, rfl, rfl, ha, hc, q⟩ := h
  cases rx
  cases ry
  obtain ⟨i1, l1, e1⟩ := isList_of I ha
  obtain ⟨i2, l2, e2⟩ := isList_of I hc
  show wpAny (model X.prog X.w) X.A (richCompare .Eq (.ref a) (.ref c)) (EP X pins σ Q) X.xe s
  cases xs with
  | nil =>
    refine SeqAt.RcAt.lists (e := fun _ => true) l1 l2 (by simp [e1, e2]) hu (fun j h1 _ => ?_) X.prog X.w X.xe _ ?_
    · simp [e1] at h1
    · refine ⟨.bl true, H, I, ?_, q⟩
      rw [List.size_toArray, e1]
      rfl
  | cons z r => exact SeqAt.RcAt.lists_lengths l1 l2 (by simp [e1, e2]) hu X.prog X.w X.xe _ ⟨.bl false, H, I, rfl, q⟩
end
theorem w_neNilL {a c : Addr} {xs : List V} {H : Hp} {Q : VK} (ha : H a = some (.lst xs)) (hc : H c = some (.lst [])) (q : Q (.bl (!xs.isEmpty)) H) : rNeNil (.ref a) (.ref c) H Q := ⟨a, c, xs, rfl, rfl, ha, hc, q⟩
theorem w_eqNilL {a c : Addr} {xs : List V} {H : Hp} {Q : VK} (ha : H a = some (.lst xs)) (hc : H c = some (.lst [])) (q : Q (.bl xs.isEmpty) H) : rEqNil (.ref a) (.ref c) H Q := ⟨a, c, xs, rfl, rfl, ha, hc, q⟩
end Bw
namespace Bw
open PySem PySem.Spec PyProof.Rows L2
theorem w_allI {K : PySem.W.Frag} {bs : List Bool} {a : Addr} {xs : List V} {H : Hp} {Q : VK} (e : xs = bs.map V.bl) (h : H a = some (.lst xs)) (q : Q (.bl (bs.all id)) H) : rAll K [.ref a] H Q := ⟨a, bs, rfl, .of (e ▸ h), q⟩
theorem w_anyI {K : PySem.W.Frag} {bs : List Bool} {a : Addr} {xs : List V} {H : Hp} {Q : VK} (e : xs = bs.map V.bl) (h : H a = some (.lst xs)) (q : Q (.bl (bs.any id)) H) : rAny K [.ref a] H Q := ⟨a, bs, rfl, .of (e ▸ h), q⟩
/-- a number among numbers -/
theorem inV_ints {n : Int} {ms : List Int} : inV (.int n) (ms.map V.int) = decide (n ∈ ms) := by
  induction ms with
  | nil => rfl
  | cons m r ih =>
    have e : inV (.int n) (V.int m :: r.map V.int) = (eqV (.int m) (.int n) || inV (.int n) (r.map V.int)) := by simp [inV]
    rw [List.map_cons, e, ih]
    by_cases h : m = n
    · subst h
      simp [eqV]
    · have h' : ¬ n = m := fun z => h z.symm
      simp [eqV, h, h']
theorem flat_ints (ms : List Int) : (ms.map V.int).all flatV = true := by
  rw [List.all_eq_true]
  intro v hv
  obtain ⟨m, _, rfl⟩ := List.mem_map.mp hv
  rfl
/-- two rising lists of the same numbers are one -/
theorem rising_ext {ns ms : List Int} (h1 : ns.Pairwise (· < ·)) (h2 : ms.Pairwise (· < ·)) (h : ∀ k, k ∈ ns ↔ k ∈ ms) : ns = ms := by
  have nd : ∀ {l : List Int}, l.Pairwise (· < ·) → l.Nodup := fun h => h.imp fun {a b} z e => by omega
  have p : ns.Perm ms := (List.perm_ext_iff_of_nodup (nd h1) (nd h2)).mpr h
  exact List.Perm.eq_of_pairwise (le := fun a b => a < b) (fun a b _ _ x y => by omega) h1 h2 p
/-- lists of the very same things -/
def DIdent : Eqb := fun x y _ b => ∃ a, x = .ref a ∧ y = .ref a ∧ b = true
theorem eqb_ident {X : Cx} : EqbX X 0 DIdent := fun A pins s σ H x y u v b sb I rx ry d => by
  obtain ⟨a, rfl, rfl, rfl⟩ := d
  cases rx
  cases ry
  exact SeqAt.EqAt.same (A := A) (s := s) (.ref a) X.prog X.w X.xe _ ⟨rfl, H, I, fun _ _ h => h⟩
theorem rcb_ident {X : Cx} : RcbX X 1 (BList DIdent) := rcb_list (fun _ _ _ _ _ _ d => d) eqb_ident
theorem w_ident {a c : Addr} {rs : List Addr} {H : Hp} {Q : VK} (ha : H a = some (.lst (rs.map V.ref))) (hc : H c = some (.lst (rs.map V.ref))) (k : ∀ H', Same H H' → Q (.bl true) H') : rEqb (BList DIdent) (.ref a) (.ref c) H Q := by
  refine ⟨true, ⟨a, c, _, _, rfl, rfl, ha, hc, .inr ⟨rfl, fun _ => true, fun i x y h1 h2 => ?_, by simp⟩⟩, k⟩
  rw [h1] at h2
  cases h2
  obtain ⟨r, _, rfl⟩ := List.mem_map.mp (List.mem_of_getElem? h1)
  exact ⟨r, rfl, rfl, rfl⟩
end Bw
namespace Bw
open PySem PySem.Spec PyProof.Rows L2
theorem w_zipL {K : PySem.W.Frag} {ta : TA} {σ : L2.St} {H : Hp} {R : It → Hp → Prop} (h : ta σ H fun vs H1 => ∃ a b xs ys, vs = [.ref a, .ref b] ∧ SqL K H1 a xs ∧ SqL K H1 b ys ∧ R (Itz K a b) H1) : iZip K ta σ H R := h
theorem fin_zipL {K : PySem.W.Frag} {a b : Addr} {xs ys : List V} (hl : xs.length = ys.length) : Fini (Itz K a b) xs.length (fun H => SqL K H a xs ∧ SqL K H b ys) (fun i v H H' => ∃ T x y, v = .ref T ∧ H T = none ∧ Same H H' ∧ H' T = some (.tup [x, y]) ∧ xs[i]? = some x ∧ ys[i]? = some y) :=
  ⟨fun i H h o => ⟨xs, ys, xs[i], ys[i], o.1, o.2, by simp [h], by simp [hl ▸ h]⟩, fun i H v H' h o y => by
    obtain ⟨T, x, z, e, n, e', q, r⟩ := y
    subst e'
    exact ⟨T, x, z, e, n, same_new n, upd_same, q xs o.1, r ys o.2⟩, fun H o => ⟨xs, ys, o.1, o.2, .inl (Nat.le_refl _)⟩⟩
theorem w_notInV {K : PySem.W.Frag} {p : Addr} {xs : List V} {x : V} {H : Hp} {Q : VK} (hs : SqL K H p xs ∨ SqT K H p xs) (fx : flatV x = true) (fs : xs.all flatV = true) (q : Q (.bl (!inV x xs)) H) : rIn K true x (.ref p) H Q := ⟨p, xs, rfl, hs, fx, fs, q⟩
theorem dp_ints {K : PySem.W.Frag} {H : Hp} {c : Addr} {ms : List Int} (h : H c = some (.lst (ms.map V.int))) : Dp K H (.ref c) (.list (ms.map PyData.int)) := .lst (.of h) (by
  clear h
  induction ms with
  | nil => exact .nil
  | cons m r ih => exact .cons (.int m) ih)
theorem good_intl (ms : List Int) : GoodD (.list (ms.map PyData.int)) 1 := good_list fun d hd => by
  obtain ⟨m, _, rfl⟩ := List.mem_map.mp hd
  exact good_int
theorem w_neInts {K : PySem.W.Frag} {H : Hp} {c d : Addr} {ms ns : List Int} {Q : VK} (h1 : H c = some (.lst (ms.map V.int))) (h2 : H d = some (.lst (ns.map V.int))) (q : Q (.bl (!decide (ms = ns))) H) : rNeD K (.ref c) (.ref d) H Q :=
  w_neD (dp_ints h1) (dp_ints h2) ((good_intl ms).shaped (by decide)) ((good_intl ns).shaped (by decide)) (eqv_ints ms ns) q
end Bw
namespace Bw
open PySem PySem.Spec PyProof.Rows L2
theorem cutV_toL (xs : List V) (k : Nat) : cutV xs none (some (k : Int)) = xs.take k := by
  have e : HT.sIx xs.length xs.length (some (k : Int)) = min k xs.length := HT.sIx_nat _ _ k
  unfold cutV
  rw [e, HT.sIx_none]
  show (xs.drop 0).take _ = _
  rw [List.drop_zero, Nat.sub_zero]
  rcases Nat.le_total k xs.length with h | h
  · rw [Nat.min_eq_left h]
  · rw [Nat.min_eq_right h, List.take_length, List.take_of_length_le h]
theorem cutV_1 {α : Type} (f : α → V) (xs : List α) : cutV (xs.map f) none (some 1) = (xs.take 1).map f := by
  rw [show (1 : Int) = ((1 : Nat) : Int) from rfl, cutV_toL, List.map_take]
end Bw

/-! repr of lists: defs that are run where no repr is under way (the guards are known) -/
namespace Bw
open PySem PySem.Spec PyProof.Rows L2 LamX
structure FnOkG (P : Program) (w : World) (K : PySem.W.Frag) (mg : Str → Option Value) (base : Heap) (CX : CXT) (k : Nat) (f : Addr) (fd : FuncData) (ps : List Str) (sp : Sp) : Prop where
  len : ∀ vs H Q E, sp vs H Q E → vs.length = ps.length
  run : ∀ (A : Around) (outer : List Env) (s : Shared) (H : Hp) (args : Args) (us : List Value) (vs : List V) (Q : VK) (E : XK), A.guards = some [] → Room k A → Env0 P w K mg base A outer s H → BindsTo s fd args (ps.zip us) → Vals vs us → sp vs H Q E →
    codeAny (model P w) A (.call (.ref f) args) (CR CX outer P w H s Q E) s
theorem fn_ofG {CX : CXT} {P : Program} {w : World} {K : PySem.W.Frag} {mg : Str → Option Value} {base : Heap} {k : Nat} {f : Addr} {name qual : Str} {params : Arguments} {body : List Stmt} {scope : Scope} {dV kV doc pm cdv ct oc : Value} {an od : Option Addr}
    {osl : Array (Option Value)} {N ps : List Str} {sp : Sp} (lk : K.lookup f = some ⟨oc, od, .func (PySem.W.fnOf name qual params body scope dV kV doc pm an cdv ct), osl⟩) (hcd : PySem.W.codeIn K cdv qual = true) (S : FnScope N ps scope)
    (len : ∀ vs H Q E, sp vs H Q E → vs.length = ps.length)
    (hbody : ∀ (A : Around) (outer : List Env) (s : Shared) (H : Hp) (vs : List V) (Q : VK) (E : XK), A.guards = some [] → Room k (A.deeper (envOfC qual scope s.heap.objs.size f cdv)) → sp vs H Q E →
      ∃ t, PSs (cxOf CX P w K mg base N qual scope f cdv A outer s H E) body t ∧ t { nx := fun _ H' => Q .non H', rt := Q } (L2.start N vs) H) :
    FnOkG P w K mg base CX (k + 1) f (PySem.W.fnOf name qual params body scope dV kV doc pm an cdv ct) ps sp := by
  refine ⟨len, fun A outer s H args us vs Q E hgd hr e0 hb r hsp => ?_⟩
  have hl := len _ _ _ _ hsp
  have KX : K.In s.heap := e0.mod.kin.keeps fun b o e => (e0.bs b o e).1
  have lim : s.heap.NoLimit := e0.mod.nolimit.keeps fun b o e => (e0.bs b o e).1
  have hkind : ∀ y ∈ ps.zip us, scope.names.lookup y.1 = some .local ∨ (scope.names.lookup y.1 = some .cell ∧ ((cellsFrom (s.heap.objs.size + 1) scope.names []).lookup y.1).isSome = true) := fun ⟨n, v⟩ hy => by
    rcases S.par n (List.of_mem_zip hy).1 with q | q
    · exact .inl q
    · exact .inr ⟨q, PySem.W.cellsFrom_some _ _ _ (.inl q)⟩
  refine codeAny_call_function hr.depth (KX _ _ lk) rfl S.co S.gen rfl (PySem.W.codeRec_of KX hcd) (hb _ _ _ _ ?_)
  refine wpAny_newFunctionEnv_cells S.kind hkind fun env he s1 x => ?_
  subst he
  refine ⟨lim.keeps x.toInCall.keep, codeAny_func ?_⟩
  obtain ⟨t, ht, hq⟩ := hbody A outer s H vs Q E hgd (hr.deeper _) hsp
  have I : Inv (cxOf CX P w K mg base N qual scope f cdv A outer s H E) [] (L2.start N vs) H s1 := inv_start S hr.hd e0 hl r x
  refine wpAny_mono (ht.run [] s1 (L2.start N vs) H _ I hq) (fun fl s' hs => ?_) fun e s' hs => hs
  have fin : ∀ {σ' : L2.St} {H' : Hp} {v : V} {u : Value}, Inv (cxOf CX P w K mg base N qual scope f cdv A outer s H E) [] σ' H' s' → RelV v u → Q v H' → CE outer P w H s Q u s' :=
    fun {σ' H' v u} J rv q => ⟨v, H', J.os, J.bare, J.base, J.hok, rv, q⟩
  cases fl with
  | ret u =>
    obtain ⟨v, σ', H', J, rv, q⟩ := hs
    exact fin J rv q
  | next =>
    obtain ⟨σ', H', J, q⟩ := hs
    exact fin (v := V.non) (u := Value.none) J rfl q
  | brk =>
    obtain ⟨_, _, _, q⟩ := hs
    exact False.elim q
  | cont =>
    obtain ⟨_, _, _, q⟩ := hs
    exact False.elim q
section
variable {P : Program} {w : World} {K : PySem.W.Frag} {mg : Str → Option Value} {base : Heap}
theorem FnOkG.of {CX : CXT} {k : Nat} {f : Addr} {fd : FuncData} {ps : List Str} {sp : Sp} (F : FnOk P w K mg base CX k f fd ps sp) : FnOkG P w K mg base CX k f fd ps sp := ⟨F.len, fun A outer s H args us vs Q E _ => F.run A outer s H args us vs Q E⟩
theorem fnok_lift {CX : CXT} {k : Nat} {f : Addr} {fd : FuncData} {ps : List Str} {sp : Sp} (F : FnOk P w K mg base CX0 k f fd ps sp) : FnOk P w K mg base CX k f fd ps sp :=
  ⟨F.len, fun A outer s H args us vs Q E hr e0 hb r h => codeAny_mono (F.run A outer s H args us vs Q E hr e0 hb r h) fun r s' h => by
    cases r with
    | error e => exact False.elim h
    | ok fl => cases fl <;> exact h⟩
theorem Fun_okG {x qual : Str} {st : Stmt} {f : Addr} {fd : FuncData} {N ps : List Str} {k : Nat} {sp : Sp} (F : Fun K x qual st f fd) (S : FnScope N ps (defScope st)) (len : ∀ vs H Q E, sp vs H Q E → vs.length = ps.length)
    (hbody : ∀ (cdv : Value) (A : Around) (outer : List Env) (s : Shared) (H : Hp) (vs : List V) (Q : VK) (E : XK), A.guards = some [] → Room k (A.deeper (envOfC qual (defScope st) s.heap.objs.size f cdv)) → sp vs H Q E →
      ∃ t, PSs (cxOf CX0 P w K mg base N qual (defScope st) f cdv A outer s H E).nox (defBody st) t ∧ t { nx := fun _ H' => Q .non H', rt := Q } (L2.start N vs) H) : FnOkG P w K mg base CX0 (k + 1) f fd ps sp := by
  obtain ⟨oc, od, kV, doc, pm, an, cdv, ct, osl, rfl, lk, hcd⟩ := F.ex
  refine fn_ofG lk hcd S len fun A outer s H vs Q E hgd hr hsp => ?_
  obtain ⟨t, h, q⟩ := hbody cdv A outer s H vs Q E hgd hr hsp
  exact ⟨t, h.nox, q⟩
theorem FunC_okG {x qual : Str} {st : Stmt} {f c : Addr} {fd : FuncData} {N ps : List Str} {k : Nat} {sp : Sp} (F : FunC K x qual st f fd c) (S : FnScope N ps (defScope st)) (len : ∀ vs H Q E, sp vs H Q E → vs.length = ps.length)
    (hbody : ∀ (A : Around) (outer : List Env) (s : Shared) (H : Hp) (vs : List V) (Q : VK) (E : XK), A.guards = some [] → Room k (A.deeper (envOfC qual (defScope st) s.heap.objs.size f (.ref c))) → sp vs H Q E →
      ∃ t, PSs (cxOf CX0 P w K mg base N qual (defScope st) f (.ref c) A outer s H E).nox (defBody st) t ∧ t { nx := fun _ H' => Q .non H', rt := Q } (L2.start N vs) H) : FnOkG P w K mg base CX0 (k + 1) f fd ps sp := by
  obtain ⟨oc, od, kV, doc, pm, an, ct, osl, rfl, lk, hcd⟩ := F.ex
  refine fn_ofG lk hcd S len fun A outer s H vs Q E hgd hr hsp => ?_
  obtain ⟨t, h, q⟩ := hbody A outer s H vs Q E hgd hr hsp
  exact ⟨t, h.nox, q⟩
structure FnG (P : Program) (w : World) (K : PySem.W.Frag) (mg : Str → Option Value) (base : Heap) (x : Str) (k : Nat) (ps : List Str) (sp : Sp) : Prop where
  ex : ∃ (f : Addr) (fd : FuncData), FnOkG P w K mg base CX0 k f fd ps sp ∧ mg x = some (.ref f) ∧ PySem.W.keepIn K (.ref f) = true ∧ Binds K fd ps []
end
section
variable {X : Cx}
theorem run_fnG {k : Nat} {f : Addr} {fd : FuncData} {ps : List Str} {sp : Sp} {pins : List (Addr × Obj)} {σ : L2.St} {H : Hp} {s : Shared} {Q : VK} {us : List Value} {vs : List V} (F : FnOkG X.prog X.w X.K X.mg X.base CX0 k f fd ps sp) (hgd : X.A.guards = some []) (hr : Room k X.A) (hb : Binds X.K fd ps [])
    (I : Inv X pins σ H s) (r : Vals vs us) (h : sp (vs ++ []) H Q E0) : wpAny (model X.prog X.w) X.A (call (.ref f) us) (EP X pins σ Q) X.xe s := by
  have r2 : Vals (vs ++ []) (us ++ []) := r.append .nil
  have hl : (us ++ []).length = ps.length := by rw [← r2.length]; exact F.len _ _ _ _ h
  refine wpAny_call (codeAny_mono (F.run X.A X.stack s H ⟨us, []⟩ (us ++ []) (vs ++ []) Q E0 hgd hr I.env0 (hb s us I.kIn hl) r2 h) fun r s' hq => ?_)
  cases r with
  | error e => exact False.elim hq
  | ok fl =>
    cases fl with
    | ret u => exact I.after hq
    | next => exact False.elim hq
    | brk => exact False.elim hq
    | cont => exact False.elim hq
theorem pe_fg {x : Str} {k : Nat} {ps : List Str} {sp : Sp} {e : Expr} {es : List Expr} {t : TA} {p pos : Pos} (F : FnG X.prog X.w X.K X.mg X.base x k ps sp) (hgd : X.A.guards = some []) (hr : Room k X.A) (hg : Gl X x) (ha : PA X (e :: es) t)
    (hdb : (x == ("__debug__" : Str)) = false := by decide) (he : starEach (e :: es) X.env = (false, eval e X.env) :: starEach es X.env := by rfl) (hpl : (backTo pos (starEach es X.env)).any (·.1) = false := by rfl) :
    PE X (.Call (.Name x p) (e :: es) [] pos) (tCall sp [] E0 t) := by
  obtain ⟨f, fd, G, hm, hk, hb⟩ := F.ex
  refine ⟨fun pins s σ H Q I h => ?_⟩
  refine wpAny_Call_Name_kw (ld_glob I hg hm ?_ hdb)
  refine PySem.W.callWith_K (h₀ := X.base) I.ok.mod.kin hk (thn (ha.run pos pins s σ H _ I h) fun us s1 ⟨vs, H1, I1, r, q⟩ => ⟨I1.kIn, ?_⟩) he hpl
  exact run_fnG G hgd hr hb I1 r q
/-- repr(x), x a list or tuple of data without dicts -/
def rReprD (K : PySem.W.Frag) : List V → Hp → VK → Prop := fun xs H Q => ∃ (a : Addr) (d : PyData), xs = [.ref a] ∧ Dp K H (.ref a) d ∧ d.showable = true ∧ d.hasDict = false ∧ d.depth ≤ 60 ∧ d.shown.length ≤ sizeLine ∧ Q (.str d.shown) H
theorem call_reprD (hgd : X.A.guards = some []) (hu : X.A.units + 65 < cLine) : CallR X (.builtin "repr") (rReprD X.K) := by
  intro pins s σ H xs us Q I r h
  obtain ⟨a, d, rfl, hd, h1, h2, h3, h4, q⟩ := h
  cases r with
  | cons ry rt =>
    cases rt
    obtain rfl := (show _ = Value.ref a from ry)
    obtain ⟨bs, r1⟩ := Dp.reads I d (.ref a) _ hd rfl
    refine repr_of_reads' r1 h1 (fun z => by rw [h2] at z; cases z) hgd (by omega) (fun _ _ e => e) (fun h' u tk hk => ?_) h4
    exact ⟨.str d.shown, H, I.kept hk, ⟨u, rfl⟩, q⟩
end
theorem law_callG {P : Program} {w : World} {K : PySem.W.Frag} {mg mb : Str → Option Value} {CX : CXT} {k : Nat} {fa a : Addr} {fd : FuncData} {x : Str} {sp : Sp} {s₁ : Shared} {vs : List Value} {ns : List Int}
    (KX : K.In s₁.heap) (hns : s₁.heap.Ns mainGlobals mg) (hb : s₁.heap.Ns builtinsNs mb) (hbb : ∀ x : Str, x ≠ "__name__" → mb x = bootBuiltins x) (hlim : s₁.heap.NoLimit) (hg : s₁.gens = #[])
    (ha : s₁.heap.get? a = some { cls := .type "list", data := .seq vs.toArray }) (hi : IntsAre vs ns) (hl : ns.length ≤ sizeLine) (hr : Room k callerA)
    (F : ∀ base : Heap, K.In base → base.Ns mainGlobals mg → FnOkG P w K mg base CX k fa fd [x] sp) (hbind : ∀ (s : Shared) (u : Value), BindsTo s fd ⟨[u], []⟩ [(x, u)])
    (hsp : ∀ H : Hp, Only H → SqL K H a (ns.map V.int) → sp [.ref a] H (fun v _ => v = .bl true) fun _ _ _ => False)
    (hCX : ∀ H e s', CX [] H s₁ (fun _ _ _ => False) e s' → False) :
    codeAny (model P w) callerA (.call (.ref fa) ⟨[.ref a], []⟩) (fun r s' => r = .ok (.ret (.bool true)) ∧ OldK s₁.heap s'.heap ∧ s'.os = s₁.os ∧ AllBare s'.gens) s₁ := by
  have rv := vals_ints hi
  have lenV := hi.length
  -- from an abstract heap in which nothing but the script may be tracked
  have core : ∀ H : Hp, Only H → SqL K H a (ns.map V.int) → HOk P w H s₁.heap → (∀ b, H b ≠ none → b = a) → (H a ≠ none → K.lookup a = none) →
      codeAny (model P w) callerA (.call (.ref fa) ⟨[.ref a], []⟩) (fun r s' => r = .ok (.ret (.bool true)) ∧ OldK s₁.heap s'.heap ∧ s'.os = s₁.os ∧ AllBare s'.gens) s₁ := by
    intro H hO hS hok hA hK
    have base_of : ∀ {b : Addr} {o : Obj}, s₁.heap.get? b = some o → H b = none → (hidT s₁.heap H).get? b = some o := fun e n => hidT_get e n
    have noA : ∀ {b : Addr} {o : Obj} {es : Array DictEntry} {ep : Nat}, s₁.heap.get? b = some o → o.data = .dict es ep → H b = none := fun {b o es ep} e d => by
      cases q : H b with
      | none => rfl
      | some u =>
        have e' : b = a := hA b (by rw [q]; simp)
        subst e'
        rw [ha] at e; cases e
        have d' : Data.seq vs.toArray _ = Data.dict es ep := d
        cases d'
    have nsK : ∀ {b : Addr} {m : Str → Option Value}, s₁.heap.Ns b m → (hidT s₁.heap H).Ns b m := fun {b m} ⟨o, es, ep, e, d, r⟩ => ⟨o, es, ep, base_of e (noA e d), d, r⟩
    have hKb : K.In (hidT s₁.heap H) := fun b o e => base_of (KX b o e) (by
      cases q : H b with
      | none => rfl
      | some u =>
        have e' : b = a := hA b (by rw [q]; simp)
        subst e'
        rw [hK (by rw [q]; simp)] at e; cases e)
    have hM : Mod K mg (hidT s₁.heap H) := ⟨hKb, nsK hns, ⟨mb, nsK hb, hbb⟩, let ⟨mc, h1, h2⟩ := hlim; ⟨mc, nsK h1, h2⟩⟩
    have e0 : Env0 P w K mg (hidT s₁.heap H) callerA [] s₁ H := ⟨rfl, hM, fun b o e => of_hidT e, Nat.le_of_eq (hidT_size _ _), trivial, fun b hb => absurd (show b ∈ ([] : List Addr) from hb) (by simp), hok, .of_eq hg⟩
    refine codeAny_mono ((F _ hKb (nsK hns)).run callerA [] s₁ H ⟨[.ref a], []⟩ [.ref a] [.ref a] _ _ rfl hr e0 (hbind s₁ (.ref a)) (.cons rfl .nil) (hsp H hO hS)) fun r s' h => ?_
    cases r with
    | error e => exact (hCX H e s' h).elim
    | ok fl =>
      cases fl with
      | next => exact False.elim h
      | brk => exact False.elim h
      | cont => exact False.elim h
      | ret u =>
        obtain ⟨v, H', os, bare, un, hok', r', q⟩ := h
        have q' : v = .bl true := q
        subst q'
        obtain rfl : u = Value.bool true := r'
        refine ⟨rfl, OldK.of_keep fun b o e => ?_, os, bare⟩
        cases q : H b with
        | none => exact un.keep b o e q (by intro z; exact absurd (show b ∈ ([] : List Addr) from z) (by simp)) (by simp)
        | some u =>
          rcases hO b with z | ⟨ob, xs, z⟩
          · rw [q] at z; cases z
          · have z2 := un.frzs b ob _ z
            obtain ⟨e1, _⟩ := hok b _ z
            obtain ⟨e2, _⟩ := hok' b _ z2
            rw [e] at e1; cases e1
            exact e2
  cases hk : K.lookup a with
  | some o =>
    -- the script is one of the module's own objects
    have e := KX a o hk
    rw [ha] at e
    cases e
    refine core (fun _ => none) (fun _ => .inl rfl) (.inr ⟨_, vs.toArray, _, hk, rfl, rfl, rfl, by rw [List.size_toArray, lenV]; exact hl, by simpa using rv⟩) (fun b u z => by have z' : (none : Option HO) = some u := z; cases z') (fun b z => absurd rfl z) fun z => absurd rfl z
  | none =>
    refine core (fun b => if b = a then some (.frz { cls := .type "list", data := .seq vs.toArray } (.lst (ns.map V.int))) else none) (fun b => ?_) (.inl (.inr ⟨{ cls := .type "list", data := .seq vs.toArray }, if_pos rfl⟩)) (fun b u z => ?_) (fun b z => ?_) fun _ => hk
    · by_cases hb : b = a
      · exact .inr ⟨_, _, if_pos hb⟩
      · exact .inl (if_neg hb)
    · by_cases hb : b = a
      · have z' := (if_pos hb).symm.trans z
        cases z'
        subst hb
        exact ⟨ha, by rw [List.length_map]; exact hl, vs, _, rv, ha⟩
      · have z' := (if_neg hb).symm.trans z
        cases z'
    · by_cases hb : b = a
      · exact hb
      · exact absurd (if_neg hb) z
theorem law_callTsG {P : Program} {w : World} {K : PySem.W.Frag} {mg mb : Str → Option Value} {CX : CXT} {k : Nat} {fa a : Addr} {cs : List (Addr × Addr)} {fd : FuncData} {x : Str} {sp : Sp} {s₁ : Shared} {vs : List Value} {ns : List Int}
    (KX : K.In s₁.heap) (hns : s₁.heap.Ns mainGlobals mg) (hb : s₁.heap.Ns builtinsNs mb) (hbb : ∀ x : Str, x ≠ "__name__" → mb x = bootBuiltins x) (hlim : s₁.heap.NoLimit) (hg : s₁.gens = #[])
    (hT : ∀ p ∈ cs, s₁.heap.get? p.2 = some { cls := .none, data := .fields #[] }) (nT : ∀ p ∈ cs, K.lookup p.2 = none) (C : ∀ p ∈ cs, PySem.W.CodeHd s₁.heap p.1 p.2)
    (hbm : ∃ (bm : Addr) (ob : Obj), mg "__builtins__" = some (.ref bm) ∧ bm ≠ builtinsNs ∧ s₁.heap.get? bm = some ob ∧ ob.cls = .type "module" ∧ ob.dict = some builtinsNs ∧ ob.data = .plain)
    (ha : s₁.heap.get? a = some { cls := .type "list", data := .seq vs.toArray }) (hi : IntsAre vs ns) (hl : ns.length ≤ sizeLine) (hr : Room k callerA)
    (F : ∀ base : Heap, K.In base → base.Ns mainGlobals mg → (∀ p ∈ cs, TabB base mg p.1 p.2) → FnOkG P w K mg base CX k fa fd [x] sp) (hbind : ∀ (s : Shared) (u : Value), BindsTo s fd ⟨[u], []⟩ [(x, u)])
    (hsp : ∀ H : Hp, (∀ p ∈ cs, H p.2 = some (.tbl #[])) → SqL K H a (ns.map V.int) → sp [.ref a] H (fun v _ => v = .bl true) fun _ _ _ => False)
    (hCX : ∀ H e s', CX [] H s₁ (fun _ _ _ => False) e s' → False) :
    codeAny (model P w) callerA (.call (.ref fa) ⟨[.ref a], []⟩) (fun r s' => r = .ok (.ret (.bool true)) ∧ OldK s₁.heap s'.heap ∧ s'.os = s₁.os ∧ AllBare s'.gens) s₁ := by
  have rv := vals_ints hi
  have lenV := hi.length
  have isT : ∀ b : Addr, b ∈ cs.map (·.2) → s₁.heap.get? b = some { cls := .none, data := .fields #[] } := fun b hb => by
    obtain ⟨p, hp, e⟩ := List.mem_map.mp hb
    rw [← e]
    exact hT p hp
  have aT : a ∉ cs.map (·.2) := fun z => by
    have q := isT a z
    rw [ha] at q
    have z' : Data.seq vs.toArray _ = Data.fields #[] := congrArg Obj.data (Option.some.inj q)
    cases z'
  have memT : ∀ p ∈ cs, p.2 ∈ cs.map (·.2) := fun p hp => List.mem_map.mpr ⟨p, hp, rfl⟩
  -- from an abstract heap in which nothing but the script and the tables may be tracked
  have core : ∀ H : Hp, (∀ p ∈ cs, H p.2 = some (.tbl #[])) → (∀ b, H b = none ∨ b ∈ cs.map (·.2) ∨ ∃ o xs, H b = some (.frz o (.lst xs))) → SqL K H a (ns.map V.int) → HOk P w H s₁.heap → (∀ b, H b ≠ none → b = a ∨ b ∈ cs.map (·.2)) → (H a ≠ none → K.lookup a = none) →
      codeAny (model P w) callerA (.call (.ref fa) ⟨[.ref a], []⟩) (fun r s' => r = .ok (.ret (.bool true)) ∧ OldK s₁.heap s'.heap ∧ s'.os = s₁.os ∧ AllBare s'.gens) s₁ := by
    intro H hH hO hS hok hA hK
    have base_of : ∀ {b : Addr} {o : Obj}, s₁.heap.get? b = some o → H b = none → (hidT s₁.heap H).get? b = some o := fun e n => hidT_get e n
    have noD : ∀ {b : Addr} {o : Obj}, s₁.heap.get? b = some o → (∀ vs n, o.data ≠ .seq vs n) → o.data ≠ .fields #[] → H b = none := fun {b o} e h1 h2 => by
      cases q : H b with
      | none => rfl
      | some u =>
        rcases hA b (by rw [q]; simp) with e' | e'
        · rw [e', ha] at e
          cases e
          exact (h1 _ _ rfl).elim
        · rw [isT b e'] at e
          cases e
          exact (h2 rfl).elim
    have noA : ∀ {b : Addr} {o : Obj} {es : Array DictEntry} {ep : Nat}, s₁.heap.get? b = some o → o.data = .dict es ep → H b = none := fun {b o es ep} e d => by
      refine noD e (fun vs n z => ?_) fun z => ?_
      · rw [d] at z
        cases z
      · rw [d] at z
        cases z
    have nsK : ∀ {b : Addr} {m : Str → Option Value}, s₁.heap.Ns b m → (hidT s₁.heap H).Ns b m := fun {b m} ⟨o, es, ep, e, d, r⟩ => ⟨o, es, ep, base_of e (noA e d), d, r⟩
    have hKb : K.In (hidT s₁.heap H) := fun b o e => base_of (KX b o e) (by
      cases q : H b with
      | none => rfl
      | some u =>
        rcases hA b (by rw [q]; simp) with e' | e'
        · rw [e'] at e q
          rw [hK (by rw [q]; simp)] at e
          cases e
        · obtain ⟨p, hp, ep⟩ := List.mem_map.mp e'
          rw [← ep, nT p hp] at e
          cases e)
    have hM : L2.Mod K mg (hidT s₁.heap H) := ⟨hKb, nsK hns, ⟨mb, nsK hb, hbb⟩, let ⟨mc, h1, h2⟩ := hlim; ⟨mc, nsK h1, h2⟩⟩
    have TB : ∀ p ∈ cs, TabB (hidT s₁.heap H) mg p.1 p.2 := fun p hp => by
      have hTp := hT p hp
      refine ⟨?_, ?_, fun z => ?_⟩
      · obtain ⟨o, us, file, tf, flags, tg, inF, text, tt, e1, r1, r2, r3, r4, r5, r6, r7, r8, hne⟩ := C p hp
        refine ⟨o, us, file, tf, flags, tg, inF, text, tt, base_of e1 (noD e1 (fun vs n z => ?_) fun z => ?_), r1, r2, r3, r4, r5, r6, r7, r8, hne⟩
        · rw [r2] at z
          cases z
        · rw [r2] at z
          cases z
          simp at r3
      · obtain ⟨bm, ob, b1, b2, b3, b4, b5, b6⟩ := hbm
        have nG : bm ≠ mainGlobals := fun q => by
          obtain ⟨o, es, ep, e, hd, _⟩ := hns
          rw [q, e] at b3
          cases b3
          rw [hd] at b6
          cases b6
        have nP : bm ≠ p.2 := fun q => by
          rw [q, hTp] at b3
          cases b3
          cases b6
        refine ⟨bm, ob, b1, b2, nG, nP, base_of b3 (noD b3 (fun vs n z => ?_) fun z => ?_), b4, b5, b6⟩
        · rw [b6] at z
          cases z
        · rw [b6] at z
          cases z
      · obtain ⟨o, es, ep, e, hd, _⟩ := hns
        rw [z, hTp] at e
        cases e
        cases hd
    have e0 : Env0 P w K mg (hidT s₁.heap H) callerA [] s₁ H := ⟨rfl, hM, fun b o e => of_hidT e, Nat.le_of_eq (hidT_size _ _), trivial, fun b hb => absurd (show b ∈ ([] : List Addr) from hb) (by simp), hok, .of_eq hg⟩
    refine codeAny_mono ((F _ hKb (nsK hns) TB).run callerA [] s₁ H ⟨[.ref a], []⟩ [.ref a] [.ref a] _ _ rfl hr e0 (hbind s₁ (.ref a)) (.cons rfl .nil) (hsp H hH hS)) fun r s' h => ?_
    cases r with
    | error e => exact (hCX H e s' h).elim
    | ok fl =>
      cases fl with
      | next => exact False.elim h
      | brk => exact False.elim h
      | cont => exact False.elim h
      | ret u =>
        obtain ⟨v, H', os, bare, un, hok', r', q⟩ := h
        have q' : v = .bl true := q
        subst q'
        obtain rfl : u = Value.bool true := r'
        have key : ∀ b o, b ∉ cs.map (·.2) → s₁.heap.get? b = some o → s'.heap.get? b = some o := fun b o nb e => by
          cases q : H b with
          | none => exact un.keep b o e q (by intro z; exact absurd (show b ∈ ([] : List Addr) from z) (by simp)) (by simp)
          | some u =>
            rcases hO b with z | z | ⟨ob, xs, z⟩
            · rw [q] at z; cases z
            · exact absurd z nb
            · have z2 := un.frzs b ob _ z
              obtain ⟨e1, _⟩ := hok b _ z
              obtain ⟨e2, _⟩ := hok' b _ z2
              rw [e] at e1; cases e1
              exact e2
        have grown : ∀ p ∈ cs, ∃ more : Array Value, s'.heap.get? p.2 = some { cls := .none, data := .fields more } := fun p hp => by
          obtain ⟨more, z⟩ := un.tbls p.2 #[] (hH p hp)
          exact ⟨_, hok' p.2 _ z⟩
        refine ⟨rfl, ⟨fun b o e => ?_, fun b o e => ?_⟩, os, bare⟩
        · by_cases hb : b ∈ cs.map (·.2)
          · obtain ⟨p, hp, ep⟩ := List.mem_map.mp hb
            obtain ⟨more, hm⟩ := grown p hp
            rw [← ep] at e ⊢
            rw [hT p hp] at e
            cases e
            exact .inr (.inl ⟨((C p hp).tab (hT p hp)).isCodeTable, rfl, #[], more, rfl, by rw [Array.empty_append]; exact hm⟩)
          · exact .inl (key b o hb e)
        · by_cases hb : b ∈ cs.map (·.2)
          · obtain ⟨p, hp, ep⟩ := List.mem_map.mp hb
            obtain ⟨more, hm⟩ := grown p hp
            rw [← ep]
            exact ⟨_, hm⟩
          · exact ⟨o, key b o hb e⟩
  cases hk : K.lookup a with
  | some o =>
    have e := KX a o hk
    rw [ha] at e
    cases e
    refine core (fun b => if b ∈ cs.map (·.2) then some (.tbl #[]) else none) (fun p hp => if_pos (memT p hp)) (fun b => ?_) (.inr ⟨_, vs.toArray, _, hk, rfl, rfl, rfl, by rw [List.size_toArray, lenV]; exact hl, by simpa using rv⟩) (fun b u z => ?_) (fun b z => ?_) fun z => absurd (show (if a ∈ cs.map (·.2) then some (HO.tbl #[]) else none) = none from if_neg aT) z
    · by_cases hb : b ∈ cs.map (·.2)
      · exact .inr (.inl hb)
      · exact .inl (if_neg hb)
    · by_cases hb : b ∈ cs.map (·.2)
      · have z' := (if_pos hb).symm.trans z
        cases z'
        exact isT b hb
      · have z' := (if_neg hb).symm.trans z
        cases z'
    · by_cases hb : b ∈ cs.map (·.2)
      · exact .inr hb
      · exact absurd (if_neg hb) z
  | none =>
    refine core (fun b => if b = a then some (.frz { cls := .type "list", data := .seq vs.toArray } (.lst (ns.map V.int))) else if b ∈ cs.map (·.2) then some (.tbl #[]) else none) (fun p hp => (if_neg (show ¬ p.2 = a from fun z => aT (by rw [← z]; exact memT p hp))).trans (if_pos (memT p hp))) (fun b => ?_)
      (.inl (.inr ⟨{ cls := .type "list", data := .seq vs.toArray }, if_pos rfl⟩)) (fun b u z => ?_) (fun b z => ?_) fun _ => hk
    · by_cases hb : b = a
      · exact .inr (.inr ⟨_, _, if_pos hb⟩)
      · by_cases hb2 : b ∈ cs.map (·.2)
        · exact .inr (.inl hb2)
        · exact .inl ((if_neg hb).trans (if_neg hb2))
    · by_cases hb : b = a
      · have z' := (if_pos hb).symm.trans z
        cases z'
        rw [hb]
        exact ⟨ha, by rw [List.length_map]; exact hl, vs, _, rv, ha⟩
      · have z1 := (if_neg hb).symm.trans z
        by_cases hb2 : b ∈ cs.map (·.2)
        · have z' := (if_pos hb2).symm.trans z1
          cases z'
          exact isT b hb2
        · have z' := (if_neg hb2).symm.trans z1
          cases z'
    · by_cases hb : b = a
      · exact .inl hb
      · by_cases hb2 : b ∈ cs.map (·.2)
        · exact .inr hb2
        · exact absurd ((if_neg hb).trans (if_neg hb2)) z
/-- as LawAtS, the law's def where no repr is under way -/
def LawAtSG (l : PySem.W.OpenLaw) (w : World) (K : PySem.W.Frag) (CX : CXT) (k n : Nat) (x : Str) (mg : Str → Option Value) (fa : Addr) (h : Heap) : Prop :=
  ∃ (fd : FuncData) (cs : List (Addr × Addr)) (sp : Sp), (∀ p ∈ cs, h.get? p.2 = some { cls := .none, data := .fields #[] }) ∧ (∀ p ∈ cs, K.lookup p.2 = none) ∧ (∀ p ∈ cs, PySem.W.CodeHd h p.1 p.2) ∧ (∀ (s : Shared) (u : Value), BindsTo s fd ⟨[u], []⟩ [(x, u)]) ∧
    (∀ (H : Hp) (a : Addr) (ns : List Int), ns.length ≤ n → (∀ z ∈ ns, Builtin.Int.intBits z ≤ 1048576) → (∀ p ∈ cs, H p.2 = some (.tbl #[])) → SqL K H a (ns.map V.int) → sp [.ref a] H (fun v _ => v = .bl true) fun _ _ _ => False) ∧
    ∀ base : Heap, K.In base → base.Ns mainGlobals mg → (∀ p ∈ cs, TabB base mg p.1 p.2) → FnOkG l.prog w K mg base CX k fa fd [x] sp
theorem walk_ofTsEG {l : PySem.W.OpenLaw} {n k : Nat} {q : Program} {loose : List Str} {XP : (Str → Option Value) → Heap → Prop} {YP : World → Heap → Prop} {d : DefRec} {CX : World → CXT} {x : Str}
    (hn : l.most = some n) (hn2 : n ≤ sizeLine) (hdf : d.params.defaults = []) (hr : Room k callerA)
    (F : ∀ (w : World) (mg : Str → Option Value) (fa : Addr) (h : Heap), YP w h → h.Ns mainGlobals mg → mg d.name = some (.ref fa) → ∃ K : PySem.W.Frag, K.In h ∧ LawAtSG l w K (CX w) k n x mg fa h)
    (hCX : ∀ (w : World) (H : Hp) (s : Shared) (e : Value) (s' : Shared), CX w [] H s (fun _ _ _ => False) e s' → False) :
    PySem.W.WalkO q loose XP YP l.row.toRowW d [] (fun f vs => PySem.call f vs) := by
  refine Att.attach_callB hn hdf fun w s₀ s₁ mg mb fa o pm cd doc a vs ns G Y ho hd hcd hmg hobj hints hlen hbits hg => ?_
  obtain ⟨K, KX, fd, cs, sp, hT, nT, C, hb, hsp, hF⟩ := F w mg fa _ Y G.T.g hmg
  exact law_callTsG KX G.T.g G.T.b G.T.builtins G.T.nolimit hg hT nT C G.T.bmain hobj hints (Nat.le_trans hlen hn2) hr hF hb (fun H hH hS => hsp H a ns hlen hbits hH hS) fun H e s' => hCX w H s₁ e s'
theorem walk_ofG {l : PySem.W.OpenLaw} {n k : Nat} {q : Program} {loose : List Str} {XP : (Str → Option Value) → Heap → Prop} {YP : World → Heap → Prop} {d : DefRec} {K : Params → PySem.W.Frag} {CX : World → CXT} {sp : World → Sp} {x : Str}
    (hn : l.most = some n) (hn2 : n ≤ sizeLine) (hdf : d.params.defaults = []) (hr : Room k callerA)
    (hY : ∀ (w : World) (h : Heap), YP w h → (K w.params).In h)
    (F : ∀ (w : World) (mg : Str → Option Value) (fa : Addr) (h : Heap), (K w.params).In h → h.Ns mainGlobals mg → mg d.name = some (.ref fa) →
      ∃ fd : FuncData, (∀ (s : Shared) (u : Value), BindsTo s fd ⟨[u], []⟩ [(x, u)]) ∧
        ∀ base : Heap, (K w.params).In base → base.Ns mainGlobals mg → FnOkG l.prog w (K w.params) mg base (CX w) k fa fd [x] (sp w))
    (hsp : ∀ (w : World) (H : Hp) (a : Addr) (ns : List Int), ns.length ≤ n → Only H → SqL (K w.params) H a (ns.map V.int) → sp w [.ref a] H (fun v _ => v = .bl true) fun _ _ _ => False)
    (hCX : ∀ (w : World) (H : Hp) (s : Shared) (e : Value) (s' : Shared), CX w [] H s (fun _ _ _ => False) e s' → False) :
    PySem.W.WalkO q loose XP YP l.row.toRowW d [] (fun f vs => PySem.call f vs) := by
  refine Att.attach_call hn hdf fun w s₀ s₁ mg mb fa o pm cd doc a vs ns G Y ho hd hcd hmg hobj hints hlen hg => ?_
  have KX := hY w _ Y
  obtain ⟨fd, hb, hF⟩ := F w mg fa _ KX G.T.g hmg
  exact law_callG KX G.T.g G.T.b G.T.builtins G.T.nolimit hg hobj hints (Nat.le_trans hlen hn2) hr hF hb (fun H hO hS => hsp w H a ns hlen hO hS) fun H e s' => hCX w H s₁ e s'
end Bw

open PySem PySem.Spec L2 Bw
local macro_rules | `(tactic| wtm_at "look") => `(tactic| first | assumption | with_reducible exact upd_same | ((with_reducible refine' same_at ?ws ?wt); (case ws => assumption); (case wt => wtm_at "look")) | ((with_reducible refine' kb_at ?ws ?wt ?wn); (case ws => assumption); (case wt => wtm_at "look"); (case wn => wtm_at "ne")))
local macro_rules | `(tactic| wtm_at "ne") => `(tactic| first | assumption | ((with_reducible refine Ne.symm ?ws); (case ws => assumption)) | ((with_reducible refine' ne_of_none ?wa ?wb); (case wb => assumption); (case wa => wtm_at "look")) | ((with_reducible refine' Ne.symm (ne_of_none ?wa ?wb)); (case wb => assumption); (case wa => wtm_at "look")))
local macro_rules | `(tactic| wtm_at "seq") => `(tactic| first | assumption | ((with_reducible refine' SqL.of ?ws); (case ws => wtm_at "look")) | ((with_reducible refine' SqT.of ?ws); (case ws => wtm_at "look")) | ((with_reducible refine' Same.seq ?ws ?wt); (case ws => assumption); (case wt => wtm_at "seq")) | ((with_reducible refine' same_t ?ws ?wt); (case ws => assumption); (case wt => wtm_at "seq")))
local macro_rules | `(tactic| wtm_at "ix") => `(tactic| first | assumption | exact atI_nat (j := 0) rfl | exact atI_nat (j := 1) rfl | exact atI_nat (j := 2) rfl | exact atI_nat (j := 3) rfl | exact atI_nat (j := 4) rfl)
local macro_rules | `(tactic| wtm_at "len") => `(tactic| first | (refine sz ?_; simp only [List.length_cons, List.length_nil]; omega) | (refine sz ?_; omega))
local macro_rules | `(tactic| wtm_at "fld") => `(tactic| first | assumption | exact lk_hit | ((with_reducible refine' lk_miss ?wa ?wb); (case wa => decide +kernel); (case wb => wtm_at "fld")) | rfl)
local macro_rules | `(tactic| wtm_at "tyx") => `(tactic| first | assumption | with_reducible exact tyx_int | with_reducible exact tyx_bl | with_reducible exact tyx_str | with_reducible exact tyx_non | ((with_reducible refine' tyx_lst ?wa); (case wa => wtm_at "look")) | ((with_reducible refine' tyx_tup ?wa); (case wa => wtm_at "look")))
local macro_rules | `(tactic| wtm_at "ixn") => `(tactic| first | assumption | exact Evl.ixN_nat (j := 0) (by simp) | exact Evl.ixN_nat (j := 1) (by simp) | exact Evl.ixN_nat (j := 2) (by simp) | rfl)
local macro_rules | `(tactic| wtm_at "cond") => `(tactic| first | assumption | (show (0 : Int) < _; omega) | exact mulL (by omega) | exact mulR (by omega) | exact divU (b := 64) (by omega) (by omega) (by decide) (by decide) | exact powU (a := 200) (by omega) (by decide) (by decide) (by decide))
local macro_rules | `(tactic| wtm_at "xd") => `(tactic| first | assumption | exact xdOk_none | ((with_reducible refine' XdOk.same ?wx ?ws); (case ws => assumption); (case wx => wtm_at "xd")) | ((with_reducible refine' xdOk_at ?wa); (case wa => wtm_at "look")))
local macro_rules | `(tactic| wtm_at "new") => `(tactic| (intro pN nN; generalize eN : upd _ pN _ = HN; have sN := same_gen nN eN; have hN := at_gen eN; clear eN))
local macro_rules | `(tactic| wtm_at "mut") => `(tactic| (generalize eM : upd _ _ _ = HM; have kM := kb_gen eM; have hM := at_gen eM; clear eM; (repeat (first | rw [pf_hit] at hM | rw [pf_nil] at hM | ((rw [pf_miss] at hM); rotate_left; decide +kernel)))))
local macro_rules | `(tactic| wtm_at "make") => `(tactic| (intro pR dR nR ndR neR; generalize eR : upd (upd _ dR _) pR _ = HR; have sR := same_make nR ndR eR; have hR := at_gen eR; clear eR neR))
local macro_rules | `(tactic| wtm_at "shp") => `(tactic| simp [SeqAt.shaped, PyData.canLay0, PyData.canLayAll0, PyData.depth, PyData.depthAll])
local macro_rules | `(tactic| wtm_at "kit") => `(tactic| first | exact kit_int_int | exact kit_int_bool | exact kit_int_str | exact kit_int_list | exact kit_int_tuple | exact kit_int_dict | exact kit_bool_int | exact kit_bool_bool | exact kit_bool_str | exact kit_bool_list | exact kit_bool_tuple | exact kit_bool_dict | exact kit_str_int | exact kit_str_bool | exact kit_str_str | exact kit_str_list | exact kit_str_tuple | exact kit_str_dict | exact kit_list_int | exact kit_list_bool | exact kit_list_str | exact kit_list_list | exact kit_list_tuple | exact kit_list_dict | exact kit_tuple_int | exact kit_tuple_bool | exact kit_tuple_str | exact kit_tuple_list | exact kit_tuple_tuple | exact kit_tuple_dict | exact kit_NoneType_int | exact kit_NoneType_bool | exact kit_NoneType_str | exact kit_NoneType_list | exact kit_NoneType_tuple | exact kit_NoneType_dict | exact kit_dict_int | exact kit_dict_bool | exact kit_dict_str | exact kit_dict_list | exact kit_dict_tuple | exact kit_dict_dict)
local macro_rules | `(tactic| wtm_at "w1") => `(tactic| first
  | with_reducible refine w_seq ?_
  | with_reducible refine w_next ?_
  | with_reducible refine w_set ?_
  | with_reducible refine w_asg ?_
  | with_reducible refine w_par ?_
  | with_reducible refine w_ret ?_
  | with_reducible refine w_drop ?_
  | with_reducible refine w_if ?_
  | with_reducible refine w_ifE ?_
  | ((with_reducible refine' w_var ?wv ?_); (case wv => rfl))
  | with_reducible refine w_c ?_
  | with_reducible refine w_op ?_
  | with_reducible refine w_un ?_
  | with_reducible refine w_I0 ?_
  | with_reducible refine w_U ?_
  | with_reducible refine w_pow10_5 ?_
  | with_reducible refine w_pow10_8 ?_
  | with_reducible refine w_pow10_9 ?_
  | with_reducible refine w_pow10_10 ?_
  | with_reducible refine w_pow10_11 ?_
  | with_reducible refine w_pow10_12 ?_
  | with_reducible refine w_pow10_18 ?_
  | ((with_reducible refine w_I ?wc ?_); (case' wc => try wtm_at "cond"))
  | ((with_reducible refine' w_setL ?wh ?wj ?_); (case wh => wtm_at "look"); (case wj => wtm_at "ixn"); intro hS kS eS; (try dsimp only [List.set_cons_zero, List.set_cons_succ] at eS))
  | ((with_reducible refine w_eq ?wh ?_); (case wh => rfl))
  | ((with_reducible refine w_ne ?wh ?_); (case wh => rfl))
  | with_reducible refine w_is0 ?_
  | with_reducible refine w_isnot0 ?_
  | with_reducible refine w_test ?_
  | with_reducible refine w_tB ?_
  | with_reducible refine w_bl ?_
  | ((with_reducible refine' w_isP ?wa ?wb ?wc ?_); (case wa => assumption); (case wb => assumption); (case wc => wtm_at "xd"))
  | ((with_reducible refine' w_isPt ?wa ?wb ?wc ?_); (case wa => assumption); (case wb => assumption); (case wc => wtm_at "xd"))
  | ((with_reducible refine' w_isPT ?wa ?wt ?wb ?wc ?_); (case wa => assumption); (case wt => wtm_at "look"); (case wb => assumption); (case wc => wtm_at "xd"))
  | with_reducible refine w_bmL ?_
  | with_reducible refine w_bm0 ?_
  | ((with_reducible refine' w_tyL ?wh ?_); (case wh => wtm_at "seq"))
  | with_reducible refine w_callP ?_
  | with_reducible refine w_lcE ?_
  | with_reducible refine w_lc2E ?_
  | with_reducible refine w_iStr ?_
  | with_reducible refine w_strE ?_
  | with_reducible refine w_iEnum ?_
  | ((with_reducible refine' w_enum ?wh ?_); (case wh => wtm_at "seq"))
  | with_reducible refine w_yes ?_
  | with_reducible refine w_m1 ?_
  | with_reducible refine w_sl ?_
  | with_reducible refine w_noPart ?_
  | with_reducible refine w_part ?_
  | with_reducible refine w_intE ?_
  | ((with_reducible refine' w_slS ?wh ?_); (case wh => wtm_at "len"))
  | ((with_reducible refine' w_slL ?wh ?_); (case wh => wtm_at "seq"); intro pC HC nC sC hC)
  | with_reducible refine w_m0 ?_
  | with_reducible refine w_isS ?_
  | with_reducible refine w_inS ?_
  | with_reducible refine w_notInS ?_
  | with_reducible refine w_xmk ?_
  | with_reducible refine w_xv ?_
  | with_reducible refine w_xv0 ?_
  | ((with_reducible refine' w_aug ?wv ?_); (case wv => rfl))
  | with_reducible refine w_ipI ?_
  | with_reducible refine w_rAdd ?_
  | with_reducible refine w_faug ?_
  | ((with_reducible refine' w_faug1 ?wh ?wc ?wn ?wl ?_); (case wh => wtm_at "look"); (case wc => assumption); (case wn => assumption); (case wl => wtm_at "fld"))
  | ((with_reducible refine' w_faug2 ?wh ?wl ?_); (case wh => wtm_at "look"); (case wl => (simp only [List.length_cons, List.length_nil]; omega)); wtm_at "mut")
  | with_reducible refine w_xfE ?_
  | ((with_reducible refine' w_xf ?wa ?wn ?wh ?wl ?_); (case wa => assumption); (case wn => assumption); (case wh => wtm_at "look"); (case wl => wtm_at "fld"))
  | ((with_reducible refine' w_cat ?wh ?wi ?wl ?_); (case wh => wtm_at "look"); (case wi => wtm_at "look"); (case wl => wtm_at "len"); intro pC HC nC sC hC; (try dsimp only [List.cons_append, List.nil_append] at hC))
  | with_reducible refine w_fmtE ?_
  | with_reducible refine w_joinE ?_
  | with_reducible refine w_js ?_
  | with_reducible refine w_jn ?_
  | ((with_reducible refine' w_jt ?wh ?_); (case wh => wtm_at "len"))
  | with_reducible refine w_isB ?_
  | with_reducible refine w_isnB ?_
  | with_reducible refine w_and ?_
  | with_reducible refine w_or ?_
  | with_reducible refine w_not ?_
  | with_reducible refine w_andV ?_
  | with_reducible refine w_orV ?_
  | with_reducible refine w_notV ?_
  | with_reducible refine w_chain ?_
  | with_reducible refine w_cons ?_
  | with_reducible refine w_nil ?_
  | with_reducible refine w_call ?_
  | with_reducible refine w_cb ?_
  | with_reducible refine w_tupE ?_
  | with_reducible refine w_lstE ?_
  | with_reducible refine w_abs ?_
  | with_reducible refine w_max ?_
  | with_reducible refine w_min ?_
  | with_reducible refine w_intI ?_
  | with_reducible refine w_intB ?_
  | ((with_reducible refine' w_lenL ?wh ?_); (case wh => wtm_at "seq"))
  | ((with_reducible refine' w_lenS ?wh ?_); (case wh => wtm_at "len"))
  | ((with_reducible refine' w_ixL ?wh ?wa ?_); (case wh => wtm_at "seq"); (case wa => wtm_at "ix"))
  | ((with_reducible refine' w_ixT ?wh ?wa ?_); (case wh => wtm_at "seq"); (case wa => wtm_at "ix"))
  | with_reducible refine w_gname ?_
  | with_reducible refine w_gsub ?_
  | with_reducible refine w_fldE ?_
  | ((with_reducible refine' w_fld ?wh ?wc ?wn ?wl ?_); (case wh => wtm_at "look"); (case wc => assumption); (case wn => assumption); (case wl => wtm_at "fld"))
  | with_reducible refine w_two ?_
  | with_reducible refine w_forE ?_
  | with_reducible refine w_iTup ?_
  | with_reducible refine w_iList ?_
  | with_reducible refine w_iRng1 ?_
  | with_reducible refine w_iRng2 ?_
  | ((with_reducible refine' w_itT ?wh ?_); (case wh => wtm_at "seq"))
  | ((with_reducible refine' w_itL ?wh ?_); (case wh => wtm_at "seq"))
  | with_reducible refine w_methE ?_
  | ((with_reducible refine' w_meth ?wh ?wl ?_); (case wh => wtm_at "look"); (case wl => wtm_at "fld"))
  | with_reducible refine w_makeE ?_
  | ((with_reducible refine makeG ?_); wtm_at "make")
  | ((with_reducible refine' w_isiB ?wt ?wk ?_); (case wt => wtm_at "tyx"); (case wk => wtm_at "kit"))
  | with_reducible refine w_sfld ?_
  | with_reducible refine w_gfldE ?_
  | ((with_reducible refine' w_st ?wh ?wc ?wn ?wl ?_); (case wh => wtm_at "look"); (case wc => assumption); (case wn => assumption); (case wl => (simp only [List.length_cons, List.length_nil]; omega)); wtm_at "mut")
  | ((with_reducible refine' w_gtup ?wh ?wn ?_); (case wh => wtm_at "seq"); (case wn => rfl))
  | with_reducible refine w_gcons ?_
  | with_reducible refine w_gnil ?_
  | with_reducible refine w_dnotE ?_
  | with_reducible refine w_dgetE ?_
  | with_reducible refine w_dputE ?_
  | with_reducible refine w_asg2 ?_
  | with_reducible refine w_iRng3 ?_
  | with_reducible refine w_makeK ?_
  | with_reducible refine iteT ?_
  | with_reducible refine iteF ?_
  | ((with_reducible refine' iteT' ?wb ?_); (case wb => rfl))
  | ((with_reducible refine' iteF' ?wb ?_); (case wb => rfl))
  | ((with_reducible refine newL ?wl ?_); (case wl => wtm_at "len"); wtm_at "new"))
local macro_rules | `(tactic| wtm_at "w0") => `(tactic| dsimp only [cxOf, L2H.cxH, Cx.nox, Cx.wish, L2.start, List.map_cons, List.map_nil, List.length_cons, List.length_nil, List.cons_append, List.nil_append, List.replicate, Nat.reduceAdd, Nat.reduceSub])
local macro_rules | `(tactic| wtm_at "wp") => `(tactic| repeat (wtm_at "w1"))
local macro_rules | `(tactic| wtm_at "wq") => `(tactic| repeat ((fail_if_success (with_reducible refine w_if ?_)); wtm_at "w1"))

namespace K03
def topS (i : Nat) : Stmt := PySem.Challenge.pw_blocksearch_k03_pages_told.main.body.getD i (.Pass ⟨0, 0, 0, 0⟩)
structure Txt (K : PySem.W.Frag) (mg : Str → Option Value) (Z : Zs) (C_Page : Addr) : Prop where
  cl_Page : Cls K C_Page
  m_Page : mg "Page" = some (.ref C_Page)
  na_Page_number : NoAttr K C_Page "number"
  na_Page_held : NoAttr K C_Page "held"
  na_Page_text : NoAttr K C_Page "text"
  na_Page_stands : NoAttr K C_Page "stands"
  c_LETTERS : ∃ t, mg "LETTERS" = some (.str "abcdefghijklmnopqrstuvwxyz" t)
  c_LONGEST : ∃ t, mg "LONGEST" = some (.int 12 t)
  c_MOST : ∃ t, mg "MOST" = some (.int 120 t)
  c_MOST_NUMBER : ∃ t, mg "MOST_NUMBER" = some (.int 9999 t)
  n_isinstance : mg "isinstance" = none
  n_bool : mg "bool" = none
  n_int : mg "int" = none
  n_str : mg "str" = none
  n_list : mg "list" = none
  n_tuple : mg "tuple" = none
  n_len : mg "len" = none
  n_all : mg "all" = none
  n_max : mg "max" = none
  n_min : mg "min" = none
  n_range : mg "range" = none
  n_abs : mg "abs" = none
  n_enumerate : mg "enumerate" = none
  n_repr : mg "repr" = none
  x_NoWord : XpV K Z.NoWord
  h_NoWord : HowPl K Z Z.NoWord 14
  m_Wrong : mg "Wrong" = some (.ref Z.Wrong)
  m_NoWord : mg "NoWord" = some (.ref Z.NoWord)
  m_NoText : mg "NoText" = some (.ref Z.NoText)
  m_NoNumber : mg "NoNumber" = some (.ref Z.NoNumber)
  m_NoSize : mg "NoSize" = some (.ref Z.NoSize)
  m_NoLengths : mg "NoLengths" = some (.ref Z.NoLengths)
  m_NoQuery : mg "NoQuery" = some (.ref Z.NoQuery)
  m_NoCode : mg "NoCode" = some (.ref Z.NoCode)
  m_NoRow : mg "NoRow" = some (.ref Z.NoRow)
  m_NoEntries : mg "NoEntries" = some (.ref Z.NoEntries)
  m_NoQueryText : mg "NoQueryText" = some (.ref Z.NoQueryText)
  m_NoPages : mg "NoPages" = some (.ref Z.NoPages)
  m_NoName : mg "NoName" = some (.ref Z.NoName)
  m_NoQueries : mg "NoQueries" = some (.ref Z.NoQueries)
  m_NoShelf : mg "NoShelf" = some (.ref Z.NoShelf)
  m_NoDeed : mg "NoDeed" = some (.ref Z.NoDeed)
  m_Taken : mg "Taken" = some (.ref Z.Taken)
  m_NoPlace : mg "NoPlace" = some (.ref Z.NoPlace)
  m_NoSlot : mg "NoSlot" = some (.ref Z.NoSlot)
  n_ValueError : mg "ValueError" = none
  n_IndexError : mg "IndexError" = none
abbrev s_law_kind : Stmt := topS 41
theorem sc_law_kind : FnScope ["_law_e", "_law_names", "_law_some"] ["_law_e"] (defScope s_law_kind) := ⟨rfl, rfl, rfl, by decide +kernel, rfl, by decide +kernel, by decide +kernel⟩
abbrev s_law_how : Stmt := topS 42
theorem sc_law_how : FnScope ["_law_deed", "_law_e"] ["_law_deed"] (defScope s_law_how) := ⟨rfl, rfl, rfl, by decide +kernel, rfl, by decide +kernel, by decide +kernel⟩
section
variable {P : Program} {w : World} {K : PySem.W.Frag} {mg : Str → Option Value} {base : Heap} {Z : Zs} {C_Page : Addr}
theorem ok_kind {f : Addr} {fd : FuncData} (F : Fun K "_law_kind" "_law_kind" s_law_kind f fd) (T : Txt K mg Z C_Page) : FnP0 P w K mg base 1 f fd ["_law_e"] (spKind K Z) := by
  refine Fun.okP F sc_law_kind (fun p vs H Q h => ?_) (fun cdv A outer s H vs Q p hr h => ?_)
  · obtain ⟨D, d, i, nm, rfl, _⟩ := h
    rfl
  · obtain ⟨a, oe⟩ := p
    obtain ⟨D, d, i, nm, rfl, hz, hf, hk, hx, hn, k⟩ := h
    have hE := hk.ex
    have k0 := hk.is 0 _ rfl
    have k1 := hk.is 1 _ rfl
    have k2 := hk.is 2 _ rfl
    have k3 := hk.is 3 _ rfl
    have k4 := hk.is 4 _ rfl
    have k5 := hk.is 5 _ rfl
    have k6 := hk.is 6 _ rfl
    have k7 := hk.is 7 _ rfl
    have k8 := hk.is 8 _ rfl
    have k9 := hk.is 9 _ rfl
    have k10 := hk.is 10 _ rfl
    have k11 := hk.is 11 _ rfl
    have k12 := hk.is 12 _ rfl
    have k13 := hk.is 13 _ rfl
    have k14 := hk.is 14 _ rfl
    have k15 := hk.is 15 _ rfl
    have kv := hk.ve
    have kx := hk.ix
    have hi : i < 16 := (List.getElem?_eq_some_iff.mp hn).1
    refine ⟨_, (pss_cons (ps_set (i := 1) sc_law_kind.nd rfl (.inl rfl) (pe_lst (pa_cons pe_str (pa_cons pe_str (pa_cons pe_str (pa_cons pe_str (pa_cons pe_str (pa_cons pe_str (pa_cons pe_str (pa_cons pe_str (pa_cons pe_str pa_nil)))))))))))
 (pss_cons (ps_set (i := 1) sc_law_kind.nd rfl (.inl rfl) (pe_op op_cat (pv 1) (pe_lst (pa_cons pe_str (pa_cons pe_str (pa_cons pe_str (pa_cons pe_str (pa_cons pe_str (pa_cons pe_str (pa_cons pe_str pa_nil))))))))))
 (pss_cons (ps_set (i := 2) sc_law_kind.nd rfl (.inl rfl) (pe_lst (pa_cons (pe_callB (call_isP (a := a) (oe := oe) List.mem_cons_self hz hf) (by rfl) T.n_isinstance PyProof.Rows.boot_isinstance (pa_cons (pv 0) (pa_cons (pe_gcls T.m_NoCode rfl) pa_nil))) (pa_cons (pe_callB (call_isP (a := a) (oe := oe) List.mem_cons_self hz hf) (by rfl) T.n_isinstance PyProof.Rows.boot_isinstance (pa_cons (pv 0) (pa_cons (pe_gcls T.m_NoDeed rfl) pa_nil))) (pa_cons (pe_callB (call_isP (a := a) (oe := oe) List.mem_cons_self hz hf) (by rfl) T.n_isinstance PyProof.Rows.boot_isinstance (pa_cons (pv 0) (pa_cons (pe_gcls T.m_NoEntries rfl) pa_nil))) (pa_cons (pe_callB (call_isP (a := a) (oe := oe) List.mem_cons_self hz hf) (by rfl) T.n_isinstance PyProof.Rows.boot_isinstance (pa_cons (pv 0) (pa_cons (pe_gcls T.m_NoLengths rfl) pa_nil))) pa_nil))))))
 (pss_cons (ps_set (i := 2) sc_law_kind.nd rfl (.inl rfl) (pe_op op_cat (pv 2) (pe_lst (pa_cons (pe_callB (call_isP (a := a) (oe := oe) List.mem_cons_self hz hf) (by rfl) T.n_isinstance PyProof.Rows.boot_isinstance (pa_cons (pv 0) (pa_cons (pe_gcls T.m_NoName rfl) pa_nil))) (pa_cons (pe_callB (call_isP (a := a) (oe := oe) List.mem_cons_self hz hf) (by rfl) T.n_isinstance PyProof.Rows.boot_isinstance (pa_cons (pv 0) (pa_cons (pe_gcls T.m_NoNumber rfl) pa_nil))) (pa_cons (pe_callB (call_isP (a := a) (oe := oe) List.mem_cons_self hz hf) (by rfl) T.n_isinstance PyProof.Rows.boot_isinstance (pa_cons (pv 0) (pa_cons (pe_gcls T.m_NoPages rfl) pa_nil))) (pa_cons (pe_callB (call_isP (a := a) (oe := oe) List.mem_cons_self hz hf) (by rfl) T.n_isinstance PyProof.Rows.boot_isinstance (pa_cons (pv 0) (pa_cons (pe_gcls T.m_NoQueries rfl) pa_nil))) pa_nil)))))))
 (pss_cons (ps_set (i := 2) sc_law_kind.nd rfl (.inl rfl) (pe_op op_cat (pv 2) (pe_lst (pa_cons (pe_callB (call_isP (a := a) (oe := oe) List.mem_cons_self hz hf) (by rfl) T.n_isinstance PyProof.Rows.boot_isinstance (pa_cons (pv 0) (pa_cons (pe_gcls T.m_NoQuery rfl) pa_nil))) (pa_cons (pe_callB (call_isP (a := a) (oe := oe) List.mem_cons_self hz hf) (by rfl) T.n_isinstance PyProof.Rows.boot_isinstance (pa_cons (pv 0) (pa_cons (pe_gcls T.m_NoQueryText rfl) pa_nil))) (pa_cons (pe_callB (call_isP (a := a) (oe := oe) List.mem_cons_self hz hf) (by rfl) T.n_isinstance PyProof.Rows.boot_isinstance (pa_cons (pv 0) (pa_cons (pe_gcls T.m_NoRow rfl) pa_nil))) (pa_cons (pe_callB (call_isP (a := a) (oe := oe) List.mem_cons_self hz hf) (by rfl) T.n_isinstance PyProof.Rows.boot_isinstance (pa_cons (pv 0) (pa_cons (pe_gcls T.m_NoShelf rfl) pa_nil))) pa_nil)))))))
 (pss_cons (ps_set (i := 2) sc_law_kind.nd rfl (.inl rfl) (pe_op op_cat (pv 2) (pe_lst (pa_cons (pe_callB (call_isP (a := a) (oe := oe) List.mem_cons_self hz hf) (by rfl) T.n_isinstance PyProof.Rows.boot_isinstance (pa_cons (pv 0) (pa_cons (pe_gcls T.m_NoSize rfl) pa_nil))) (pa_cons (pe_callB (call_isP (a := a) (oe := oe) List.mem_cons_self hz hf) (by rfl) T.n_isinstance PyProof.Rows.boot_isinstance (pa_cons (pv 0) (pa_cons (pe_gcls T.m_NoText rfl) pa_nil))) (pa_cons (pe_callB (call_isP (a := a) (oe := oe) List.mem_cons_self hz hf) (by rfl) T.n_isinstance PyProof.Rows.boot_isinstance (pa_cons (pv 0) (pa_cons (pe_gcls T.m_NoWord rfl) pa_nil))) (pa_cons (pe_callB (call_isP (a := a) (oe := oe) List.mem_cons_self hz hf) (by rfl) T.n_isinstance PyProof.Rows.boot_isinstance (pa_cons (pv 0) (pa_cons (pe_gcls T.m_Taken rfl) pa_nil))) pa_nil)))))))
 (pss_cons (ps_if (PW.pt (pw_or (pt_cmpR op_ne (pe_bm PySem.F.plainAttrs_list PySem.F.slot_list_count PySem.F.type_list_count (mt_countD (huH hr)) (pv 2) (pa_cons pe_bl pa_nil)) pe_int (nomark _)) (pw_or (pt_not (pt_val (pe_callB (call_isP (a := a) (oe := oe) List.mem_cons_self hz hf) (by rfl) T.n_isinstance PyProof.Rows.boot_isinstance (pa_cons (pv 0) (pa_cons (pe_bltn (v := .ty "ValueError") (by rfl) T.n_ValueError PyProof.Rows.Boot.«ValueError» rfl) pa_nil))))) (pw_or1 (pt_val (pe_callB (call_isPT (a := a) (oe := oe) List.mem_cons_self hz hf) (by rfl) T.n_isinstance PyProof.Rows.boot_isinstance (pa_cons (pv 0) (pa_cons (pe_tup (pa_cons (pe_gcls T.m_NoPlace rfl) (pa_cons (pe_gcls T.m_NoSlot rfl) pa_nil))) pa_nil))))))))
 (pss_one (ps_ret pe_str))
 pss_nil)
 (pss_one (ps_ret (pe_ix ix_list (pv 1) (pe_bm PySem.F.plainAttrs_list PySem.F.slot_list_index PySem.F.type_list_index (mt_indexD (huH hr)) (pv 2) (pa_cons pe_bl pa_nil)) (fun _ _ => rfl))))))))))), ?_⟩
    wtm_at "w0"
    wtm_at "wp"
    rename_i p1 n1 H1 s1 h1 p2 n2 H2 s2 h2 p3 H3 n3 s3 h3 p4 n4 H4 s4 h4 p5 n5 H5 s5 h5 p6 H6 n6 s6 h6 p7 n7 H7 s7 h7 p8 H8 n8 s8 h8 p9 n9 H9 s9 h9 p10 H10 n10 s10 h10
    refine w_countT (n := 1) [decide (0 = i), decide (1 = i), decide (2 = i), decide (3 = i), decide (4 = i), decide (5 = i), decide (6 = i), decide (7 = i), decide (8 = i), decide (9 = i), decide (10 = i), decide (11 = i), decide (12 = i), decide (13 = i), decide (14 = i), decide (15 = i)] rfl (.of h10) (cnt16 hi) ?_
    wtm_at "wp"
    rename_i p11 n11 H11 s11 h11
    have hS : SqL K H11 p10 _ := .of (s11 _ _ h10)
    refine w_indexT (j := i) [decide (0 = i), decide (1 = i), decide (2 = i), decide (3 = i), decide (4 = i), decide (5 = i), decide (6 = i), decide (7 = i), decide (8 = i), decide (9 = i), decide (10 = i), decide (11 = i), decide (12 = i), decide (13 = i), decide (14 = i), decide (15 = i)] rfl hS (idx16 hi) (fun m hm => bef16 hi m hm) ?_
    have hN : SqL K H11 p3 (kindNames.map V.str) := .of (s11 _ _ (s10 _ _ (s9 _ _ (s8 _ _ (s7 _ _ (s6 _ _ (s5 _ _ (s4 _ _ h3))))))))
    refine w_ixL hN (nam16 hn) ?_
    exact k _ (s1.trans (s2.trans (s3.trans (s4.trans (s5.trans (s6.trans (s7.trans (s8.trans (s9.trans (s10.trans s11))))))))))
theorem how_gives {X : Cx} {Z : Zs} {C_Page : Addr} (T : Txt X.K X.mg Z C_Page) (f__law_kind : FnP X.prog X.w X.K X.mg X.base "_law_kind" 1 ["_law_e"] (spKind X.K Z)) (hr : Room 2 X.A) {g : Addr} {cdg : Value} {q : Str} :
    LamX.GivesTo X ["_law_deed", "_law_e"] "_law_how" (defScope s_law_how) g cdg (defBody s_law_how) "_law_deed" q (TTHow X.K Z) := by
  intro f c' s H Q tl act hc h
  have hrH : ∀ a : Addr, L2H.RoomH 1 ((X.A.deeper (PyProof.Rows.envOfC "_law_how" (defScope s_law_how) s.heap.objs.size g cdg)).mark (some (.ref a))) := fun a => roomH_mark (hr.deeper _)
  refine ⟨_, pss_cons (ps_try_mas (X := (cxOf C8.CX0 X.prog X.w X.K X.mg X.base ["_law_deed", "_law_e"] "_law_how" (defScope s_law_how) g cdg X.A X.stack s H C8.E0).nox)
      (tb := fun W D σ H => ∃ Ech : XK, (∀ cls d (σ' : L2.St) H', σ'.length = 2 → Ech cls d H' → W cls d σ' H') ∧ σ[0]? = some (some (.ref f)) ∧ H c' = some (LamX.CodeO c' q) ∧ tl Ech H (fun _ H' => D.nx σ H'))
      rfl rfl (show List.Nodup _ from sc_law_how.nd) takes0 ?hsz (fun W pn xe tk _ => ?hb)
      (.cons (.tup (.cons ⟨rfl, by decide, .inl T.m_NoCode⟩ (.cons ⟨rfl, by decide, .inl T.m_NoEntries⟩ (.cons ⟨rfl, by decide, .inl T.m_NoPages⟩ (.cons ⟨rfl, by decide, .inl T.m_NoQueryText⟩ (.cons ⟨rfl, by decide, .inl T.m_NoRow⟩ .nil)))))) (i := 1) rfl rfl
        pss_any
      (.cons (.one ⟨rfl, by decide, .inl T.m_Wrong⟩) (i := 1) rfl rfl
        pss_any
      (.cons (.tup (.cons ⟨rfl, by decide, .inl T.m_NoPlace⟩ (.cons ⟨rfl, by decide, .inl T.m_NoSlot⟩ .nil))) (i := 1) rfl rfl
        pss_any .nil)))) (pss_one (ps_ret pe_str)), ?_⟩
  case hsz =>
    intro x hx
    simp only [List.mem_cons, List.not_mem_nil, or_false] at hx
    rcases hx with rfl | rfl | rfl <;> simp
  case hb =>
    refine ⟨fun pins s' σ H' D I h' => ?_⟩
    obtain ⟨Ech, hW, h1, h2, h3⟩ := h'
    exact (pss_one (ps_expr (act _ pn xe Ech _ _ (takes_len tk) (fun cls d σ' H' e hl => hW cls d σ' H' hl e)))).run pins s' σ H' D I ⟨h1, h2, h3⟩
  · refine ⟨howE X.K Z Q, fun cls d σ' H' hl hw => ?_, rfl, hc, h⟩
    obtain ⟨x0, x1, rfl⟩ := two_of hl
    obtain ⟨D, rfl, hw | hw | hw⟩ := hw
    · obtain ⟨i, nm, hp, hn, hx, k⟩ := hw
      refine ⟨false, hp.c1, fun z => Bool.noConfusion z, fun _ => ⟨true, hp.c2, fun _ a na => fun oe pn hz hf => ⟨_, (pss_one (ps_ret (pe_fp (a := a) (oe := oe) f__law_kind List.mem_cons_self hz hf (hrH _) rfl (pa_cons (pv 1) pa_nil)))), ?_⟩, fun z => Bool.noConfusion z⟩⟩
      wtm_at "w0"
      wtm_at "wp"
      intro oe hz hf
      exact ⟨D, d, i, nm, rfl, hz, hf, hp.k, hx, hn, k⟩
    · obtain ⟨i, nm, dd, v, tv, hp, hn, rfl, hd, ht, hb, k⟩ := hw
      have hE := hp.k.ex
      have hno := hp.no
      refine ⟨true, hp.c1, fun _ a na => fun oe pn hz hf => ⟨_, (pss_cons (ps_if (pt_val (pe_callB call_isi (by rfl) T.n_isinstance PyProof.Rows.boot_isinstance (pa_cons (pe_xfc (a := a) (oe := oe) List.mem_cons_self hz hf (pv 1)) (pa_cons (pe_bltn (v := .ty "bool") (by rfl) T.n_bool PyProof.Rows.boot_bool rfl) pa_nil))))
 (pss_one (ps_ret pe_str))
 pss_nil)
 (pss_one (ps_ret (pe_tup (pa_cons (pe_fp (a := a) (oe := oe) f__law_kind List.mem_cons_self hz hf (hrH _) rfl (pa_cons (pv 1) pa_nil)) (pa_cons (pe_xfc (a := a) (oe := oe) List.mem_cons_self hz hf (pv 1)) pa_nil)))))), ?_⟩, fun z => Bool.noConfusion z⟩
      wtm_at "w0"
      wtm_at "wp"
      refine w_isiB ht hb ?_
      wtm_at "wp"
      intro oe hz hf
      refine ⟨D, _, i, nm, rfl, hz, hf, hp.k, xdOk_at hd, hn, fun H1 s1 => ?_⟩
      have hd1 := s1 _ _ hd
      wtm_at "wp"
      rename_i p n2 H2 s2 h2
      exact k p H2 (same_free s1 n2) (s1.trans s2) h2
    · obtain ⟨b, hp, hx, k⟩ := hw
      have hE := hp.ex
      have h1 := hp.ie
      have h2 := hp.np
      have h3 := hp.ns
      refine ⟨false, hp.c1, fun z => Bool.noConfusion z, fun _ => ⟨false, hp.c2, fun z => Bool.noConfusion z, fun _ => ⟨true, hp.c3, fun _ a na => fun oe pn hz hf => ⟨_, (pss_cons (ps_if (PW.pt (pw_or (pt_not (pt_val (pe_callB (call_isP (a := a) (oe := oe) List.mem_cons_self hz hf) (by rfl) T.n_isinstance PyProof.Rows.boot_isinstance (pa_cons (pv 1) (pa_cons (pe_bltn (v := .ty "IndexError") (by rfl) T.n_IndexError PyProof.Rows.Boot.«IndexError» rfl) pa_nil))))) (pw_or1 (pt_cmpR op_eq (pe_callB (call_isP (a := a) (oe := oe) List.mem_cons_self hz hf) (by rfl) T.n_isinstance PyProof.Rows.boot_isinstance (pa_cons (pv 1) (pa_cons (pe_gcls T.m_NoPlace rfl) pa_nil))) (pe_callB (call_isP (a := a) (oe := oe) List.mem_cons_self hz hf) (by rfl) T.n_isinstance PyProof.Rows.boot_isinstance (pa_cons (pv 1) (pa_cons (pe_gcls T.m_NoSlot rfl) pa_nil))) (nomark _)))))
 (pss_one (ps_ret pe_str))
 pss_nil)
 (pss_one (ps_ret (pe_ix ix_list (pe_lst (pa_cons pe_str (pa_cons pe_str pa_nil))) (pe_callTy cl_int (by rfl) T.n_int PyProof.Rows.boot_int (pa_cons (pe_callB (call_isP (a := a) (oe := oe) List.mem_cons_self hz hf) (by rfl) T.n_isinstance PyProof.Rows.boot_isinstance (pa_cons (pv 1) (pa_cons (pe_gcls T.m_NoPlace rfl) pa_nil))) pa_nil)) (fun _ _ => rfl))))), ?_⟩, fun z => Bool.noConfusion z⟩⟩⟩
      wtm_at "w0"
      cases b <;> (wtm_at "wp"; exact k _ (by assumption))
theorem how_asks {g : Addr} {fd : FuncData} (T : Txt K mg Z C_Page) (F : Fun K "_law_how" "_law_how" s_law_how g fd) (hm : mg "_law_how" = some (.ref g)) (hb : L2.Binds K fd ["_law_deed"] []) (f__law_kind : FnP P w K mg base "_law_kind" 1 ["_law_e"] (spKind K Z)) :
    Asks P w K mg base "_law_how" "_law_deed" ["_law_deed", "_law_e"] s_law_how 2 (TTHow K Z) := by
  refine ⟨⟨g, fd, F, hm, hb⟩, sc_law_how, rfl, .inl rfl, fun X e1 e2 e3 e4 e5 hr g cdg q => ?_⟩
  subst e1 e2 e3 e4 e5
  exact how_gives T f__law_kind hr
end

section
variable {P : Program} {w : World} {K : PySem.W.Frag} {mg : Str → Option Value} {base : Heap} {Z : Zs} {C_Page : Addr}
abbrev s_is_whole : Stmt := topS 24
theorem sc_is_whole : FnScope ["thing"] ["thing"] (defScope s_is_whole) := ⟨rfl, rfl, rfl, by decide +kernel, rfl, by decide +kernel, by decide +kernel⟩
abbrev s_is_word : Stmt := topS 25
theorem sc_is_word : FnScope ["thing", "sign"] ["thing"] (defScope s_is_word) := ⟨rfl, rfl, rfl, by decide +kernel, rfl, by decide +kernel, by decide +kernel⟩
abbrev s_look_words : Stmt := topS 27
theorem sc_look_words : FnScope ["words", "word"] ["words"] (defScope s_look_words) := ⟨rfl, rfl, rfl, by decide +kernel, rfl, by decide +kernel, by decide +kernel⟩
abbrev s_words_of : Stmt := topS 28
theorem sc_words_of : FnScope ["text", "words"] ["text"] (defScope s_words_of) := ⟨rfl, rfl, rfl, by decide +kernel, rfl, by decide +kernel, by decide +kernel⟩
/-! ### words: nothing is refused here -/
def spWord (K : PySem.W.Frag) : Sp := fun vs H Q _ => ∃ v, vs = [v] ∧ TxtV H v ∧ ∀ H', Same H H' → Q (.bl (isWV v)) H'
theorem ok_is_word {f : Addr} {fd : FuncData} (F : Fun K "is_word" "is_word" s_is_word f fd) (T : Txt K mg Z C_Page) : FnOk P w K mg base CX0 1 f fd ["thing"] (spWord K) := by
  refine F.ok sc_is_word (fun vs H Q E h => ?_) (fun cdv A outer s H vs Q E hr h => ?_)
  · obtain ⟨v, rfl, _⟩ := h
    rfl
  · obtain ⟨v, rfl, hv, k⟩ := h
    have k' : ∀ {b : Bool}, isWV v = b → ∀ H', Same H H' → Q (.bl b) H' := fun e H' s => e ▸ k H' s
    refine ⟨_, (pss_one (ps_ret (pe_and (pe_callB call_isi (by rfl) T.n_isinstance PyProof.Rows.boot_isinstance (pa_cons (pv 0) (pa_cons (pe_bltn (v := .ty "str") (by rfl) T.n_str PyProof.Rows.boot_str rfl) pa_nil))) (pe_and (pe_chain op_le op_le pe_int (pe_callB cl_len (by rfl) T.n_len PySem.boot_len (pa_cons (pv 0) pa_nil)) (pe_gint T.c_LONGEST rfl)) (pe_one (pe_callB (cr_all rfl) (by rfl) T.n_all PyProof.Rows.boot_all (pa_cons (pe_lc (own := [("sign", 1)]) (g := gName 1) (tt := tYes) rfl sc_is_word.nd (pi_str (pv 0)) (blkOk_by (own := [("sign", 1)]) (N := ["thing", "sign"]) (sc := defScope s_is_word) (by decide +kernel)) (fun _ _ _ _ _ => pg_name (i := 1) sc_is_word.nd rfl (Or.inl rfl)) (fun _ _ _ _ _ => pts_nil) (fun _ _ _ _ _ => (pe_cmpR op_inS (pv 1) (pe_gstr T.c_LETTERS rfl) (by rfl)))) pa_nil))))))), ?_⟩
    wtm_at "w0"
    rcases hv with ⟨x, rfl, hx⟩ | ho
    · wtm_at "wp"
      have e0 : isWV (.str x) = (decide (1 ≤ x.length ∧ x.length ≤ 12) && x.cps.toList.all fun c => decide (c ∈ abc.cps.toList)) := rfl
      refine w_dec (fun h1 => ?_) (fun h1 => ?_)
      · wtm_at "wp"
        refine w_dec (fun h2 => ?_) (fun h2 => ?_)
        · wtm_at "wp"
          dsimp only
          refine lc_fin fin_str (fun i acc H' => Same H H' ∧ acc = ((x.cps.toList.take i).map fun c => decide (c ∈ abc.cps.toList)).map V.bl) (fun D H2 nD s2 hD => ⟨s2, rfl⟩) (fun _ _ _ _ _ => trivial) ?_ ?_
          · rintro D i v acc H3 H4 nD hi ha ⟨s3, e3⟩ hD ⟨rfl, c, hc, rfl⟩
            wtm_at "wp"
            refine ⟨rfl, ?_⟩
            wtm_at "wp"
            refine w_acc hD ha hi (sz (by have : x.cps.size = x.length := rfl; omega)) (fun H5 k5 h5 => ⟨k5.same s3 nD, ?_⟩)
            rw [e3, take_succ hc]
            simp
            try rfl
          · rintro D acc H3 nD ⟨s3, e3⟩ ha hD
            wtm_at "wp"
            refine w_all e3 (.of hD) (k' ?_ _ s3)
            rw [e0, decide_eq_true ⟨by omega, by omega⟩, Bool.true_and, take_size, List.all_map]
            rfl
        · wtm_at "wp"
          refine k' ?_ _ (.refl _)
          rw [e0, decide_eq_false (fun z => by omega), Bool.false_and]
      · wtm_at "wp"
        refine k' ?_ _ (.refl _)
        rw [e0, decide_eq_false (fun z => by omega), Bool.false_and]
    · obtain ⟨nx, tv, ht, hk⟩ := ho.ty (K := K)
      wtm_at "wp"
      refine w_isiB ht hk ?_
      wtm_at "wp"
      have e0 : isWV v = false := by
        cases v <;> first | rfl | exact absurd rfl (nx _)
      rw [e0] at k
      exact k _ (.refl _)
def isInt : V → Bool
  | .int _ => true
  | _ => false
def spWhole : Sp := fun vs H Q _ => ∃ v, vs = [v] ∧ Thg H v ∧ Q (.bl (isInt v)) H
theorem ok_whole {f : Addr} {fd : FuncData} (F : Fun K "is_whole" "is_whole" s_is_whole f fd) (T : Txt K mg Z C_Page) : FnOk P w K mg base CX0 1 f fd ["thing"] spWhole := by
  refine F.ok sc_is_whole (fun vs H Q E h => ?_) (fun cdv A outer s H vs Q E hr h => ?_)
  · obtain ⟨v, rfl, _⟩ := h
    rfl
  · obtain ⟨v, rfl, hv, k⟩ := h
    refine ⟨_, (pss_one (ps_ret (pe_and (pe_callB call_isi (by rfl) T.n_isinstance PyProof.Rows.boot_isinstance (pa_cons (pv 0) (pa_cons (pe_bltn (v := .ty "int") (by rfl) T.n_int PyProof.Rows.boot_int rfl) pa_nil))) (pe_one (pe_not (pe_callB call_isi (by rfl) T.n_isinstance PyProof.Rows.boot_isinstance (pa_cons (pv 0) (pa_cons (pe_bltn (v := .ty "bool") (by rfl) T.n_bool PyProof.Rows.boot_bool rfl) pa_nil)))))))), ?_⟩
    wtm_at "w0"
    cases hv <;> (wtm_at "wp"; exact k)
def spLookN (K : PySem.W.Frag) : Sp := fun vs H Q _ => ∃ (a : Addr) (ws : List Str), vs = [.ref a] ∧ H a = some (.lst (ws.map V.str)) ∧ okWs ws = true ∧ ∀ H', Same H H' → Q .non H'
theorem ok_lookN {f : Addr} {fd : FuncData} (F : Fun K "look_words" "look_words" s_look_words f fd) (T : Txt K mg Z C_Page) (f_is_word : Fn P w K mg base "is_word" 1 ["thing"] (spWord K)) : FnOk P w K mg base CX0 2 f fd ["words"] (spLookN K) := by
  refine F.ok sc_look_words (fun vs H Q E h => ?_) (fun cdv A outer s H vs Q E hr h => ?_)
  · obtain ⟨a, ws, rfl, _⟩ := h
    rfl
  · obtain ⟨a, ws, rfl, hS, hok, k⟩ := h
    have hall := okWs_all hok
    obtain ⟨b1, b2, b3⟩ := ok_bounds hok
    have hlen : (ws.map V.str).length = ws.length := List.length_map ..
    refine ⟨_, (pss_one (ps_if (PW.pt (pw_or (pt_not (pt_val (pe_callB call_isi (by rfl) T.n_isinstance PyProof.Rows.boot_isinstance (pa_cons (pv 0) (pa_cons (pe_bltn (v := .ty "list") (by rfl) T.n_list PyProof.Rows.boot_list rfl) pa_nil))))) (pw_or (pt_cmpR op_gt (pe_callB cl_len (by rfl) T.n_len PySem.boot_len (pa_cons (pv 0) pa_nil)) (pe_gint T.c_MOST rfl) (nomark _)) (pw_or1 (pt_not (pt_val (pe_callB (cr_all rfl) (by rfl) T.n_all PyProof.Rows.boot_all (pa_cons (pe_lc (own := [("word", 1)]) (g := gName 1) (tt := tYes) rfl sc_look_words.nd (show PI _ _ _ (iList K _) from (pi_list (pv 0))) (blkOk_by (own := [("word", 1)]) (N := ["words", "word"]) (sc := defScope s_look_words) (by decide +kernel)) (fun _ _ _ _ _ => pg_name (i := 1) sc_look_words.nd rfl (Or.inl rfl)) (fun _ _ _ _ _ => pts_nil) (fun _ _ _ _ _ => (pe_fn f_is_word (hr.mono (by omega)) rfl (pa_cons (pv 1) pa_nil)))) pa_nil))))))))
 (pss_one (ps_never))
 pss_nil)), ?_⟩
    wtm_at "w0"
    wtm_at "wp"
    refine iteF' (decide_eq_false (by rw [hlen]; omega)) ?_
    wtm_at "wp"
    refine lc_fin (fin_list (xs := ws.map V.str)) (fun i acc H' => Same H H' ∧ acc = ((ws.take i).map isW).map V.bl) (fun D H2 nD s2 hD => ⟨s2, rfl⟩) (fun i acc H2 _ h => .of (h.1 _ _ hS)) ?_ ?_
    · rintro D i v acc H3 H4 nD hi ha ⟨s3, e3⟩ hD ⟨rfl, hv⟩
      rw [List.getElem?_map] at hv
      obtain ⟨y, hxw, rfl⟩ := Option.map_eq_some_iff.mp hv
      have hy := b2 y (List.mem_of_getElem? hxw)
      wtm_at "wp"
      refine ⟨rfl, ?_⟩
      wtm_at "wp"
      refine ⟨.str y, rfl, .inl ⟨y, rfl, by omega⟩, fun H5 s5 => ?_⟩
      refine w_acc (s5 _ _ hD) ha hi (sz (by rw [hlen]; omega)) (fun H6 k6 h6 => ⟨k6.same (s3.trans s5) nD, ?_⟩)
      rw [e3, take_succL hxw]
      simp
      try rfl
    · rintro D acc H3 nD ⟨s3, e3⟩ ha hD
      wtm_at "wp"
      refine w_all e3 (.of hD) ?_
      wtm_at "wp"
      have e1 : ((((ws.take (ws.map V.str).length).map isW)).all id) = true := by
        rw [List.all_eq_true]
        intro b hb
        obtain ⟨y, hy, rfl⟩ := List.mem_map.mp hb
        exact hall y (List.mem_of_mem_take hy)
      rw [e1]
      wtm_at "wp"
      exact k _ s3
def spWordsN (K : PySem.W.Frag) : Sp := fun vs H Q _ => ∃ x : Str, vs = [.str x] ∧ x.length ≤ 40000 ∧ okWs (wsOf x) = true ∧ ∀ p H', H p = none → Same H H' → H' p = some (.lst ((wsOf x).map V.str)) → Q (.ref p) H'
theorem ok_wordsN {f : Addr} {fd : FuncData} (F : Fun K "words_of" "words_of" s_words_of f fd) (T : Txt K mg Z C_Page) (f_look_words : Fn P w K mg base "look_words" 2 ["words"] (spLookN K)) : FnOk P w K mg base CX0 3 f fd ["text"] (spWordsN K) := by
  refine F.ok sc_words_of (fun vs H Q E h => ?_) (fun cdv A outer s H vs Q E hr h => ?_)
  · obtain ⟨x, rfl, _⟩ := h
    rfl
  · obtain ⟨x, rfl, hx, hok, k⟩ := h
    refine ⟨_, (pss_cons (ps_if (pt_not (pt_val (pe_callB call_isi (by rfl) T.n_isinstance PyProof.Rows.boot_isinstance (pa_cons (pv 0) (pa_cons (pe_bltn (v := .ty "str") (by rfl) T.n_str PyProof.Rows.boot_str rfl) pa_nil)))))
 (pss_one (ps_never))
 pss_nil)
 (pss_cons (ps_set (i := 1) sc_words_of.nd rfl (.inl rfl) (pe_ifExp (pt_cmpR op_eq (pv 0) pe_str (nomark _)) (pe_lst pa_nil) (pe_split (pv 0) pe_str)))
 (pss_cons (ps_expr (pe_fn f_look_words (hr.mono (by omega)) rfl (pa_cons (pv 1) pa_nil)))
 (pss_one (ps_ret (pv 1)))))), ?_⟩
    wtm_at "w0"
    wtm_at "wp"
    refine w_dec (fun h1 => ?_) (fun h1 => ?_)
    · have e1 : x = "" := V.str.inj h1
      have e2 : wsOf x = [] := if_pos e1
      rw [e2] at k hok
      wtm_at "wp"
      rename_i p n1 H1 s1 hp
      refine ⟨p, [], rfl, hp, hok, fun H2 s2 => ?_⟩
      wtm_at "wp"
      exact k p H2 n1 (s1.trans s2) (s2 _ _ hp)
    · have e1 : x ≠ "" := fun z => h1 (by rw [z])
      have e2 : wsOf x = Txt.split x " " := if_neg e1
      wtm_at "wp"
      refine w_split rfl (Nat.le_trans (by omega : x.length + 2 ≤ 100000) (by decide)) (fun p H1 n1 s1 hp => ?_)
      rw [← e2] at hp
      wtm_at "wp"
      refine ⟨p, _, rfl, hp, hok, fun H2 s2 => ?_⟩
      wtm_at "wp"
      exact k p H2 n1 (s1.trans s2) (s2 _ _ hp)
abbrev s_look_word : Stmt := topS 26
theorem sc_look_word : FnScope ["thing"] ["thing"] (defScope s_look_word) := ⟨rfl, rfl, rfl, by decide +kernel, rfl, by decide +kernel, by decide +kernel⟩
def spLook1N (K : PySem.W.Frag) : Sp := fun vs H Q _ => ∃ x : Str, vs = [.str x] ∧ isW x = true ∧ ∀ H', Same H H' → Q .non H'
theorem ok_look1N {f : Addr} {fd : FuncData} (F : Fun K "look_word" "look_word" s_look_word f fd) (T : Txt K mg Z C_Page) (f_is_word : Fn P w K mg base "is_word" 1 ["thing"] (spWord K)) : FnOk P w K mg base CX0 2 f fd ["thing"] (spLook1N K) := by
  refine F.ok sc_look_word (fun vs H Q E h => ?_) (fun cdv A outer s H vs Q E hr h => ?_)
  · obtain ⟨x, rfl, _⟩ := h
    rfl
  · obtain ⟨x, rfl, hx, k⟩ := h
    have hl := isW_len hx
    refine ⟨_, (pss_one (ps_if (pt_not (pt_val (pe_fn f_is_word (hr.mono (by omega)) rfl (pa_cons (pv 0) pa_nil))))
 (pss_one (ps_never))
 pss_nil)), ?_⟩
    wtm_at "w0"
    wtm_at "wp"
    refine ⟨_, rfl, .inl ⟨x, rfl, by omega⟩, fun H1 s1 => ?_⟩
    have e : isWV (.str x) = true := hx
    rw [e]
    wtm_at "wp"
    exact k _ s1

abbrev s_Page___init__ : Stmt := inClass (topS 31) 0
theorem sc_Page___init__ : FnScope ["self", "number", "text", "place", "word"] ["self", "number", "text"] (defScope s_Page___init__) := ⟨rfl, rfl, rfl, by decide +kernel, rfl, by decide +kernel, by decide +kernel⟩
/-! ### pages -/
/-- what the dict of the places holds -/
def Stands (H : Hp) (s : Addr) (ws : List Str) : Prop := ∃ (kvs : List (Key × V)) (M : Str → Option Addr), H s = some (.dK kvs) ∧ kvs.length ≤ ws.length ∧ (∀ w, valV kvs (.inr w) = (M w).map V.ref) ∧ (∀ w, w ∉ ws → M w = none) ∧ (∀ w ∈ ws, ∃ q, M w = some q ∧ H q = some (.lst ((plc ws w).map fun n : Nat => V.int n))) ∧ (∀ u w q, M u = some q → M w = some q → u = w)
/-- a page -/
structure PgF (C : Addr) (H : Hp) (r : Addr) (i : Int) (x : Str) : Prop where
  ex : ∃ d h s, H r = some (.ins C d [("number", .int i), ("held", .ref h), ("text", .str x), ("stands", .ref s)]) ∧ H h = some (.lst ((wsOf x).map V.str)) ∧ Stands H s (wsOf x)
theorem Stands.same {H H' : Hp} {s : Addr} {ws : List Str} (h : Stands H s ws) (e : Same H H') : Stands H' s ws := by
  obtain ⟨kvs, M, h1, h2, h3, h4, h5, h6⟩ := h
  exact ⟨kvs, M, e _ _ h1, h2, h3, h4, fun w hw => by obtain ⟨q, a, b⟩ := h5 w hw; exact ⟨q, a, e _ _ b⟩, h6⟩
theorem PgF.same {C : Addr} {H H' : Hp} {r : Addr} {i : Int} {x : Str} (h : PgF C H r i x) (e : Same H H') : PgF C H' r i x := by
  obtain ⟨d, a, s, h1, h2, h3⟩ := h.ex
  exact ⟨d, a, s, e _ _ h1, e _ _ h2, h3.same e⟩
def spPageN (C : Addr) : Sp := fun vs H Q _ => ∃ (r d : Addr) (i : Int) (x : Str), vs = [.ref r, .int i, .str x] ∧ H r = some (.ins C d []) ∧ 1 ≤ i ∧ i ≤ 9999 ∧ x.length ≤ 40000 ∧ okWs (wsOf x) = true ∧
  ∀ H', KB r H H' → PgF C H' r i x → (∀ (S : Addr → Prop) H'', (∀ q, S q → q ≠ r ∧ H q ≠ none) → (∀ c o, H' c = some o → ¬ S c → H'' c = some o) → PgF C H'' r i x) → Q .non H'
theorem ok_pageN {f : Addr} {fd : FuncData} (F : FunD K "__init__" "Page.__init__" (defArgs s_Page___init__) (defBody s_Page___init__) (defScope s_Page___init__) [.str ""] [] f fd) (T : Txt K mg Z C_Page) (f_is_whole : Fn P w K mg base "is_whole" 1 ["thing"] spWhole) (f_words_of : Fn P w K mg base "words_of" 3 ["text"] (spWordsN K)) : FnOk P w K mg base CX0 5 f fd ["self", "number", "text"] (spPageN C_Page) := by
  have c1 := T.cl_Page
  have n1 := T.na_Page_number
  have n2 := T.na_Page_held
  have n3 := T.na_Page_text
  have n4 := T.na_Page_stands
  refine F.ok sc_Page___init__ (fun vs H Q E h => ?_) (fun cdv A outer s H vs Q E hr h => ?_)
  · obtain ⟨r, d, i, x, rfl, _⟩ := h
    rfl
  · obtain ⟨r, d, i, x, rfl, hrr, hi1, hi2, hxl, hok, k⟩ := h
    refine ⟨_, PSs.nox (pss_cons (ps_if (PW.pt (pw_or (pt_not (pt_val (pe_fn f_is_whole (hr.mono (by omega)) rfl (pa_cons (pv 1) pa_nil)))) (pw_or1 (pt_not (pt_chain op_le op_le pe_int (pv 1) (pe_gint T.c_MOST_NUMBER rfl))))))
 (pss_one (ps_never))
 pss_nil)
 (pss_cons (ps_fld (pv 0) (pv 1) rfl)
 (pss_cons (ps_fld (pv 0) (pe_fn f_words_of (hr.mono (by omega)) rfl (pa_cons (pv 2) pa_nil)) rfl)
 (pss_cons (ps_fld (pv 0) (pv 2) rfl)
 (pss_cons (ps_fld (pv 0) pe_dnewK rfl)
 (pss_one (ps_for PassesOwn.never rfl (pi_enum (by rfl) T.n_enumerate (pa_cons (pe_fld (pv 0) rfl) pa_nil)) (pg_tup rfl (pgs_cons (pg_name (i := 3) sc_Page___init__.nd rfl (.inl rfl)) (pgs_cons (pg_name (i := 4) sc_Page___init__.nd rfl (.inl rfl)) pgs_nil)))
 (pss_one (ps_expr (pe_bm PySem.F.plainAttrs_list PySem.F.slot_list_append PySem.F.type_list_append mt_append (pe_dsetd (pe_fld (pv 0) rfl) (pv 4) (pe_lst pa_nil) ⟨rfl, rfl, rfl, rfl⟩) (pa_cons (pv 3) pa_nil))))))))))), ?_⟩
    wtm_at "w0"
    wtm_at "wp"
    refine ⟨_, rfl, .int i, ?_⟩
    wtm_at "wp"
    refine iteT' (decide_eq_true hi1) ?_
    wtm_at "wp"
    refine iteF' (by rw [decide_eq_true hi2]; rfl) ?_
    wtm_at "wp"
    rename_i H1 kb1 e1
    refine ⟨x, rfl, hxl, hok, fun hh H2 nh s2 hh2 => ?_⟩
    have nr : ∀ {H' : Hp} {o : HO} {q : Addr}, KB r H H' → H' r = some o → H' q = none → H q = none := fun kb hr nq => kb_newD kb hr nq
    have hlen := (ok_bounds hok).1
    have hr2 := s2 _ _ e1
    have kb2' : KB r H H2 := kb1.trans (KB.of s2)
    wtm_at "wp"
    rename_i H3 kb3 e3 H4 kb4 e4
    refine w_dnewK (fun sd H5 nsd s5 hsd => ?_)
    have hr5 := s5 _ _ e4
    have nhr : hh ≠ r := fun z => by rw [z, e1] at nh; cases nh
    have hh5 := s5 _ _ (kb4 _ _ (kb3 _ _ hh2 nhr) nhr)
    have kb5 : KB r H H5 := kb2'.trans ((kb3.trans kb4).trans (KB.of s5))
    have nsr : sd ≠ r := fun z => by rw [z, e4] at nsd; cases nsd
    have nsh : sd ≠ hh := fun z => by rw [z, kb4 _ _ (kb3 _ _ hh2 nhr) nhr] at nsd; cases nsd
    have nsd0 : H sd = none := nr (kb2'.trans (kb3.trans kb4)) e4 nsd
    clear kb3 kb4 e3 e4 s5 nsd hr2 kb2'
    wtm_at "wp"
    rename_i H6 kb6 e6
    have hh6 := kb6 _ _ hh5 nhr
    have hsd6 := kb6 _ _ hsd nsr
    have kbH6 : KB r H H6 := kb5.trans kb6
    refine for_fin (fin_enum (xs := (wsOf x).map V.str)) (fun j σ H' => ∃ (v3 v4 : Option V) (kvs : List (Key × V)) (M : Str → Option Addr), σ = [some (.ref r), some (.int i), some (.str x), v3, v4] ∧ (∀ c o, H6 c = some o → c ≠ sd → H' c = some o) ∧ H' sd = some (.dK kvs) ∧ kvs.length ≤ j ∧
      (∀ w, valV kvs (.inr w) = (M w).map V.ref) ∧ (∀ w, w ∉ (wsOf x).take j → M w = none) ∧ (∀ w ∈ (wsOf x).take j, ∃ q, M w = some q ∧ H' q = some (.lst ((plc ((wsOf x).take j) w).map fun n : Nat => V.int n)) ∧ H6 q = none) ∧ (∀ u w q, M u = some q → M w = some q → u = w))
      ⟨_, _, [], fun _ => none, rfl, fun c o h _ => h, hsd6, by simp, fun w => rfl, fun w _ => rfl, fun w hw => absurd hw (by simp), fun u w q h => by cases h⟩ (fun j σ H' _ h => by obtain ⟨_, _, _, _, _, h, _⟩ := h; exact .of (h _ _ hh6 nsh.symm)) ?_ ?_
    · rintro j y σ H7 H7' hj ⟨v3, v4, kvs, M, rfl, kp7, hsd7, hkl, hM, hM0, hM1, hMi⟩ ⟨t, wd, rfl, nt, st, ht, hwd⟩
      rw [List.length_map] at hj
      rw [List.getElem?_map] at hwd
      obtain ⟨ww, hww, rfl⟩ := Option.map_eq_some_iff.mp hwd
      have hr7 := st _ _ (kp7 _ _ e6 (Ne.symm nsr))
      have hsd7' := st _ _ hsd7
      have htk : (wsOf x).take (j + 1) = (wsOf x).take j ++ [ww] := take_succL hww
      have htl : ((wsOf x).take j).length = j := by rw [List.length_take]; omega
      wtm_at "wp"
      refine w_dsetd ?_
      wtm_at "wp"
      refine w_dset1 hsd7' ?_
      wtm_at "wp"
      rename_i q nq H8 s8 hq
      have hsd8 := s8 _ _ hsd7'
      have S8 := st.trans s8
      have kp8 : ∀ c o, H6 c = some o → c ≠ sd → H8 c = some o := fun c o h n => S8 _ _ (kp7 c o h n)
      have nqs : q ≠ sd := fun z => by rw [z, hsd7'] at nq; cases nq
      have nq6 : H6 q = none := by
        cases e : H6 q with
        | none => rfl
        | some o =>
          rw [st _ _ (kp7 _ _ e nqs)] at nq
          cases nq
      have nM : ∀ w p, M w = some p → H8 p ≠ none ∧ p ≠ sd ∧ p ≠ q ∧ H6 p = none := fun w p hp => by
        have hw : w ∈ (wsOf x).take j := Classical.byContradiction fun z => by rw [hM0 w z] at hp; cases hp
        obtain ⟨q', a, b, c⟩ := hM1 w hw
        rw [hp] at a
        cases a
        refine ⟨by rw [S8 _ _ b]; simp, fun z => ?_, fun z => ?_, c⟩
        · rw [z, hsd6] at c
          cases c
        · rw [← z, st _ _ b] at nq
          cases nq
      refine ⟨kvs, .inr ww, hsd8, rfl, Nat.lt_of_le_of_lt (by omega : _ ≤ 1000) (by decide), fun v hval => ?_, fun hval => ?_⟩
      · rw [hM ww] at hval
        obtain ⟨p, hp, rfl⟩ := Option.map_eq_some_iff.mp hval
        have hw : ww ∈ (wsOf x).take j := Classical.byContradiction fun z => by rw [hM0 ww z] at hp; cases hp
        obtain ⟨q', a, b, c⟩ := hM1 ww hw
        rw [hp] at a
        cases a
        have b8 := S8 _ _ b
        obtain ⟨_, nps, _, _⟩ := nM ww p hp
        wtm_at "wp"
        refine w_append b8 (Nat.lt_of_le_of_lt (by rw [List.length_map]; exact Nat.le_trans (plc_len _ _) (by rw [htl]; omega : _ ≤ 1000)) (by decide)) (fun H9 k9 h9 => ?_)
        refine ⟨_, _, kvs, M, rfl, fun c' o h n => k9 _ _ (kp8 c' o h n) (fun z => by rw [z, c] at h; cases h), k9 _ _ hsd8 nps.symm, by omega, hM, fun w hn => hM0 w (fun z => hn (by rw [htk]; exact List.mem_append_left _ z)), fun w hm => ?_, hMi⟩
        rw [htk] at hm ⊢
        by_cases hwe : w = ww
        · subst hwe
          refine ⟨p, hp, ?_, c⟩
          rw [h9, plc_snoc, if_pos rfl, htl, List.map_append]
          rfl
        · have hw2 : w ∈ (wsOf x).take j := by
            rcases List.mem_append.mp hm with h | h
            · exact h
            · exact absurd (List.mem_singleton.mp h) hwe
          obtain ⟨q2, a2, b2, c2⟩ := hM1 w hw2
          refine ⟨q2, a2, ?_, c2⟩
          rw [plc_snoc, if_neg (fun z => hwe z.symm), List.append_nil]
          exact k9 _ _ (S8 _ _ b2) (fun z => hwe (hMi w ww p (z ▸ a2) hp))
      · have hMn : M ww = none := by
          rw [hM ww] at hval
          cases e : M ww with
          | none => rfl
          | some p => rw [e] at hval; cases hval
        have hwn : ww ∉ (wsOf x).take j := fun z => by
          obtain ⟨q', a, _⟩ := hM1 ww z
          rw [hMn] at a
          cases a
        generalize eN : upd H8 sd _ = H9
        have k9 : KB sd H8 H9 := kb_gen eN
        have h9 := at_gen eN
        clear eN
        have hq9 := k9 _ _ hq nqs
        wtm_at "wp"
        refine w_append hq9 (by decide) (fun H10 k10 h10 => ?_)
        refine ⟨_, _, _, fun w => if w = ww then some q else M w, rfl, fun c o h n => k10 _ _ (k9 _ _ (kp8 c o h n) n) (fun z => by rw [z, nq6] at h; cases h), k10 _ _ h9 nqs.symm, Nat.le_trans (length_putK _ _ _) (by omega), fun w => ?_, fun w hn => ?_, fun w hm => ?_, fun u w p hu hw => ?_⟩
        · dsimp only
          rw [valV_put]
          by_cases e : w = ww
          · subst e
            simp
          · rw [if_neg (fun z => e (Sum.inr.inj z)), if_neg e]
            exact hM w
        · dsimp only
          rw [htk] at hn
          rw [if_neg (fun z => hn (by rw [z]; simp))]
          exact hM0 w (fun z => hn (List.mem_append_left _ z))
        · rw [htk] at hm ⊢
          by_cases hwe : w = ww
          · subst hwe
            refine ⟨q, by dsimp only; exact if_pos rfl, ?_, nq6⟩
            rw [h10, plc_snoc, if_pos rfl, htl, plc_none hwn]
            rfl
          · have hw2 : w ∈ (wsOf x).take j := by
              rcases List.mem_append.mp hm with h | h
              · exact h
              · exact absurd (List.mem_singleton.mp h) hwe
            obtain ⟨q2, a2, b2, c2⟩ := hM1 w hw2
            obtain ⟨_, n2s, n2q, _⟩ := nM w q2 a2
            refine ⟨q2, by dsimp only; rw [if_neg hwe]; exact a2, ?_, c2⟩
            rw [plc_snoc, if_neg (fun z => hwe z.symm), List.append_nil]
            exact k10 _ _ (k9 _ _ (S8 _ _ b2) n2s) n2q
        · dsimp only at hu hw
          by_cases e1 : u = ww
          · by_cases e2 : w = ww
            · rw [e1, e2]
            · rw [if_pos e1] at hu
              rw [if_neg e2] at hw
              cases hu
              exact absurd rfl (nM w q hw).2.2.1
          · by_cases e2 : w = ww
            · rw [if_pos e2] at hw
              rw [if_neg e1] at hu
              cases hw
              exact absurd rfl (nM u q hu).2.2.1
            · rw [if_neg e1] at hu
              rw [if_neg e2] at hw
              exact hMi u w p hu hw
    · rintro σ H7 ⟨v3, v4, kvs, M, rfl, kp7, hsd7, hkl, hM, hM0, hM1, hMi⟩
      rw [List.length_map] at hkl
      rw [List.length_map, List.take_length] at hM0 hM1
      refine k H7 (fun c o h n => ?_) ⟨d, hh, sd, kp7 _ _ e6 (Ne.symm nsr), kp7 _ _ hh6 nsh.symm, kvs, M, hsd7, hkl, hM, hM0, fun w hw => by obtain ⟨q, a, b, _⟩ := hM1 w hw; exact ⟨q, a, b⟩, hMi⟩ (fun S H'' hS kb => ?_)
      · exact kp7 _ _ (kbH6 c o h n) (fun z => by rw [z, nsd0] at h; cases h)
      · have nS : ∀ {q : Addr}, H q = none → ¬ S q := fun hq z => (hS _ z).2 hq
        have nr' : ¬ S r := fun z => (hS _ z).1 rfl
        exact ⟨d, hh, sd, kb _ _ (kp7 _ _ e6 (Ne.symm nsr)) nr', kb _ _ (kp7 _ _ hh6 nsh.symm) (nS (nr kb1 e1 nh)), kvs, M, kb _ _ hsd7 (nS nsd0), hkl, hM, hM0, fun w hw => by obtain ⟨q, a, b, c⟩ := hM1 w hw; exact ⟨q, a, kb _ _ b (nS (nr kbH6 e6 c))⟩, hMi⟩
abbrev s_Page_words : Stmt := inClass (topS 31) 1
theorem sc_Page_words : FnScope ["self"] ["self"] (defScope s_Page_words) := ⟨rfl, rfl, rfl, by decide +kernel, rfl, by decide +kernel, by decide +kernel⟩
def spPWords (C : Addr) : Sp := fun vs H Q _ => ∃ (r : Addr) (i : Int) (x : Str), vs = [.ref r] ∧ PgF C H r i x ∧ ∀ p H', H p = none → Same H H' → H' p = some (.lst ((wsOf x).map V.str)) → Q (.ref p) H'
theorem ok_pwords {f : Addr} {fd : FuncData} (F : Fun K "words" "Page.words" s_Page_words f fd) (T : Txt K mg Z C_Page) : FnOk P w K mg base CX0 1 f fd ["self"] (spPWords C_Page) := by
  have c1 := T.cl_Page
  have n2 := T.na_Page_held
  refine F.ok sc_Page_words (fun vs H Q E h => ?_) (fun cdv A outer s H vs Q E hr h => ?_)
  · obtain ⟨r, i, x, rfl, _⟩ := h
    rfl
  · obtain ⟨r, i, x, rfl, hp, k⟩ := h
    obtain ⟨d, a, s', h1, h2, h3⟩ := hp.ex
    refine ⟨_, (pss_one (ps_ret (pe_callTy cl_list (by rfl) T.n_list PyProof.Rows.boot_list (pa_cons (pe_fld (pv 0) rfl) pa_nil)))), ?_⟩
    wtm_at "w0"
    wtm_at "wp"
    exact w_listOf (.of h2) (fun l H2 nl s2 hl => k _ _ nl s2 hl)
abbrev s_Page___eq__ : Stmt := inClass (topS 31) 4
theorem sc_Page___eq__ : FnScope ["self", "other"] ["self", "other"] (defScope s_Page___eq__) := ⟨rfl, rfl, rfl, by decide +kernel, rfl, by decide +kernel, by decide +kernel⟩
/-- how two pages are seen to be alike -/
def PqR (K : PySem.W.Frag) (C : Addr) : Addr → V → Hp → Bool → Prop := fun a y H b => ∃ i x, PgF C H a i x ∧ ((∃ r i' x', y = .ref r ∧ PgF C H r i' x' ∧ b = decide (i = i' ∧ x = x')) ∨ (NotC K H C y ∧ b = false))
theorem ok_peq {f : Addr} {fd : FuncData} (F : Fun K "__eq__" "Page.__eq__" s_Page___eq__ f fd) (T : Txt K mg Z C_Page) (kl : Kls K C_Page) : FnOk P w K mg base CX0 1 f fd ["self", "other"] (spEqb (PqR K C_Page)) := by
  have hc := T.cl_Page
  have h1 := T.na_Page_number
  have h2 := T.na_Page_text
  refine F.ok sc_Page___eq__ (fun vs H Q E h => ?_) (fun cdv A outer s H vs Q E hr h => ?_)
  · obtain ⟨a, y, b, rfl, _⟩ := h
    rfl
  · obtain ⟨a, y, b, rfl, ⟨i, x, hp, hy⟩, k⟩ := h
    obtain ⟨d1, a1, s1, o1, _, _⟩ := hp.ex
    refine ⟨_, (pss_one (ps_ret (pe_and (pe_callB call_isi (by rfl) T.n_isinstance PyProof.Rows.boot_isinstance (pa_cons (pv 1) (pa_cons (pe_gcls T.m_Page rfl) pa_nil))) (pe_and (pe_cmpR op_eq (pe_fld (pv 0) rfl) (pe_fld (pv 1) rfl) (nomark _)) (pe_one (pe_cmpR op_eq (pe_fld (pv 0) rfl) (pe_fld (pv 1) rfl) (nomark _))))))), ?_⟩
    wtm_at "w0"
    wtm_at "wp"
    rcases hy with ⟨r, i', x', rfl, hp', rfl⟩ | ⟨⟨tv, ht, hk⟩, rfl⟩
    · obtain ⟨d2, a2, s2, o2, _, _⟩ := hp'.ex
      refine w_isiO (kl.ty o2) kit_self ?_
      wtm_at "wp"
      refine w_dec (fun e1 => ?_) (fun e1 => ?_)
      · wtm_at "wp"
        have e : decide (V.str x = V.str x') = decide (i = i' ∧ x = x') := by
          rw [decide_eq_decide]
          exact ⟨fun z => ⟨V.int.inj e1, V.str.inj z⟩, fun z => by rw [z.2]⟩
        rw [e]
        exact k _ (.refl _)
      · have e : decide (i = i' ∧ x = x') = false := decide_eq_false fun z => e1 (by rw [z.1])
        rw [e] at k
        exact k _ (.refl _)
    · refine w_isiO ht hk ?_
      wtm_at "wp"
      exact k _ (.refl _)
abbrev s_Page___len__ : Stmt := inClass (topS 31) 5
theorem sc_Page___len__ : FnScope ["self"] ["self"] (defScope s_Page___len__) := ⟨rfl, rfl, rfl, by decide +kernel, rfl, by decide +kernel, by decide +kernel⟩
def spPLen (C : Addr) : Sp := fun vs H Q _ => ∃ (r : Addr) (i : Int) (x : Str), vs = [.ref r] ∧ PgF C H r i x ∧ Q (.int ((wsOf x).length : Nat)) H
theorem ok_plen {f : Addr} {fd : FuncData} (F : Fun K "__len__" "Page.__len__" s_Page___len__ f fd) (T : Txt K mg Z C_Page) : FnOk P w K mg base CX0 1 f fd ["self"] (spPLen C_Page) := by
  have c1 := T.cl_Page
  have n2 := T.na_Page_held
  refine F.ok sc_Page___len__ (fun vs H Q E h => ?_) (fun cdv A outer s H vs Q E hr h => ?_)
  · obtain ⟨r, i, x, rfl, _⟩ := h
    rfl
  · obtain ⟨r, i, x, rfl, hp, k⟩ := h
    obtain ⟨d, a, s', h1, h2, h3⟩ := hp.ex
    refine ⟨_, (pss_one (ps_ret (pe_callB cl_len (by rfl) T.n_len PySem.boot_len (pa_cons (pe_fld (pv 0) rfl) pa_nil)))), ?_⟩
    wtm_at "w0"
    wtm_at "wp"
    rw [List.length_map]
    exact k
abbrev s_Page___str__ : Stmt := inClass (topS 31) 6
theorem sc_Page___str__ : FnScope ["self"] ["self"] (defScope s_Page___str__) := ⟨rfl, rfl, rfl, by decide +kernel, rfl, by decide +kernel, by decide +kernel⟩
def spPStr (C : Addr) : Sp := fun vs H Q _ => ∃ (r : Addr) (i : Int) (x : Str), vs = [.ref r] ∧ PgF C H r i x ∧ x.length ≤ 40000 ∧ Q (.str x) H
theorem ok_pstr {f : Addr} {fd : FuncData} (F : Fun K "__str__" "Page.__str__" s_Page___str__ f fd) (T : Txt K mg Z C_Page) : FnOk P w K mg base CX0 1 f fd ["self"] (spPStr C_Page) := by
  have c1 := T.cl_Page
  have n2 := T.na_Page_text
  refine F.ok sc_Page___str__ (fun vs H Q E h => ?_) (fun cdv A outer s H vs Q E hr h => ?_)
  · obtain ⟨r, i, x, rfl, _⟩ := h
    rfl
  · obtain ⟨r, i, x, rfl, hp, hl, k⟩ := h
    obtain ⟨d, a, s', h1, h2, h3⟩ := hp.ex
    refine ⟨_, (pss_one (ps_ret (pe_joined1 (pe_fmt (pe_fld (pv 0) rfl))))), ?_⟩
    wtm_at "w0"
    wtm_at "wp"
    exact .inl ⟨x, rfl, sz (by omega), k⟩
abbrev s_Page___repr__ : Stmt := inClass (topS 31) 7
theorem sc_Page___repr__ : FnScope ["self"] ["self"] (defScope s_Page___repr__) := ⟨rfl, rfl, rfl, by decide +kernel, rfl, by decide +kernel, by decide +kernel⟩
def pageRepr (i : Nat) (x : Str) : Str := S ((("Page(" : Str).cps.toList ++ TL.numL i ++ (", " : Str).cps.toList) ++ (39 :: (x.cps.toList ++ [39])) ++ [41])
def spPRepr (C : Addr) : Sp := fun vs H Q _ => ∃ (r : Addr) (i : Nat) (x : Str), vs = [.ref r] ∧ PgF C H r i x ∧ i ≤ 9999 ∧ x.length ≤ 40000 ∧ (∀ c ∈ x.cps.toList, c = 32 ∨ (97 ≤ c ∧ c ≤ 122)) ∧ Q (.str (pageRepr i x)) H
theorem ok_prepr {f : Addr} {fd : FuncData} (F : Fun K "__repr__" "Page.__repr__" s_Page___repr__ f fd) (T : Txt K mg Z C_Page) : FnOk P w K mg base CX0 1 f fd ["self"] (spPRepr C_Page) := by
  have c1 := T.cl_Page
  have n2 := T.na_Page_text
  have n3 := T.na_Page_number
  refine F.ok sc_Page___repr__ (fun vs H Q E h => ?_) (fun cdv A outer s H vs Q E hr h => ?_)
  · obtain ⟨r, i, x, rfl, _⟩ := h
    rfl
  · obtain ⟨r, i, x, rfl, hp, hi, hl, hx, k⟩ := h
    obtain ⟨d, a, s', h1, h2, h3⟩ := hp.ex
    have hn := numL_len4 hi
    refine ⟨_, (pss_one (ps_ret (pe_fj (.cons pe_str (.cons (pe_fmt (pe_fld (pv 0) rfl)) (.cons pe_str (.cons (pe_fmtR (pe_fld (pv 0) rfl)) (.cons pe_str .nil)))))))), ?_⟩
    wtm_at "w0"
    wtm_at "wp"
    have l1 : (Str.empty ++ ("Page(" : Str)).length = 5 := by decide +kernel
    have l2 : (", " : Str).length = 2 := rfl
    have l3 : (")" : Str).length = 1 := rfl
    have hrp := repr_plain hx
    have hrl : (reprText x).length ≤ 40002 := by
      rw [hrp, len_S, List.length_cons, List.length_append, len_cps]
      simp
      omega
    refine ⟨by decide +kernel, ?_⟩
    wtm_at "wp"
    refine .inr ⟨_, rfl, PySem.Flt.log2_lt_of (by decide) (by rw [Int.natAbs_natCast]; exact Nat.lt_of_le_of_lt hi (by decide +kernel)), _, rfl, ?_⟩
    rw [num_S]
    refine ⟨sz (by rw [Str.length_append, l1, len_S]; omega), ?_⟩
    wtm_at "wp"
    refine ⟨sz (by rw [Str.length_append, Str.length_append, l1, len_S, l2]; omega), ?_⟩
    wtm_at "wp"
    refine w_fmtRE ?_
    wtm_at "wp"
    refine .inl ⟨x, rfl, sz (by omega), _, rfl, sz (by rw [Str.length_append, Str.length_append, Str.length_append, l1, len_S, l2]; omega), ?_⟩
    wtm_at "wp"
    refine ⟨sz (by rw [Str.length_append, Str.length_append, Str.length_append, Str.length_append, l1, len_S, l2, l3]; omega), ?_⟩
    wtm_at "wp"
    have e : Str.empty ++ ("Page(" : Str) ++ S (TL.numL i) ++ (", " : Str) ++ reprText x ++ (")" : Str) = pageRepr i x := str_ext (by
      rw [cps_append, cps_append, cps_append, cps_append, cps_append, hrp]
      rfl)
    rw [e]
    exact k
abbrev s_Page_places : Stmt := inClass (topS 31) 2
theorem sc_Page_places : FnScope ["self", "word"] ["self", "word"] (defScope s_Page_places) := ⟨rfl, rfl, rfl, by decide +kernel, rfl, by decide +kernel, by decide +kernel⟩
def spPPlaces (C : Addr) : Sp := fun vs H Q _ => ∃ (r : Addr) (i : Int) (x u : Str), vs = [.ref r, .str u] ∧ PgF C H r i x ∧ isW u = true ∧ ∀ p H', H p = none → Same H H' → H' p = some (.lst ((plc (wsOf x) u).map fun n : Nat => V.int n)) → Q (.ref p) H'
theorem ok_pplaces {f : Addr} {fd : FuncData} (F : Fun K "places" "Page.places" s_Page_places f fd) (T : Txt K mg Z C_Page) (f_look_word : Fn P w K mg base "look_word" 2 ["thing"] (spLook1N K)) : FnOk P w K mg base CX0 3 f fd ["self", "word"] (spPPlaces C_Page) := by
  have c1 := T.cl_Page
  have n2 := T.na_Page_stands
  refine F.ok sc_Page_places (fun vs H Q E h => ?_) (fun cdv A outer s H vs Q E hr h => ?_)
  · obtain ⟨r, i, x, u, rfl, _⟩ := h
    rfl
  · obtain ⟨r, i, x, u, rfl, hp, hu, k⟩ := h
    refine ⟨_, (pss_cons (ps_expr (pe_fn f_look_word (hr.mono (by omega)) rfl (pa_cons (pv 1) pa_nil)))
 (pss_one (ps_ret (pe_callTy cl_list (by rfl) T.n_list PyProof.Rows.boot_list (pa_cons (pe_dget2 (u1_of hr) (pe_fld (pv 0) rfl) (pv 1) (pe_lst pa_nil) ⟨rfl, rfl, rfl, rfl⟩) pa_nil))))), ?_⟩
    wtm_at "w0"
    wtm_at "wp"
    refine ⟨u, rfl, hu, fun H1 s1 => ?_⟩
    obtain ⟨d, a, st, h1, h2, kvs, M, g1, g2, g3, g4, g5, g6⟩ := (hp.same s1).ex
    wtm_at "wp"
    refine w_dget2 ?_
    wtm_at "wp"
    refine w_dset1 g1 ?_
    wtm_at "wp"
    rename_i q2 nq H2 s2 hq2
    refine ⟨_, .inl ⟨kvs, .inr u, .inl (s2 _ _ g1), rfl, rfl⟩, ?_⟩
    rw [g3 u]
    wtm_at "wp"
    by_cases hm : u ∈ wsOf x
    · obtain ⟨q, e1, e2⟩ := g5 u hm
      rw [e1]
      exact w_listOf (.of (s2 _ _ e2)) (fun l H3 nl s3 hl => k l H3 (same_free (s1.trans s2) nl) (s1.trans (s2.trans s3)) hl)
    · rw [g4 u hm]
      refine w_listOf (.of hq2) (fun l H3 nl s3 hl => k l H3 (same_free (s1.trans s2) nl) (s1.trans (s2.trans s3)) ?_)
      rw [hl, plc_none hm]
      rfl

end
end K03

namespace K03
section
variable {P : Program} {w : World} {K : PySem.W.Frag} {mg : Str → Option Value} {base : Heap} {Z : Zs} {C_Page : Addr}
abbrev s_law_pool : Stmt := topS 33
theorem sc_law_pool : FnScope ["_law_script", "_law_at", "_law_cell", "_law_far"] ["_law_script", "_law_at"] (defScope s_law_pool) := ⟨rfl, rfl, rfl, by decide +kernel, rfl, by decide +kernel, by decide +kernel⟩
abbrev s_law_take : Stmt := topS 34
theorem sc_law_take : FnScope ["_law_pool_here", "_law_many", "_law_digit", "_law_turn", "_law_one", "_law_other"] ["_law_pool_here", "_law_many"] (defScope s_law_take) := ⟨rfl, rfl, rfl, by decide +kernel, rfl, by decide +kernel, by decide +kernel⟩
/-! ### draws -/
/-- a pool at p: three numbers -/
def Pool (H : Hp) (p : Addr) (n : Nat) : Prop := ∃ a b c : Int, H p = some (.lst [.int a, .int b, .int c]) ∧ 0 ≤ a ∧ 0 ≤ b ∧ b < 10 ^ 30 ∧ 0 ≤ c ∧ c ≤ n
theorem Pool.mono {H H' : Hp} {p : Addr} {n n' : Nat} (h : Pool H p n) (e : Same H H') (hn : n ≤ n') : Pool H' p n' := by
  obtain ⟨a, b, c, h, h1, h2, h3, h4, h5⟩ := h
  exact ⟨a, b, c, e _ _ h, h1, h2, h3, h4, by omega⟩
theorem Pool.ext {H H' : Hp} {p : Addr} {n n' : Nat} (h : Pool H p n) (e : LamX.ExtN H H') (hn : n ≤ n') : Pool H' p n' := by
  obtain ⟨a, b, c, h, h1, h2, h3, h4, h5⟩ := h
  exact ⟨a, b, c, e _ _ h (fun _ z => by cases z), h1, h2, h3, h4, by omega⟩
theorem Pool.at {H : Hp} {p : Addr} {n : Nat} (h : Pool H p n) : ∃ xs, H p = some (.lst xs) := by
  obtain ⟨a, b, c, h, _⟩ := h
  exact ⟨_, h⟩
def spTake : Sp := fun vs H Q _ => ∃ (p : Addr) (m : Int) (n : Nat), vs = [.ref p, .int m] ∧ Pool H p n ∧ n ≤ 10 ^ 9 ∧ 0 < m ∧ m ≤ 10 ^ 30 ∧
  ∀ (d : Int) H', 0 ≤ d → d < m → KB p H H' → Pool H' p (n + 1) → Q (.int d) H'
theorem ok_take {f : Addr} {fd : FuncData} (F : Fun K "_law_take" "_law_take" s_law_take f fd) : FnOk P w K mg base CX0 1 f fd ["_law_pool_here", "_law_many"] spTake := by
  refine F.ok sc_law_take (fun vs H Q E h => ?_) (fun cdv A outer s H vs Q E hr h => ?_)
  · obtain ⟨p, m, n, rfl, _⟩ := h
    rfl
  · obtain ⟨p, m, n, rfl, ⟨a, b, c, hp, ha, hb, hb2, hc, hc2⟩, hn, hm, hm2, k⟩ := h
    have hb2' : b < 1000000000000000000000000000000 := hb2
    have hn' : n ≤ 1000000000 := hn
    have hm2' : m ≤ 1000000000000000000000000000000 := hm2
    have hdv : CDivU a m := divU (b := 128) (by omega) (by omega) (by decide) (by decide)
    have hcc : (c + 1) * (c + 1) ≤ 1000000001 * 1000000001 := Int.mul_le_mul (by omega) (by omega) (by omega) (by omega)
    have hcc0 : 0 ≤ (c + 1) * (c + 1) := Int.mul_nonneg (by omega) (by omega)
    refine ⟨_, (pss_cons (ps_if (pt_cmpR op_gt (pe_ix ix_list (pv 0) pe_int (fun _ _ => rfl)) pe_int (nomark _))
 (pss_cons (ps_set (i := 2) sc_law_take.nd rfl (.inl rfl) (pe_op op_mod (pe_ix ix_list (pv 0) pe_int (fun _ _ => rfl)) (pv 1)))
 (pss_cons (ps_asg (pe_op op_fdivU (pe_ix ix_list (pv 0) pe_int (fun _ _ => rfl)) (pv 1)) (pg_sub (pv 0) pe_int set_list))
 (pss_one (ps_ret (pv 2)))))
 pss_nil)
 (pss_cons (ps_asg (pe_op op_add (pe_ix ix_list (pv 0) pe_int (fun _ _ => rfl)) pe_int) (pg_sub (pv 0) pe_int set_list))
 (pss_cons (ps_set (i := 3) sc_law_take.nd rfl (.inl rfl) (pe_ix ix_list (pv 0) pe_int (fun _ _ => rfl)))
 (pss_cons (ps_set (i := 4) sc_law_take.nd rfl (.inl rfl) (pe_op op_mod (pe_op op_powU (pe_op op_add (pe_op op_add (pe_ix ix_list (pv 0) pe_int (fun _ _ => rfl)) (pe_op op_mulU (pe_op op_mulU pe_int (pv 3)) (pv 3))) pe_int) pe_int) pe_int))
 (pss_cons (ps_set (i := 5) sc_law_take.nd rfl (.inl rfl) (pe_op op_mod (pe_op op_add (pe_op op_powU (pv 4) pe_int) (pe_op op_mulU pe_int (pv 3))) pe_int))
 (pss_one (ps_ret (pe_op op_mod (pe_op op_fdivU (pe_op op_add (pe_op op_mulU (pv 4) pe_int) (pe_op op_mulU (pv 5) (pv 5))) pe_int) (pv 1))))))))), ?_⟩
    wtm_at "w0"
    wtm_at "wp"
    refine w_dec (fun h0 => ?_) (fun h0 => ?_)
    · wtm_at "wp"
      rename_i H1 k1 e1
      refine k _ _ (Int.emod_nonneg _ (by omega)) (Int.emod_lt_of_pos _ hm) k1 ⟨_, _, _, e1, ?_, hb, hb2, hc, by omega⟩
      rw [Int.fdiv_eq_ediv_of_nonneg _ (Int.le_of_lt hm)]
      exact Int.ediv_nonneg ha (Int.le_of_lt hm)
    · wtm_at "wp"
      · refine powU (a := 200) ?_ (by decide) (by decide) (by decide)
        rw [Int.mul_assoc]
        omega
      rename_i H1 k1 e1
      generalize (b + 69621 * (c + 1) * (c + 1) + 3) ^ Int.toNat 3 = x3
      have o1 := Int.emod_nonneg x3 (show (2147483629 : Int) ≠ 0 by decide)
      have o2 := Int.emod_lt_of_pos x3 (show (0 : Int) < 2147483629 by decide)
      iterate 4 wtm_at "w1"
      generalize x3 % 2147483629 = one at o1 o2 ⊢
      wtm_at "wp"
      generalize one ^ Int.toNat 3 + 30011 * (c + 1) = y3
      have q1 := Int.emod_nonneg y3 (show (998244353 : Int) ≠ 0 by decide)
      have q2 := Int.emod_lt_of_pos y3 (show (0 : Int) < 998244353 by decide)
      generalize y3 % 998244353 = other at q1 q2 ⊢
      wtm_at "wp"
      exact k _ _ (Int.emod_nonneg _ (by omega)) (Int.emod_lt_of_pos _ hm) k1 ⟨_, _, _, e1, ha, hb, hb2, by omega, by omega⟩
def spPool (K : PySem.W.Frag) : Sp := fun vs H Q _ => ∃ (a : Addr) (ns : List Int) (j : Nat), vs = [.ref a, .int j] ∧ SqL K H a (ns.map V.int) ∧ j ≤ 63 ∧
  ∀ p H', H p = none → Same H H' → Pool H' p 0 → Q (.ref p) H'
theorem pool_num {c : Int} {j : Nat} (hj : j ≤ 63) : 0 ≤ c % 2147483647 * 48271 + 7919 * j + 31 ∧ c % 2147483647 * 48271 + 7919 * j + 31 < 10 ^ 30 := by
  have h1 := Int.emod_nonneg c (show (2147483647 : Int) ≠ 0 by decide)
  have h2 := Int.emod_lt_of_pos c (show (0 : Int) < 2147483647 by decide)
  constructor <;> omega
theorem ok_pool {f : Addr} {fd : FuncData} (F : Fun K "_law_pool" "_law_pool" s_law_pool f fd) (T : Txt K mg Z C_Page) : FnOk P w K mg base CX0 1 f fd ["_law_script", "_law_at"] (spPool K) := by
  refine F.ok sc_law_pool (fun vs H Q E h => ?_) (fun cdv A outer s H vs Q E hr h => ?_)
  · obtain ⟨a, ns, j, rfl, _⟩ := h
    rfl
  · obtain ⟨a, ns, j, rfl, hS, hj, k⟩ := h
    refine ⟨_, (pss_cons (ps_set (i := 2) sc_law_pool.nd rfl (.inl rfl) pe_int)
 (pss_cons (ps_if (pt_cmpR op_lt (pv 1) (pe_callB cl_len (by rfl) T.n_len PySem.boot_len (pa_cons (pv 0) pa_nil)) (nomark _))
 (pss_one (ps_set (i := 2) sc_law_pool.nd rfl (.inl rfl) (pe_ix ix_list (pv 0) (pv 1) (fun _ _ => rfl))))
 pss_nil)
 (pss_cons (ps_set (i := 3) sc_law_pool.nd rfl (.inl rfl) (pe_callB cl_abs (by rfl) T.n_abs PyProof.Rows.boot_abs (pa_cons (pv 2) pa_nil)))
 (pss_one (ps_ret (pe_lst (pa_cons (pe_op op_mulU (pv 3) (pe_callTy cl_int (by rfl) T.n_int PyProof.Rows.boot_int (pa_cons (pe_cmpR op_ge (pv 3) (pe_op op_powU pe_int pe_int) (nomark _)) pa_nil))) (pa_cons (pe_op op_add (pe_op op_add (pe_op op_mulU (pe_op op_mod (pv 2) pe_int) pe_int) (pe_op op_mulU pe_int (pv 1))) pe_int) (pa_cons pe_int pa_nil))))))))), ?_⟩
    wtm_at "w0"
    wtm_at "wp"
    refine w_dec (fun h0 => ?_) (fun h0 => ?_)
    · have hl : j < ns.length := by
        rw [List.length_map] at h0
        omega
      have hx : atI (ns.map V.int) (j : Int) = some (.int ns[j]) := atI_nat (by rw [List.getElem?_map, List.getElem?_eq_getElem hl]; rfl)
      wtm_at "wp"
      rename_i p np H1 s1 hp
      exact k _ _ np s1 ⟨_, _, _, hp, Int.mul_nonneg (by omega) (by split <;> omega), (pool_num hj).1, (pool_num hj).2, by omega, by omega⟩
    · wtm_at "wp"
      rename_i p np H1 s1 hp
      exact k _ _ np s1 ⟨_, _, _, hp, Int.mul_nonneg (by omega) (by split <;> omega), (pool_num hj).1, (pool_num hj).2, by omega, by omega⟩

abbrev s_law_kinds : Stmt := topS 37
theorem sc_law_kinds : FnScope ["_law_pool_here", "_law_some", "_law_start"] ["_law_pool_here"] (defScope s_law_kinds) := ⟨rfl, rfl, rfl, by decide +kernel, rfl, by decide +kernel, by decide +kernel⟩
abbrev s_law_words : Stmt := topS 38
theorem sc_law_words : FnScope ["_law_pool_here", "_law_kinds_here", "_law_most", "_law_k"] ["_law_pool_here", "_law_kinds_here", "_law_most"] (defScope s_law_words) := ⟨rfl, rfl, rfl, by decide +kernel, rfl, by decide +kernel, by decide +kernel⟩
/-! ### kinds of words, and words of these kinds -/
theorem Pool.kb {p D : Addr} {H4 H5 : Hp} {n : Nat} (h : Pool H4 p n) (b : KB D H4 H5) (ne : p ≠ D) : Pool H5 p n := by
  obtain ⟨x, y, z, h, r⟩ := h
  exact ⟨x, y, z, b _ _ h ne, r⟩
theorem Pool.le {p : Addr} {H : Hp} {n m : Nat} (h : Pool H p n) (l : n ≤ m) : Pool H p m := h.mono (.refl _) l
def nine : List Str := ["a", "b", "ab", "ba", "aa", "bab", "abcdefghijkl", "z", "aab"]
def cutK (s d : Nat) : List Str := ((nine ++ nine).drop s).take (1 + d)
theorem cutK_ok : ∀ s < 9, ∀ d < 5, (cutK s d).length = 1 + d ∧ (cutK s d).all isW = true ∧ (cutK s d).Nodup := by decide +kernel
theorem cutV_kinds {s d : Int} (hs : 0 ≤ s) (hs9 : s < 9) (hd : 0 ≤ d) (hd5 : d < 5) : cutV ((nine ++ nine).map V.str) (some s) (some (s + 1 + d)) = (cutK s.toNat d.toNat).map V.str := by
  obtain ⟨m, rfl⟩ := Int.eq_ofNat_of_zero_le hs
  obtain ⟨n, rfl⟩ := Int.eq_ofNat_of_zero_le hd
  have hl : ((nine ++ nine).map V.str).length = 18 := rfl
  have h1 : HT.sIx 18 0 (some (m : Int)) = m := by
    unfold HT.sIx
    simp only
    split <;> omega
  have h2 : HT.sIx 18 18 (some ((m : Int) + 1 + n)) = m + 1 + n := by
    unfold HT.sIx
    simp only
    split <;> omega
  unfold cutV cutK
  rw [hl, h1, h2, Int.toNat_natCast, Int.toNat_natCast, ← List.map_drop, ← List.map_take]
  congr 2
  omega
/-- one to five unlike words -/
def spKinds : Sp := fun vs H Q _ => ∃ (p : Addr) (n : Nat), vs = [.ref p] ∧ Pool H p n ∧ n ≤ 10 ^ 8 ∧
  ∀ (q : Addr) (ws : List Str) H', H q = none → KB p H H' → Pool H' p (n + 2) → H' q = some (.lst (ws.map V.str)) → 1 ≤ ws.length → ws.length ≤ 5 → (∀ x ∈ ws, isW x = true) → ws.Nodup → Q (.ref q) H'
theorem ok_kinds {f : Addr} {fd : FuncData} (F : Fun K "_law_kinds" "_law_kinds" s_law_kinds f fd) (T : Txt K mg Z C_Page) (f__law_take : Fn P w K mg base "_law_take" 1 ["_law_pool_here", "_law_many"] spTake) : FnOk P w K mg base CX0 2 f fd ["_law_pool_here"] spKinds := by
  refine F.ok sc_law_kinds (fun vs H Q E h => ?_) (fun cdv A outer s H vs Q E hr h => ?_)
  · obtain ⟨p, n, rfl, _⟩ := h
    rfl
  · obtain ⟨p, n, rfl, hp, hn, k⟩ := h
    have hn' : n ≤ 100000000 := hn
    obtain ⟨xs, hpx⟩ := hp.at
    refine ⟨_, (pss_cons (ps_set (i := 1) sc_law_kinds.nd rfl (.inl rfl) (pe_lst (pa_cons pe_str (pa_cons pe_str (pa_cons pe_str (pa_cons pe_str (pa_cons pe_str (pa_cons pe_str (pa_cons pe_str (pa_cons pe_str (pa_cons pe_str pa_nil)))))))))))
 (pss_cons (ps_set (i := 2) sc_law_kinds.nd rfl (.inl rfl) (pe_fn f__law_take (hr.mono (by omega)) rfl (pa_cons (pv 0) (pa_cons pe_int pa_nil))))
 (pss_one (ps_ret (pe_slice sl_list (pe_op op_cat (pv 1) (pv 1)) (po_some (pv 2)) (po_some (pe_op op_add (pe_op op_add (pv 2) pe_int) (pe_fn f__law_take (hr.mono (by omega)) rfl (pa_cons (pv 0) (pa_cons pe_int pa_nil)))))))))), ?_⟩
    wtm_at "w0"
    wtm_at "wp"
    rename_i q nq H1 s1 hq
    refine ⟨p, 9, n, rfl, hp.mono s1 (Nat.le_refl _), by omega, by decide, by decide, fun d H2 d0 d9 k2 hp2 => ?_⟩
    have npq : p ≠ q := ne_of_none hpx nq
    have hq2 := k2 _ _ hq npq.symm
    wtm_at "wp"
    rename_i r H3 nr s3 hr3
    refine ⟨p, 5, _, rfl, hp2.mono s3 (Nat.le_refl _), by omega, by decide, by decide, fun e H4 e0 e5 k4 hp4 => ?_⟩
    have hp2x := hp2.at.choose_spec
    have npr : p ≠ r := ne_of_none hp2x nr
    have hr4 := k4 _ _ hr3 npr.symm
    wtm_at "wp"
    rename_i u H5 nu s5 hu5
    have kk : KB p H H4 := ((KB.of s1).trans k2).trans ((KB.of s3).trans k4)
    have e1 := cutV_kinds d0 d9 e0 e5
    obtain ⟨c1, c2, c3⟩ := cutK_ok d.toNat (by omega) e.toNat (by omega)
    have hu5' : H5 u = some (.lst ((cutK d.toNat e.toNat).map V.str)) := hu5.trans (congrArg (fun z => some (HO.lst z)) e1)
    exact k u _ H5 (kb_newD kk hp4.at.choose_spec nu) (kk.trans (KB.of s5)) (hp4.mono s5 (by omega)) hu5' (by omega) (by omega) (fun x hx => List.all_eq_true.mp c2 x hx) c3
/-- up to so many words of some kinds -/
def spWordsL : Sp := fun vs H Q _ => ∃ (p q : Addr) (n : Nat) (m : Nat) (ws : List Str), vs = [.ref p, .ref q, .int m] ∧ Pool H p n ∧ n ≤ 10 ^ 8 ∧ H q = some (.lst (ws.map V.str)) ∧ 1 ≤ ws.length ∧ ws.length ≤ 1000 ∧ m ≤ 1000 ∧
  ∀ (r : Addr) (us : List Str) H', H r = none → KB p H H' → Pool H' p (n + 1 + m) → H' r = some (.lst (us.map V.str)) → us.length ≤ m → (∀ u ∈ us, u ∈ ws) → Q (.ref r) H'
theorem ok_words_l {f : Addr} {fd : FuncData} (F : Fun K "_law_words" "_law_words" s_law_words f fd) (T : Txt K mg Z C_Page) (f__law_take : Fn P w K mg base "_law_take" 1 ["_law_pool_here", "_law_many"] spTake) : FnOk P w K mg base CX0 2 f fd ["_law_pool_here", "_law_kinds_here", "_law_most"] spWordsL := by
  refine F.ok sc_law_words (fun vs H Q E h => ?_) (fun cdv A outer s H vs Q E hr h => ?_)
  · obtain ⟨p, q, n, m, ws, rfl, _⟩ := h
    rfl
  · obtain ⟨p, q, n, m, ws, rfl, hp, hn, hq, hw1, hw2, hm, k⟩ := h
    have hn' : n ≤ 100000000 := hn
    obtain ⟨x1, y1, z1, hpx, _⟩ := id hp
    have npq : p ≠ q := fun z => by
      rw [z, hq] at hpx
      cases ws with
      | nil => simp at hw1
      | cons b r => simp at hpx
    refine ⟨_, (pss_one (ps_ret (pe_lc (own := [("_law_k", 3)]) (g := gName 3) (tt := tYes) rfl sc_law_words.nd (pi_range1 (by rfl) T.n_range (pa_cons (pe_fn f__law_take (hr.mono (by omega)) rfl (pa_cons (pv 0) (pa_cons (pe_op op_add (pv 2) pe_int) pa_nil))) pa_nil)) (blkOk_by (own := [("_law_k", 3)]) (N := ["_law_pool_here", "_law_kinds_here", "_law_most", "_law_k"]) (sc := defScope s_law_words) (by decide +kernel)) (fun _ _ _ _ _ => pg_name (i := 3) sc_law_words.nd rfl (Or.inl rfl)) (fun _ _ _ _ _ => pts_nil) (fun _ _ _ _ _ => (pe_ix (show IxR _ (rIxL K) from ix_list) (pv 1) (pe_fn f__law_take (hr.mono (by omega)) rfl (pa_cons (pv 0) (pa_cons (pe_callB (show CallR _ _ (Bw.rLen K) from cl_len) (by rfl) T.n_len PySem.boot_len (pa_cons (pv 1) pa_nil)) pa_nil))) (fun _ _ => rfl)))))), ?_⟩
    wtm_at "w0"
    wtm_at "wp"
    refine ⟨p, (m : Int) + 1, n, rfl, hp, by omega, by omega, by omega, fun d H1 d0 d1 k1 p1 => ?_⟩
    wtm_at "wp"
    refine ⟨d, rfl, by omega, by omega, ?_⟩
    dsimp only
    have hq1 := k1 _ _ hq npq.symm
    have p1x := p1.at.choose_spec
    refine lc_fin fin_rng (fun i acc H' => KB p H1 H' ∧ Pool H' p (n + 1 + i) ∧ ∃ ys : List Str, acc = ys.map V.str ∧ ys.length = i ∧ ∀ y ∈ ys, y ∈ ws) (fun D H3 nD s3 hD => ⟨KB.of s3, p1.mono s3 (Nat.le_refl _), [], rfl, rfl, fun y hy => absurd hy (by simp)⟩) (fun _ _ _ _ _ => trivial) ?_ ?_
    · rintro D i v acc H3 H4 nD hi ha ⟨k3, p3, ys, e3, hl3, hy3⟩ hD ⟨rfl, rfl⟩
      have nDp : p ≠ D := ne_of_none p1x nD
      have hq3 := k3 _ _ hq1 npq.symm
      wtm_at "wp"
      refine ⟨rfl, ?_⟩
      wtm_at "wp"
      refine ⟨p, _, _, rfl, p3, by omega, by rw [List.length_map]; omega, by rw [List.length_map]; omega, fun d4 H5 d40 d41 k5 p5 => ?_⟩
      rw [List.length_map] at d41
      obtain ⟨j, rfl⟩ := Int.eq_ofNat_of_zero_le d40
      have hj : j < ws.length := by omega
      have hx : atI (ws.map V.str) (j : Int) = some (.str ws[j]) := atI_nat (by rw [List.getElem?_map, List.getElem?_eq_getElem hj]; rfl)
      refine w_ixL (.of (k5 _ _ hq3 npq.symm)) hx ?_
      refine w_acc (k5 _ _ hD nDp.symm) ha hi (sz (by omega)) (fun H6 k6 h6 => ⟨kb2 (k3.trans k5) k6 nD, p5.kb k6 nDp, ys ++ [ws[j]], by rw [e3]; simp, by simp [hl3], fun y hy => ?_⟩)
      rcases List.mem_append.mp hy with h | h
      · exact hy3 y h
      · rw [List.mem_singleton.mp h]
        exact List.getElem_mem hj
    · rintro D acc H3 nD ⟨k3, p3, ys, e3, hl3, hy3⟩ ha hD
      exact k D ys H3 (kb_newD k1 p1x nD) (k1.trans k3) (p3.le (by omega)) (by rw [← e3]; exact hD) (by omega) hy3

end
end K03

namespace K03
abbrev s_Page_often : Stmt := inClass (topS 31) 3
theorem sc_Page_often : FnScope ["self", "word"] ["self", "word"] (defScope s_Page_often) := ⟨rfl, rfl, rfl, by decide +kernel, rfl, by decide +kernel, by decide +kernel⟩
section
variable {P : Program} {w : World} {K : PySem.W.Frag} {mg : Str → Option Value} {base : Heap} {Z : Zs} {C_Page : Addr}
/-- what is no word is refused -/
def spLookB (Z : Zs) : Sp := fun vs H _ E => ∃ v : V, vs = [v] ∧ TxtV H v ∧ isWV v = false ∧ ∀ H', Same H H' → E (.ref Z.NoWord) none H'
theorem ok_lookB {f : Addr} {fd : FuncData} (F : Fun K "look_word" "look_word" s_look_word f fd) (T : Txt K mg Z C_Page) (f_is_word : Fn P w K mg base "is_word" 1 ["thing"] (spWord K)) : FnOk P w K mg base (L2.CX P w) 2 f fd ["thing"] (spLookB Z) := by
  refine F.okX sc_look_word (fun vs H Q E h => ?_) (fun cdv A outer s H vs Q E hr h => ?_)
  · obtain ⟨v, rfl, _⟩ := h
    rfl
  · obtain ⟨v, rfl, hv, hb, ke⟩ := h
    refine ⟨_, (pss_one (ps_if (pt_not (pt_val (pe_fn f_is_word (hr.mono (by omega)) rfl (pa_cons (pv 0) pa_nil))))
 (pss_one (ps_raise rfl takesX (pmk_ownV T.x_NoWord T.m_NoWord rfl)))
 pss_nil)), ?_⟩
    wtm_at "w0"
    wtm_at "wp"
    refine ⟨v, rfl, hv, fun H1 s1 => ?_⟩
    rw [hb]
    wtm_at "wp"
    exact ke _ s1
def spPlcB (C : Addr) (Z : Zs) : Sp := fun vs H _ E => ∃ (r : Addr) (i : Int) (x : Str) (v : V), vs = [.ref r, v] ∧ PgF C H r i x ∧ TxtV H v ∧ isWV v = false ∧ ∀ H', Same H H' → E (.ref Z.NoWord) none H'
theorem ok_plcB {f : Addr} {fd : FuncData} (F : Fun K "places" "Page.places" s_Page_places f fd) (T : Txt K mg Z C_Page) (f_look_word : FnX P w K mg base "look_word" 2 ["thing"] (spLookB Z)) : FnOk P w K mg base (L2.CX P w) 3 f fd ["self", "word"] (spPlcB C_Page Z) := by
  refine F.okX sc_Page_places (fun vs H Q E h => ?_) (fun cdv A outer s H vs Q E hr h => ?_)
  · obtain ⟨r, i, x, v, rfl, _⟩ := h
    rfl
  · obtain ⟨r, i, x, v, rfl, hp, hv, hb, ke⟩ := h
    refine ⟨_, (pss_cons (ps_expr (pe_fx f_look_word (lets_of takesX) (hr.mono (by omega)) rfl (pa_cons (pv 1) pa_nil)))
 (pss_one (ps_ret (pe_callTy cl_list (by rfl) T.n_list PyProof.Rows.boot_list (pa_cons (pe_dget2 (u1_of hr) (pe_fld (pv 0) rfl) (pv 1) (pe_lst pa_nil) ⟨rfl, rfl, rfl, rfl⟩) pa_nil))))), ?_⟩
    wtm_at "w0"
    wtm_at "wp"
    exact ⟨v, rfl, hv, hb, ke⟩
theorem ok_oftB {f : Addr} {fd : FuncData} (F : Fun K "often" "Page.often" s_Page_often f fd) (T : Txt K mg Z C_Page) (me_Page_places : MeX P w K mg base C_Page "places" 3 ["self", "word"] (spPlcB C_Page Z)) : FnOk P w K mg base (L2.CX P w) 4 f fd ["self", "word"] (spPlcB C_Page Z) := by
  refine F.okX sc_Page_often (fun vs H Q E h => ?_) (fun cdv A outer s H vs Q E hr h => ?_)
  · obtain ⟨r, i, x, v, rfl, _⟩ := h
    rfl
  · obtain ⟨r, i, x, v, rfl, hp, hv, hb, ke⟩ := h
    obtain ⟨d, a, st, h1, _⟩ := hp.ex
    refine ⟨_, (pss_one (ps_ret (pe_callB cl_len (by rfl) T.n_len PySem.boot_len (pa_cons (pe_mex (pv 0) T.cl_Page me_Page_places (lets_of takesX) (hr.mono (by omega)) (pa_cons (pv 1) pa_nil)) pa_nil)))), ?_⟩
    wtm_at "w0"
    wtm_at "wp"
    exact ⟨r, i, x, v, rfl, hp, hv, hb, ke⟩
end
end K03

namespace K03
abbrev s_law_whole : Stmt := topS 40
theorem sc_law_whole : FnScope ["_law_thing"] ["_law_thing"] (defScope s_law_whole) := ⟨rfl, rfl, rfl, by decide +kernel, rfl, by decide +kernel, by decide +kernel⟩
abbrev s_law_spots : Stmt := topS 39
theorem sc_law_spots : FnScope ["_law_held", "_law_word", "_law_at"] ["_law_held", "_law_word"] (defScope s_law_spots) := ⟨rfl, rfl, rfl, by decide +kernel, rfl, by decide +kernel, by decide +kernel⟩
abbrev s_law_right : Stmt := topS 43
theorem sc_law_right : FnScope ["_law_page", "_law_mark", "_law_held", "_law_every", "_law_ahead", "_law_kept", "_law_word", "_law_due", "_law_told", "_law_place"] ["_law_page", "_law_mark", "_law_held"] (defScope s_law_right) := ⟨rfl, rfl, rfl, by decide +kernel, rfl, by decide +kernel, by decide +kernel⟩
section
variable {P : Program} {w : World} {K : PySem.W.Frag} {mg : Str → Option Value} {base : Heap} {Z : Zs} {C_Page : Addr}
theorem filt1 {α : Type} {p : α → Bool} {a : α} (h : p a = true) : [a].filter p = [a] := by rw [List.filter_cons, if_pos h]; rfl
theorem filt0 {α : Type} {p : α → Bool} {a : α} (h : p a = false) : [a].filter p = [] := by rw [List.filter_cons, if_neg (by rw [h]; exact Bool.false_ne_true)]; rfl
def spOften (C : Addr) : Sp := fun vs H Q _ => ∃ (r : Addr) (i : Int) (x u : Str), vs = [.ref r, .str u] ∧ PgF C H r i x ∧ isW u = true ∧ ∀ H', Same H H' → Q (.int ((plc (wsOf x) u).length : Nat)) H'
theorem ok_often {f : Addr} {fd : FuncData} (F : Fun K "often" "Page.often" s_Page_often f fd) (T : Txt K mg Z C_Page) (me_Page_places : Me P w K mg base C_Page "places" 3 ["self", "word"] (spPPlaces C_Page)) : FnOk P w K mg base CX0 4 f fd ["self", "word"] (spOften C_Page) := by
  refine F.ok sc_Page_often (fun vs H Q E h => ?_) (fun cdv A outer s H vs Q E hr h => ?_)
  · obtain ⟨r, i, x, u, rfl, _⟩ := h
    rfl
  · obtain ⟨r, i, x, u, rfl, hp, hu, k⟩ := h
    obtain ⟨d, a, st, h1, _⟩ := hp.ex
    refine ⟨_, (pss_one (ps_ret (pe_callB cl_len (by rfl) T.n_len PySem.boot_len (pa_cons (pe_me (pv 0) T.cl_Page me_Page_places (hr.mono (by omega)) (pa_cons (pv 1) pa_nil)) pa_nil)))), ?_⟩
    wtm_at "w0"
    wtm_at "wp"
    refine ⟨r, i, x, u, rfl, hp, hu, fun p H1 n1 s1 hp1 => ?_⟩
    wtm_at "wp"
    rw [List.length_map]
    exact k _ s1
theorem ok_lwhole {f : Addr} {fd : FuncData} (F : Fun K "_law_whole" "_law_whole" s_law_whole f fd) (T : Txt K mg Z C_Page) : FnOk P w K mg base CX0 1 f fd ["_law_thing"] spWhole := by
  refine F.ok sc_law_whole (fun vs H Q E h => ?_) (fun cdv A outer s H vs Q E hr h => ?_)
  · obtain ⟨v, rfl, _⟩ := h
    rfl
  · obtain ⟨v, rfl, hv, k⟩ := h
    refine ⟨_, (pss_one (ps_ret (pe_and (pe_callB call_isi (by rfl) T.n_isinstance PyProof.Rows.boot_isinstance (pa_cons (pv 0) (pa_cons (pe_bltn (v := .ty "int") (by rfl) T.n_int PyProof.Rows.boot_int rfl) pa_nil))) (pe_one (pe_not (pe_callB call_isi (by rfl) T.n_isinstance PyProof.Rows.boot_isinstance (pa_cons (pv 0) (pa_cons (pe_bltn (v := .ty "bool") (by rfl) T.n_bool PyProof.Rows.boot_bool rfl) pa_nil)))))))), ?_⟩
    wtm_at "w0"
    cases hv <;> (wtm_at "wp"; exact k)
def spSpots : Sp := fun vs H Q _ => ∃ (q : Addr) (ws : List Str) (u : Str), vs = [.ref q, .str u] ∧ H q = some (.lst (ws.map V.str)) ∧ ws.length ≤ 1000 ∧ ∀ l H', H l = none → Same H H' → H' l = some (.lst ((plc ws u).map fun n : Nat => V.int n)) → Q (.ref l) H'
theorem ok_spots {f : Addr} {fd : FuncData} (F : Fun K "_law_spots" "_law_spots" s_law_spots f fd) (T : Txt K mg Z C_Page) : FnOk P w K mg base CX0 1 f fd ["_law_held", "_law_word"] spSpots := by
  refine F.ok sc_law_spots (fun vs H Q E h => ?_) (fun cdv A outer s H vs Q E hr h => ?_)
  · obtain ⟨q, ws, u, rfl, _⟩ := h
    rfl
  · obtain ⟨q, ws, u, rfl, hq, hwl, k⟩ := h
    refine ⟨_, (pss_one (ps_ret (pe_lc (own := [("_law_at", 2)]) (g := gName 2) rfl sc_law_spots.nd (pi_range1 (by rfl) T.n_range (pa_cons (pe_callB (show CallR _ _ (Bw.rLen K) from cl_len) (by rfl) T.n_len PySem.boot_len (pa_cons (pv 0) pa_nil)) pa_nil)) (blkOk_by (own := [("_law_at", 2)]) (N := ["_law_held", "_law_word", "_law_at"]) (sc := defScope s_law_spots) (by decide +kernel)) (fun _ _ _ _ _ => pg_name (i := 2) sc_law_spots.nd rfl (Or.inl rfl)) (fun _ _ _ _ _ => (pts_one (pt_cmpR op_eq (pe_ix (show IxR _ (rIxL K) from ix_list) (pv 0) (pv 2) (fun _ _ => rfl)) (pv 1) (nomark _)))) (fun _ _ _ _ _ => (pv 2))))), ?_⟩
    wtm_at "w0"
    wtm_at "wp"
    rw [List.length_map]
    refine ⟨_, rfl, by omega, by omega, ?_⟩
    refine lc_fin (n := ws.length) fin_rng (fun j acc H' => Same H H' ∧ acc = ((List.range j).filter fun i => decide (ws[i]? = some u)).map fun n : Nat => V.int n) (fun D H2 nD s2 hD => ⟨s2, rfl⟩) (fun _ _ _ _ _ => trivial) ?_ ?_
    · rintro D j v acc H3 H4 nD hj hac ⟨s3, e3⟩ hD ⟨rfl, rfl⟩
      have hq3 := s3 _ _ hq
      rw [Int.zero_add]
      wtm_at "wp"
      refine ⟨rfl, ?_⟩
      wtm_at "wp"
      have hx : atI (ws.map V.str) (j : Int) = some (.str ws[j]) := atI_nat (by rw [List.getElem?_map, List.getElem?_eq_getElem hj]; rfl)
      refine w_ixL (.of hq3) hx ?_
      wtm_at "wp"
      refine w_dec (fun g => ?_) (fun g => ?_)
      · have g' : ws[j]? = some u := by rw [List.getElem?_eq_getElem hj, V.str.inj g]
        wtm_at "wp"
        refine w_acc hD hac hj (sz (by omega)) (fun H6 k6 h6 => ⟨k6.same s3 nD, ?_⟩)
        rw [e3, List.range_succ, List.filter_append, List.map_append, filt1 (p := fun i => decide (ws[i]? = some u)) (decide_eq_true g')]
        rfl
      · have g' : ¬ ws[j]? = some u := fun z => g (by rw [List.getElem?_eq_getElem hj] at z; rw [Option.some.inj z])
        refine w_skip hD hac ⟨s3, ?_⟩
        rw [e3, List.range_succ, List.filter_append, List.map_append, filt0 (p := fun i => decide (ws[i]? = some u)) (decide_eq_false g'), List.map_nil, List.append_nil]
    · rintro D acc H3 nD ⟨s3, e3⟩ hac hD
      wtm_at "wp"
      rw [e3] at hD
      exact k D H3 nD s3 hD
theorem show_nats : ∀ ns : List Nat, (∀ n ∈ ns, n < 200) → PyData.showableAll (ns.map nD) = true
  | [], _ => by simp [PyData.showableAll]
  | n :: r, h => by
    simp [PyData.showableAll, nD, PyData.showable, show_nats r fun x hx => h x (List.mem_cons_of_mem _ hx)]
    exact Nat.lt_of_le_of_lt (Nat.log2_le_self n) (by have := h n List.mem_cons_self; omega)
theorem dict_nats : ∀ ns : List Nat, PyData.hasDictAll (ns.map nD) = false
  | [] => by simp [PyData.hasDictAll]
  | n :: r => by simp [PyData.hasDictAll, nD, PyData.hasDict, dict_nats r]
theorem depth_nats : ∀ ns : List Nat, PyData.depthAll (ns.map nD) = 0
  | [] => by simp [PyData.depthAll]
  | n :: r => by simp [PyData.depthAll, nD, PyData.depth, depth_nats r]
theorem bulk_nats : ∀ ns : List Nat, PyData.bulkAll (ns.map nD) = ns.length
  | [] => by simp [PyData.bulkAll]
  | n :: r => by simp [PyData.bulkAll, nD, PyData.bulk, bulk_nats r]; omega
theorem short_num : ∀ n, n < 200 → (PyData.shown (.int (n : Nat))).length ≤ 13 := by decide +kernel
theorem short_nats : ∀ ns : List Nat, (∀ n ∈ ns, n < 200) → PyData.leavesShortAll 13 (ns.map nD) = true
  | [], _ => by simp [PyData.leavesShortAll]
  | n :: r, h => by
    rw [List.map_cons, PyData.leavesShortAll, short_nats r fun x hx => h x (List.mem_cons_of_mem _ hx), Bool.and_true]
    rw [nD, PyData.leavesShort]
    exact decide_eq_true (short_num n (h n List.mem_cons_self))
/-- repr of a list of small numbers -/
theorem w_reprN {a : Addr} {ns : List Nat} {H : Hp} {Q : VK} (h : SqL K H a (ns.map fun n : Nat => V.int n)) (hn : ∀ n ∈ ns, n < 200) (hl : ns.length ≤ 1000) (q : Q (.str (PyData.shown (.list (ns.map nD)))) H) : rReprD K [.ref a] H Q := by
  refine ⟨a, _, rfl, .lst h (dpAll_nat (fun _ => rfl) ns), ?_, ?_, ?_, ?_, q⟩
  · rw [PyData.showable]; exact show_nats ns hn
  · rw [PyData.hasDict]; exact dict_nats ns
  · rw [PyData.depth, depth_nats]; decide
  · refine PyData.shown_fits_bulk (B := 13) (by decide) (by decide) ?_ ?_
    · rw [PyData.leavesShort]; exact short_nats ns hn
    · rw [PyData.bulk, bulk_nats]; exact Nat.le_trans hl (by decide)
def spRight (C : Addr) : Sp := fun vs H Q _ => ∃ (r q : Addr) (m : Int) (x : Str), vs = [.ref r, .int m, .ref q] ∧ PgF C H r m x ∧ H q = some (.lst ((wsOf x).map V.str)) ∧ okWs (wsOf x) = true ∧ x.length ≤ 40000 ∧ ∀ H', Same H H' → Q (.bl true) H'
theorem ok_right {f : Addr} {fd : FuncData} (F : Fun K "_law_right" "_law_right" s_law_right f fd) (T : Txt K mg Z C_Page) (f__law_whole : Fn P w K mg base "_law_whole" 1 ["_law_thing"] spWhole) (f__law_spots : Fn P w K mg base "_law_spots" 1 ["_law_held", "_law_word"] spSpots) (me_Page_words : Me P w K mg base C_Page "words" 1 ["self"] (spPWords C_Page)) (me_Page_places : Me P w K mg base C_Page "places" 3 ["self", "word"] (spPPlaces C_Page)) (me_Page_often : Me P w K mg base C_Page "often" 4 ["self", "word"] (spOften C_Page))
    (sp_Page_len : Spc P w K mg base C_Page "__len__" 1 ["self"] (spPLen C_Page)) (sp_Page_str : Spc P w K mg base C_Page "__str__" 1 ["self"] (spPStr C_Page)) : FnOkG P w K mg base CX0 6 f fd ["_law_page", "_law_mark", "_law_held"] (spRight C_Page) := by
  refine Fun_okG F sc_law_right (fun vs H Q E h => ?_) (fun cdv A outer s H vs Q E hgd hr h => ?_)
  · obtain ⟨r, q, m, x, rfl, _⟩ := h
    rfl
  · obtain ⟨r, q, m, x, rfl, hp, hq, hok, hxl, k⟩ := h
    have c1 := T.cl_Page
    have n1 := T.na_Page_number
    obtain ⟨b1, b2, b3⟩ := ok_bounds hok
    refine ⟨_, (pss_cons (ps_if (PW.pt (pw_or (pt_not (pt_val (pe_fn f__law_whole (hr.mono (by omega)) rfl (pa_cons (pe_fld (pv 0) rfl) pa_nil)))) (pw_or (pt_cmpR op_ne (pe_fld (pv 0) rfl) (pv 1) (nomark _)) (pw_or1 (pt_cmpR (op_neD hr.units) (pe_me0 (pv 0) T.cl_Page me_Page_words (hr.mono (by omega))) (pv 2) (nomark _))))))
 (pss_one (ps_ret pe_bl))
 pss_nil)
 (pss_cons (ps_set (i := 3) sc_law_right.nd rfl (.inl rfl) (pe_me0 (pv 0) T.cl_Page me_Page_words (hr.mono (by omega))))
 (pss_cons (ps_expr (pe_bm PySem.F.plainAttrs_list PySem.F.slot_list_append PySem.F.type_list_append mt_append (pv 3) (pa_cons pe_str pa_nil)))
 (pss_cons (ps_set (i := 4) sc_law_right.nd rfl (.inl rfl) (pe_me (pv 0) T.cl_Page me_Page_places (hr.mono (by omega)) (pa_cons (pe_ix ix_list (pe_op op_cat (pv 2) (pe_lst (pa_cons pe_str pa_nil))) pe_int (fun _ _ => rfl)) pa_nil)))
 (pss_cons (ps_set (i := 5) sc_law_right.nd rfl (.inl rfl) (pe_callB (call_reprD hgd (u65_of hr)) (by rfl) T.n_repr PyProof.Rows.boot_repr (pa_cons (pv 4) pa_nil)))
 (pss_cons (ps_for PassesOwn.never rfl (pi_list (pe_op op_cat (pe_slice sl_list (pv 2) po_none (po_some pe_int)) (pe_lst (pa_cons pe_str (pa_cons pe_str (pa_cons pe_str (pa_cons pe_str (pa_cons pe_str pa_nil)))))))) (pg_name (i := 6) sc_law_right.nd rfl (.inl rfl))
 (pss_cons (ps_set (i := 7) sc_law_right.nd rfl (.inl rfl) (pe_fn f__law_spots (hr.mono (by omega)) rfl (pa_cons (pv 2) (pa_cons (pv 6) pa_nil))))
 (pss_cons (ps_set (i := 8) sc_law_right.nd rfl (.inl rfl) (pe_me (pv 0) T.cl_Page me_Page_places (hr.mono (by omega)) (pa_cons (pv 6) pa_nil)))
 (pss_cons (ps_if (PW.pt (pw_or (pt_not (pt_val (pe_callB call_isi (by rfl) T.n_isinstance PyProof.Rows.boot_isinstance (pa_cons (pv 8) (pa_cons (pe_bltn (v := .ty "list") (by rfl) T.n_list PyProof.Rows.boot_list rfl) pa_nil))))) (pw_or (pt_cmpR (op_neD hr.units) (pv 8) (pv 7) (nomark _)) (pw_or1 (pt_not (pt_val (pe_callB (cr_all rfl) (by rfl) T.n_all PyProof.Rows.boot_all (pa_cons (pe_lc (own := [("_law_place", 9)]) (g := gName 9) (tt := tYes) rfl sc_law_right.nd (show PI _ _ _ (iList K _) from (pi_list (pv 8))) (blkOk_by (own := [("_law_place", 9)]) (N := ["_law_page", "_law_mark", "_law_held", "_law_every", "_law_ahead", "_law_kept", "_law_word", "_law_due", "_law_told", "_law_place"]) (sc := defScope s_law_right) (by decide +kernel)) (fun _ _ _ _ _ => pg_name (i := 9) sc_law_right.nd rfl (Or.inl rfl)) (fun _ _ _ _ _ => pts_nil) (fun _ _ _ _ _ => (pe_fn f__law_whole (hr.mono (by omega)) rfl (pa_cons (pv 9) pa_nil)))) pa_nil))))))))
 (pss_one (ps_ret pe_bl))
 pss_nil)
 (pss_cons (ps_expr (pe_bm PySem.F.plainAttrs_list PySem.F.slot_list_append PySem.F.type_list_append mt_append (pv 8) (pa_cons pe_int pa_nil)))
 (pss_cons (ps_if (PW.pt (pw_or (pt_not (pt_val (pe_fn f__law_whole (hr.mono (by omega)) rfl (pa_cons (pe_me (pv 0) T.cl_Page me_Page_often (hr.mono (by omega)) (pa_cons (pv 6) pa_nil)) pa_nil)))) (pw_or (pt_cmpR op_ne (pe_me (pv 0) T.cl_Page me_Page_often (hr.mono (by omega)) (pa_cons (pv 6) pa_nil)) (pe_callB cl_len (by rfl) T.n_len PySem.boot_len (pa_cons (pv 7) pa_nil)) (nomark _)) (pw_or1 (pt_cmpR (op_neD hr.units) (pe_me (pv 0) T.cl_Page me_Page_places (hr.mono (by omega)) (pa_cons (pv 6) pa_nil)) (pv 7) (nomark _))))))
 (pss_one (ps_ret pe_bl))
 pss_nil)
 (pss_one (ps_if (PW.pt (pw_or (pt_cmpR (op_neD hr.units) (pv 8) (pe_op op_cat (pv 7) (pe_lst (pa_cons pe_int pa_nil))) (nomark _)) (pw_or1 (pt_cmpR op_ne (pe_callB (call_reprD hgd (u65_of hr)) (by rfl) T.n_repr PyProof.Rows.boot_repr (pa_cons (pv 4) pa_nil)) (pv 5) (nomark _)))))
 (pss_one (ps_ret pe_bl))
 pss_nil))))))))
 (pss_cons (ps_if (PW.pt (pw_or (pt_cmpR (op_neD hr.units) (pe_me0 (pv 0) T.cl_Page me_Page_words (hr.mono (by omega))) (pv 2) (nomark _)) (pw_or1 (pt_cmpR (op_neD hr.units) (pv 3) (pe_op op_cat (pv 2) (pe_lst (pa_cons pe_str pa_nil))) (nomark _)))))
 (pss_one (ps_ret pe_bl))
 pss_nil)
 (pss_one (ps_ret (pe_and (pe_cmpR op_eq (pe_callB (cl_lenO sp_Page_len (hr.mono (by omega))) (by rfl) T.n_len PySem.boot_len (pa_cons (pv 0) pa_nil)) (pe_callB cl_len (by rfl) T.n_len PySem.boot_len (pa_cons (pv 2) pa_nil)) (nomark _)) (pe_one (pe_cmpR op_eq (pe_callTy (cl_strO sp_Page_str (hr.mono (by omega))) (by rfl) T.n_str PyProof.Rows.boot_str (pa_cons (pv 0) pa_nil)) (pe_join pe_str (pv 2)) (nomark _))))))))))))), ?_⟩
    wtm_at "w0"
    obtain ⟨d, a, st, h1, _⟩ := hp.ex
    wtm_at "wp"
    refine ⟨_, rfl, .int _, ?_⟩
    wtm_at "wp"
    refine iteF' (by simp) ?_
    wtm_at "wp"
    refine ⟨r, m, x, rfl, hp, fun p2 H2 n2 s2 h2 => ?_⟩
    have sOk := ok_strs hok
    wtm_at "wp"
    refine w_neD (k := true) (.lst (.of h2) (dpAll_str _)) (.lst (.of (s2 _ _ hq)) (dpAll_str _)) (shaped_str sOk) (shaped_str sOk) (by rw [eqv_strs]; exact decide_eq_true rfl) ?_
    wtm_at "wp"
    refine ⟨r, m, x, rfl, hp.same s2, fun p3 H3 n3 s3 h3 => ?_⟩
    have S3 := s2.trans s3
    wtm_at "wp"
    refine w_append h3 (Nat.lt_of_le_of_lt (by rw [List.length_map]; omega : ((wsOf x).map V.str).length ≤ 200) (by decide)) (fun H4 k4 h4 => ?_)
    have S4 : Same H H4 := k4.same S3 (same_free s2 n3)
    have hq4 := S4 _ _ hq
    wtm_at "wp"
    rename_i pa na Ha sa ha
    refine w_cat (sa _ _ hq4) ha (sz (by rw [List.length_map]; simp; omega)) (fun pc Hc nc sc hc => ?_)
    wtm_at "wp"
    obtain ⟨u0, hu0, hW0⟩ : ∃ u : Str, atI ((wsOf x).map V.str ++ [V.str "a"]) 0 = some (.str u) ∧ isW u = true := by
      cases e : wsOf x with
      | nil => exact ⟨"a", rfl, by decide +kernel⟩
      | cons u r => exact ⟨u, atI_nat (j := 0) rfl, okWs_all hok u (by rw [e]; simp)⟩
    refine w_ixL (.of hc) hu0 ?_
    wtm_at "wp"
    have S5 : Same H Hc := S4.trans (sa.trans sc)
    refine ⟨r, m, x, u0, rfl, hp.same S5, hW0, fun p6 H6 n6 s6 h6 => ?_⟩
    have S6 := S5.trans s6
    wtm_at "wp"
    have hlt : ∀ {u : Str}, ∀ n ∈ plc (wsOf x) u, n < 200 := fun n hn => by have := (plc_lt hn).1; omega
    have hln : ∀ {u : Str}, (plc (wsOf x) u).length ≤ 1000 := fun {u} => Nat.le_trans (plc_len _ _) (by omega)
    refine w_reprN (.of h6) hlt hln ?_
    have h46 := (sa.trans (sc.trans s6)) _ _ h4
    generalize hkept : PyData.shown _ = kept
    wtm_at "wp"
    rename_i pd nd Hd sd hd pe ne He se he
    rw [show (8 : Int) = ((8 : Nat) : Int) from rfl, cutV_toL, ← List.map_take] at hd
    obtain ⟨L, hL, hLW⟩ : ∃ L : List Str, L = (wsOf x).take 8 ++ (["a", "b", "ab", "zz", "abcdefghijkl"] : List Str) ∧ ∀ u ∈ L, isW u = true := ⟨_, rfl, fun u hu => by
      rcases List.mem_append.mp hu with h | h
      · exact okWs_all hok u (List.mem_of_mem_take h)
      · simp only [List.mem_cons, List.not_mem_nil, or_false] at h
        rcases h with rfl | rfl | rfl | rfl | rfl <;> decide +kernel⟩
    have hLl : L.length ≤ 13 := by rw [hL, List.length_append, List.length_take]; simp only [List.length_cons, List.length_nil]; omega
    refine w_cat (se _ _ hd) he (sz (by rw [List.length_map, List.length_take]; simp; omega)) (fun pf Hf nf sf hf => ?_)
    have hf' : Hf pf = some (.lst (L.map V.str)) := by rw [hf, hL, List.map_append]; rfl
    have Sf : Same H6 Hf := sd.trans (se.trans sf)
    refine ⟨pf, rfl, ⟨_, .of hf'⟩, ?_⟩
    refine for_fin (fin_list (xs := L.map V.str)) (fun j σ H' => ∃ v6 v7 v8 v9 : Option V, σ = [some (.ref r), some (.int m), some (.ref q), some (.ref p3), some (.ref p6), some (.str kept), v6, v7, v8, v9] ∧ Same Hf H') ⟨_, _, _, _, rfl, .refl _⟩ (fun j σ H' _ h => by obtain ⟨_, _, _, _, _, h⟩ := h; exact .of (h _ _ hf')) ?_ ?_
    · rintro j y σ H0 H8 hj ⟨v6, v7, v8, v9, rfl, s8⟩ ⟨rfl, hy⟩
      rw [List.getElem?_map] at hy
      obtain ⟨u, hu, rfl⟩ := Option.map_eq_some_iff.mp hy
      have uW := hLW u (List.mem_of_getElem? hu)
      have S8 : Same H H8 := S6.trans (Sf.trans s8)
      wtm_at "wp"
      refine ⟨q, wsOf x, u, rfl, S8 _ _ hq, by omega, fun l9 H9 n9 s9 h9 => ?_⟩
      have S9 := S8.trans s9
      wtm_at "wp"
      refine ⟨r, m, x, u, rfl, hp.same S9, uW, fun l10 H10 n10 s10 h10 => ?_⟩
      have S10 := S9.trans s10
      have h9' := s10 _ _ h9
      wtm_at "wp"
      have gN : ∀ ns : List Nat, GoodD (.list (ns.map nD)) 2 := good_nD
      refine w_neG (.lst (.of h10) (dpAll_nat (fun _ => rfl) _)) (.lst (.of h9') (dpAll_nat (fun _ => rfl) _)) (gN _) (by decide) ?_
      wtm_at "wp"
      refine lc_fin (fin_list (xs := (plc (wsOf x) u).map fun n : Nat => V.int n)) (fun i acc H' => Same H10 H' ∧ acc = (List.replicate i true).map V.bl) (fun D H3 nD s3 hD => ⟨s3, rfl⟩) (fun i acc H' _ h => .of (h.1 _ _ h10)) ?_ ?_
      · rintro D i v acc H3 H4 nD hi ha ⟨s3, e3⟩ hD ⟨rfl, hv⟩
        rw [List.getElem?_map] at hv
        obtain ⟨n, _, rfl⟩ := Option.map_eq_some_iff.mp hv
        wtm_at "wp"
        refine ⟨rfl, ?_⟩
        wtm_at "wp"
        refine ⟨_, rfl, .int _, ?_⟩
        refine w_acc hD ha hi (sz (by have := hln (u := u); rw [List.length_map]; omega)) (fun H6 k6 h6 => ⟨k6.same s3 nD, ?_⟩)
        rw [e3, List.replicate_succ', List.map_append]
        rfl
      · rintro D acc H11 nD ⟨s11, e11⟩ ha hD
        wtm_at "wp"
        refine w_all (bs := List.replicate _ true) e11 (.of hD) ?_
        rw [show ∀ k, (List.replicate k true).all id = true from fun k => by simp]
        wtm_at "wp"
        refine w_append (s11 _ _ h10) (Nat.lt_of_le_of_lt (by have := hln (u := u); rw [List.length_map]; omega : _ ≤ 2000) (by decide)) (fun H12 k12 h12 => ?_)
        have S11 : Same H10 H11 := s11
        have S9b : Same H9 H12 := k12.same (s10.trans s11) n10
        have S12 : Same H H12 := S9.trans S9b
        have h9b := S9b _ _ h9
        have h6b := (Sf.trans (s8.trans (s9.trans S9b))) _ _ h6
        wtm_at "wp"
        refine ⟨r, m, x, u, rfl, hp.same S12, uW, fun H13 s13 => ?_⟩
        have S13 := S12.trans s13
        wtm_at "wp"
        refine ⟨_, rfl, .int _, ?_⟩
        wtm_at "wp"
        refine ⟨r, m, x, u, rfl, hp.same S13, uW, fun H14 s14 => ?_⟩
        have S14 := S13.trans s14
        wtm_at "wp"
        refine w_lenL (.of ((s13.trans s14) _ _ h9b)) ?_
        rw [List.length_map]
        wtm_at "wp"
        refine iteF' (by simp) ?_
        wtm_at "wp"
        refine ⟨r, m, x, u, rfl, hp.same S14, uW, fun l15 H15 n15 s15 h15 => ?_⟩
        have S15 := S14.trans s15
        have Z := s13.trans (s14.trans s15)
        have h9c := Z _ _ h9b
        have h12c := Z _ _ h12
        have h6c := Z _ _ h6b
        wtm_at "wp"
        refine w_neG (.lst (.of h15) (dpAll_nat (fun _ => rfl) _)) (.lst (.of h9c) (dpAll_nat (fun _ => rfl) _)) (gN _) (by decide) ?_
        wtm_at "wp"
        rename_i pg ng Hg sg hg
        refine w_cat (sg _ _ h9c) hg (sz (by have := hln (u := u); rw [List.length_map]; simp only [List.length_cons, List.length_nil]; omega)) (fun ph Hh nh sh hh => ?_)
        have e0 : ((plc (wsOf x) u).map fun n : Nat => V.int n) ++ [V.int 0] = ((plc (wsOf x) u) ++ [0]).map fun n : Nat => V.int n := by rw [List.map_append]; rfl
        rw [e0] at hh h12c
        refine w_neG (.lst (.of ((sg.trans sh) _ _ h12c)) (dpAll_nat (fun _ => rfl) _)) (.lst (.of hh) (dpAll_nat (fun _ => rfl) _)) (gN _) (by decide) ?_
        wtm_at "wp"
        refine w_reprN (.of ((sg.trans sh) _ _ h6c)) hlt hln ?_
        rw [hkept]
        wtm_at "wp"
        refine iteF' (by simp) ?_
        wtm_at "wp"
        exact ⟨_, _, _, _, rfl, s8.trans (s9.trans (S9b.trans (Z.trans (sg.trans sh))))⟩
    · rintro σ H8 ⟨v6, v7, v8, v9, rfl, s8⟩
      have S8 : Same H H8 := S6.trans (Sf.trans s8)
      wtm_at "wp"
      refine ⟨r, m, x, rfl, hp.same S8, fun p9 H9 n9 s9 h9 => ?_⟩
      have S9 := S8.trans s9
      have h4b := (Sf.trans (s8.trans s9)) _ _ h46
      wtm_at "wp"
      refine w_neD (k := true) (.lst (.of h9) (dpAll_str _)) (.lst (.of (S9 _ _ hq)) (dpAll_str _)) (shaped_str sOk) (shaped_str sOk) (by rw [eqv_strs]; exact decide_eq_true rfl) ?_
      wtm_at "wp"
      rename_i pg ng Hg sg hg
      refine w_cat (sg _ _ (S9 _ _ hq)) hg (sz (by rw [List.length_map]; simp only [List.length_cons, List.length_nil]; omega)) (fun ph Hh nh sh hh => ?_)
      have e0 : (wsOf x).map V.str ++ [V.str "a"] = (wsOf x ++ (["a"] : List Str)).map V.str := by rw [List.map_append]; rfl
      rw [e0] at hh h4b
      have sA : ∀ b ∈ wsOf x ++ (["a"] : List Str), PyData.strOk b = true := fun b hb => by
        rcases List.mem_append.mp hb with h | h
        · exact sOk b h
        · rw [List.mem_singleton.mp h]; decide +kernel
      refine w_neD (k := true) (.lst (.of ((sg.trans sh) _ _ h4b)) (dpAll_str _)) (.lst (.of hh) (dpAll_str _)) (shaped_str sA) (shaped_str sA) (by rw [eqv_strs]; exact decide_eq_true rfl) ?_
      have S10 := S9.trans (sg.trans sh)
      wtm_at "wp"
      have h1s : (" " : Str).length = 1 := rfl
      refine w_lenO (S10 _ _ h1) ⟨r, m, x, rfl, hp.same S10, _, rfl, by omega, ?_⟩
      wtm_at "wp"
      refine iteT' (by simp) ?_
      wtm_at "wp"
      refine w_txtO (S10 _ _ h1) ⟨r, m, x, rfl, hp.same S10, hxl, _, rfl, ?_⟩
      wtm_at "wp"
      refine ⟨" ", q, wsOf x, rfl, rfl, .inl (.of (S10 _ _ hq)), by rw [h1s]; omega, ?_⟩
      rw [join_ws]
      wtm_at "wp"
      rw [decide_eq_true rfl]
      exact k _ S10
end
end K03

namespace K03
abbrev s_law : Stmt := topS 44
theorem sc_law : FnScope ["_law_script", "_law_k", "_law_pool_here", "_law_sort", "_law_kinds_here", "_law_held", "_law_other", "_law_mark", "_law_further", "_law_pages", "_law_turn", "_law_bad", "_law_j"] ["_law_script"] (defScope s_law) := ⟨rfl, rfl, rfl, by decide +kernel, rfl, by decide +kernel, by decide +kernel⟩
section
variable {P : Program} {w : World} {K : PySem.W.Frag} {mg : Str → Option Value} {base : Heap} {Z : Zs} {C_Page : Addr}
theorem PgF.extn {C : Addr} {H H' : Hp} {r : Addr} {i : Int} {x : Str} (h : PgF C H r i x) (e : LamX.ExtN H H') : PgF C H' r i x := by
  obtain ⟨d, a, s, h1, h2, kvs, M, h3, h4, h5, h6, h7, h8⟩ := h
  exact ⟨d, a, s, e _ _ h1 (fun _ z => by cases z), e _ _ h2 (fun _ z => by cases z), kvs, M, e _ _ h3 (fun _ z => by cases z), h4, h5, h6, fun w hw => by obtain ⟨q, g1, g2⟩ := h7 w hw; exact ⟨q, g1, e _ _ g2 (fun _ z => by cases z)⟩, h8⟩
theorem Pool.ne_strs {H : Hp} {p q : Addr} {n : Nat} {us : List Str} (h : Pool H p n) (hq : H q = some (.lst (us.map V.str))) : q ≠ p := fun z => by
  obtain ⟨a, b, c, e, _⟩ := h
  rw [z, e] at hq
  cases us with
  | nil => cases hq
  | cons u r => cases hq
theorem w_mkK {C : Addr} {n m : Nat} {sp : Sp} {gV : List V → List V → List V} {E : XK} {t tk : TA} {σ : L2.St} {H : Hp} {Q : VK} (h : t σ H fun vs H1 => tk σ H1 fun zs H2 => vs.length = n ∧ zs.length = m ∧ ∀ x dx, H2 x = none → H2 dx = none → dx ≠ x →
  sp (gV (.ref x :: vs) zs) (upd (upd H2 dx (.own x)) x (.ins C dx [])) (fun v H3 => v = .non ∧ Q (.ref x) H3) E) : tMakeK C n m sp gV E t tk σ H Q := h
def spLaw (K : PySem.W.Frag) (TT : List (Addr × Str)) : Sp := fun vs H Q _ => ∃ (a : Addr) (ns : List Int), vs = [.ref a] ∧ SqL K H a (ns.map V.int) ∧ ns.length ≤ 63 ∧ LamX.Tabs TT H ∧ ∀ H', Q (.bl true) H'
theorem ok_law {f c P1 : Addr} {fd : FuncData} {TT : List (Addr × Str)} (F : FunC K "law" "law" s_law f fd c) (T : Txt K mg Z C_Page) (hTB : LamX.TabB base mg c P1) (hmT : (P1, lamN "law") ∈ TT) (hu : ∀ p ∈ TT, p.1 = P1 → p.2 = lamN "law")
    (f__law_pool : Fn P w K mg base "_law_pool" 1 ["_law_script", "_law_at"] (spPool K)) (f__law_take : Fn P w K mg base "_law_take" 1 ["_law_pool_here", "_law_many"] spTake) (f__law_kinds : Fn P w K mg base "_law_kinds" 2 ["_law_pool_here"] spKinds) (f__law_words : Fn P w K mg base "_law_words" 2 ["_law_pool_here", "_law_kinds_here", "_law_most"] spWordsL)
    (mk_Page_1 : Mkr P w K mg base "Page" C_Page 5 ["self", "number", "text"] [.str ""] (spPageN C_Page)) (mk_Page_2 : Mkr P w K mg base "Page" C_Page 5 ["self", "number", "text"] [] (spPageN C_Page)) (mk_Page_text_number : MkrXK P w K mg base "Page" C_Page 5 ["self", "number", "text"] ["text", "number"] (fun vs zs => vs ++ zs.reverse) (spPageN C_Page))
    (f__law_right : FnG P w K mg base "_law_right" 6 ["_law_page", "_law_mark", "_law_held"] (spRight C_Page)) (me_Page_places : MeX P w K mg base C_Page "places" 3 ["self", "word"] (spPlcB C_Page Z)) (me_Page_often : MeX P w K mg base C_Page "often" 4 ["self", "word"] (spPlcB C_Page Z))
    (f__law_how : Asks P w K mg base "_law_how" "_law_deed" ["_law_deed", "_law_e"] s_law_how 2 (TTHow K Z)) : FnOkG P w K mg base CX0 9 f fd ["_law_script"] (spLaw K TT) := by
  have hc := T.cl_Page
  refine FunC_okG F sc_law (fun vs H Q E h => ?_) (fun A outer s H vs Q E hgd hr h => ?_)
  · obtain ⟨a, ns, rfl, _⟩ := h
    rfl
  · obtain ⟨a, ns, rfl, hS, hlen, hT, k⟩ := h
    have hu0 := hr.units
    refine ⟨_, (pss_cons (ps_for PassesOwn.never rfl (pi_range1 (by rfl) T.n_range (pa_cons (pe_callB (cl_max rfl) (by rfl) T.n_max PyProof.Rows.boot_max (pa_cons pe_int (pa_cons (pe_callB (cl_min rfl) (by rfl) T.n_min PyProof.Rows.boot_min (pa_cons pe_int (pa_cons (pe_callB cl_len (by rfl) T.n_len PySem.boot_len (pa_cons (pv 0) pa_nil)) pa_nil))) pa_nil))) pa_nil)) (pg_name (i := 1) sc_law.nd rfl (.inl rfl))
 (pss_cons (ps_set (i := 2) sc_law.nd rfl (.inl rfl) (pe_fn f__law_pool (hr.mono (by omega)) rfl (pa_cons (pv 0) (pa_cons (pv 1) pa_nil))))
 (pss_cons (ps_set (i := 3) sc_law.nd rfl (.inl rfl) (pe_fn f__law_take (hr.mono (by omega)) rfl (pa_cons (pv 2) (pa_cons pe_int pa_nil))))
 (pss_cons (ps_set (i := 4) sc_law.nd rfl (.inr rfl) (pe_fn f__law_kinds (hr.mono (by omega)) rfl (pa_cons (pv 2) pa_nil)))
 (pss_cons (ps_set (i := 5) sc_law.nd rfl (.inl rfl) (pe_fn f__law_words (hr.mono (by omega)) rfl (pa_cons (pv 2) (pa_cons (pv 4) (pa_cons pe_int pa_nil)))))
 (pss_cons (ps_if (pt_cmpR op_eq (pv 3) pe_int (nomark _))
 (pss_one (ps_setLc (i := 5) (own := [("_law_j", 12)]) (g := gName 12) (tt := tYes) rfl sc_law.nd rfl rfl (sw_true rfl rfl rfl (by decide +kernel)) (pi_range1 (by rfl) T.n_range (pa_cons (pe_op op_add pe_int (pe_fn f__law_take (hr.mono (by omega)) rfl (pa_cons (pv 2) (pa_cons pe_int pa_nil)))) pa_nil)) (blkOk_by (own := [("_law_j", 12)]) (N := ["_law_script", "_law_k", "_law_pool_here", "_law_sort", "_law_kinds_here", "_law_held", "_law_other", "_law_mark", "_law_further", "_law_pages", "_law_turn", "_law_bad", "_law_j"]) (sc := defScope s_law) (by decide +kernel)) (fun _ _ _ _ _ => pg_name (i := 12) sc_law.nd rfl (Or.inl rfl)) (fun _ _ _ _ _ => pts_nil) (fun _ _ _ _ _ => (pe_ix (show IxR _ (rIxL K) from ix_list) (pv 4) (pe_op op_mod (pe_op op_mulU (pv 12) (pv 12)) (pe_callB (show CallR _ _ (Bw.rLen K) from cl_len) (by rfl) T.n_len PySem.boot_len (pa_cons (pv 4) pa_nil))) (fun _ _ => rfl)))))
 pss_nil)
 (pss_cons (ps_set (i := 6) sc_law.nd rfl (.inl rfl) (pe_fn f__law_words (hr.mono (by omega)) rfl (pa_cons (pv 2) (pa_cons (pv 4) (pa_cons pe_int pa_nil)))))
 (pss_cons (ps_par (i := 7) (j := 8) (by rfl) sc_law.nd rfl rfl (by decide) rfl rfl (pa_cons (pe_op op_add pe_int (pe_fn f__law_take (hr.mono (by omega)) rfl (pa_cons (pv 2) (pa_cons pe_int pa_nil)))) (pa_cons (pe_op op_add pe_int (pe_fn f__law_take (hr.mono (by omega)) rfl (pa_cons (pv 2) (pa_cons pe_int pa_nil)))) pa_nil)) (by rfl))
 (pss_cons (ps_set (i := 9) sc_law.nd rfl (.inr rfl) (pe_lst (pa_cons (pe_mkr mk_Page_2 (hr.mono (by omega)) rfl (pa_cons (pv 7) (pa_cons (pe_join pe_str (pv 5)) pa_nil))) (pa_cons (pe_mkxk mk_Page_text_number lets0 (hr.mono (by omega)) rfl (pk_cons (pe_join pe_str (pv 6)) (pk_cons (pv 8) pk_nil))) pa_nil))))
 (pss_cons (ps_if (pt_cmpR op_eq (pv 3) pe_int (nomark _))
 (pss_cons (ps_asg (pe_mkr mk_Page_1 (hr.mono (by omega)) rfl (pa_cons (pv 8) pa_nil)) (pg_sub (pv 9) pe_int set_list))
 (pss_one (ps_set (i := 6) sc_law.nd rfl (.inl rfl) (pe_lst pa_nil))))
 pss_nil)
 (pss_cons (ps_for PassesOwn.never rfl (pi_range1 (by rfl) T.n_range (pa_cons pe_int pa_nil)) (pg_name (i := 10) sc_law.nd rfl (.inl rfl))
 (pss_one (ps_if (PW.pt (pw_or (pt_not (pt_val (pe_fg f__law_right hgd (hr.mono (by omega)) rfl (pa_cons (pe_ix ix_list (pv 9) pe_int (fun _ _ => rfl)) (pa_cons (pv 7) (pa_cons (pv 5) pa_nil)))))) (pw_or1 (pt_not (pt_val (pe_fg f__law_right hgd (hr.mono (by omega)) rfl (pa_cons (pe_ix ix_list (pv 9) pe_int (fun _ _ => rfl)) (pa_cons (pv 8) (pa_cons (pv 6) pa_nil)))))))))
 (pss_one (ps_ret pe_bl))
 pss_nil)))
 (pss_one (ps_for PassesOwn.never rfl (pi_tup (pe_tup (pa_cons pe_str (pa_cons pe_str (pa_cons pe_str (pa_cons pe_non (pa_cons pe_int (pa_cons (pe_tup (pa_cons pe_str pa_nil)) (pa_cons (pe_lst (pa_cons pe_str pa_nil)) (pa_cons pe_str pa_nil)))))))))) (pg_name (i := 11) sc_law.nd rfl (.inr rfl))
 (pss_cons (ps_if (pt_cmpR op_ne (pe_asks (T := TT) (j := 6) f__law_how rfl (by exact hTB) (by rfl) (by rfl) hmT hu (hr.mono (by omega)) (hr.mono (by omega)) (by rfl) rfl (fun _ _ _ _ _ => rfl) (fun A' outer' s' H' E' f' c' hr' => (pe_mex (pe_ix (show IxR _ (rIxL K) from ix_list) (pv 9) pe_int (fun _ _ => rfl)) T.cl_Page me_Page_places (lets_of takesLam) (hr'.mono (by omega)) (pa_cons (pv 11) pa_nil)))) pe_str (nomark _))
 (pss_one (ps_ret pe_bl))
 pss_nil)
 (pss_one (ps_if (pt_cmpR op_ne (pe_asks (T := TT) (j := 6) f__law_how rfl (by exact hTB) (by rfl) (by rfl) hmT hu (hr.mono (by omega)) (hr.mono (by omega)) (by rfl) rfl (fun _ _ _ _ _ => rfl) (fun A' outer' s' H' E' f' c' hr' => (pe_mex (pe_ix (show IxR _ (rIxL K) from ix_list) (pv 9) pe_int (fun _ _ => rfl)) T.cl_Page me_Page_often (lets_of takesLam) (hr'.mono (by omega)) (pa_cons (pv 11) pa_nil)))) pe_str (nomark _))
 (pss_one (ps_ret pe_bl))
 pss_nil))))))))))))))))
 (pss_one (ps_ret pe_bl))), ?_⟩
    wtm_at "w0"
    wtm_at "wp"
    rw [List.length_map]
    refine ⟨_, rfl, by omega, by omega, for_fin (n := (max (1 : Int) (min (8 : Int) (ns.length : Int))).toNat) fin_rng (fun i σ H' => ∃ v1 v2 v3 v4 v5 v6 v7 v8 v9 v10 v11 v12 : Option V, σ = [some (.ref a), v1, v2, v3, v4, v5, v6, v7, v8, v9, v10, v11, v12] ∧ Grown TT H H') ?_ (fun _ _ _ _ _ => trivial) ?_ ?_⟩
    · exact ⟨_, _, _, _, _, _, _, _, _, _, _, _, rfl, Grown.of hT (.refl _)⟩
    · rintro i x σ H0 H0' hi ⟨v1, v2, v3, v4, v5, v6, v7, v8, v9, v10, v11, v12, rfl, g0⟩ ⟨rfl, rfl⟩
      wtm_at "wp"
      rw [Int.zero_add]
      refine ⟨a, ns, i, rfl, extn_seq g0.e hS, by omega, fun p H1 np s1 p1 => ?_⟩
      wtm_at "wp"
      refine ⟨p, 8, _, rfl, p1, by omega, by decide, by decide, fun so H2 so0 so1 k2 p2 => ?_⟩
      wtm_at "wp"
      refine ⟨p, _, rfl, p2, by omega, fun q ws H3 nq k3 p3 hq hw1 hw5 hwW hwN => ?_⟩
      wtm_at "wp"
      refine ⟨p, q, _, 30, ws, rfl, p3, by omega, hq, hw1, by omega, by omega, fun r us H4 nr k4 p4 hr4 hul hum => ?_⟩
      have nqp := p3.ne_strs hq
      have nrp := p4.ne_strs hr4
      have K14 : KB p H1 H4 := k2.trans (k3.trans k4)
      have hq4 := k4 _ _ hq nqp
      wtm_at "wp"
      refine w_decR (fun σ H5 => ∃ (r : Addr) (us : List Str) (v6 v7 v8 v9 v10 v11 v12 : Option V), σ = [some (.ref a), some (.int i), some (.ref p), some (.int so), some (.ref q), some (.ref r), v6, v7, v8, v9, v10, v11, v12] ∧ KB p H1 H5 ∧ Pool H5 p 100 ∧ H5 r = some (.lst (us.map V.str)) ∧ us.length ≤ 120 ∧ (∀ u ∈ us, isW u = true) ∧ H5 q = some (.lst (ws.map V.str))) (fun h5 => ?_) (fun hR h5 => ?_) ?_
      · exact ⟨r, us, _, _, _, _, _, _, _, rfl, K14, p4.le (by omega), hr4, by omega, fun u hu => hwW u (hum u hu), hq4⟩
      · wtm_at "wp"
        refine ⟨p, 2, _, rfl, p4, by omega, by decide, by decide, fun d5 H5 d50 d54 k5 p5 => ?_⟩
        wtm_at "wp"
        refine ⟨_, rfl, by omega, by omega, ?_⟩
        have hq5 := k5 _ _ hq4 nqp
        refine lc_fin fin_rng (fun i acc H' => Same H5 H' ∧ ∃ ys : List Str, acc = ys.map V.str ∧ ys.length = i ∧ ∀ y ∈ ys, y ∈ ws) (fun D H6 nD s6 hD => ⟨s6, [], rfl, rfl, fun y hy => absurd hy (by simp)⟩) (fun _ _ _ _ _ => trivial) ?_ ?_
        · rintro D j v acc H6 H7 nD hj ha ⟨s6, ys, e6, hl6, hy6⟩ hD ⟨rfl, rfl⟩
          have hq6 := s6 _ _ hq5
          wtm_at "wp"
          refine ⟨rfl, ?_⟩
          wtm_at "wp"
          · rw [List.length_map]
            omega
          rw [List.length_map]
          generalize hz : (0 + (j : Int)) * (0 + (j : Int)) = z
          have h0 := Int.emod_nonneg z (show ((ws.length : Nat) : Int) ≠ 0 by omega)
          have h1 := Int.emod_lt_of_pos z (show (0 : Int) < ((ws.length : Nat) : Int) by omega)
          obtain ⟨m, hm⟩ := Int.eq_ofNat_of_zero_le h0
          have hx : atI (ws.map V.str) (z % ((ws.length : Nat) : Int)) = some (.str (ws[m]'(by omega))) := by
            rw [hm]
            exact atI_nat (by rw [List.getElem?_map, List.getElem?_eq_getElem (by omega)]; rfl)
          refine w_ixL (.of hq6) hx ?_
          refine w_acc hD ha hj (sz (by omega)) (fun H8 k8 h8 => ⟨k8.same s6 nD, ys ++ [ws[m]'(by omega)], by rw [e6]; simp, by simp [hl6], fun y hy => ?_⟩)
          rcases List.mem_append.mp hy with h | h
          · exact hy6 y h
          · rw [List.mem_singleton.mp h]
            exact List.getElem_mem _
        · rintro D acc H6 nD ⟨s6, ys, e6, hl6, hy6⟩ ha hD
          refine hR _ _ ⟨D, ys, _, _, _, _, _, _, _, rfl, K14.trans (k5.trans (KB.of s6)), p5.mono s6 (by omega), by rw [hD, e6], by omega, fun y hy => hwW y (hy6 y hy), s6 _ _ hq5⟩
      · rintro σ H5 ⟨r, us, v6, v7, v8, v9, v10, v11, v12, rfl, K15, p5, hr5, hul, huW, hq5⟩
        wtm_at "wp"
        have nrp5 := p5.ne_strs hr5
        refine ⟨p, q, _, 9, ws, rfl, p5, by omega, hq5, hw1, by omega, by omega, fun o os H6 no k6 p6 ho6 hol hom => ?_⟩
        have nop := p6.ne_strs ho6
        have hr6 := k6 _ _ hr5 nrp5
        have hoW : ∀ u ∈ os, isW u = true := fun u hu => hwW u (hom u hu)
        wtm_at "wp"
        refine ⟨p, 9999, _, rfl, p6, by omega, by decide, by decide, fun d7 H7 d70 d71 k7 p7 => ?_⟩
        wtm_at "wp"
        refine ⟨p, 9999, _, rfl, p7, by omega, by decide, by decide, fun d8 H8 d80 d81 k8 p8 => ?_⟩
        have hr8 := k8 _ _ (k7 _ _ hr6 nrp5) nrp5
        have ho8 := k8 _ _ (k7 _ _ ho6 nop) nop
        have K18 : KB p H1 H8 := K15.trans (k6.trans (k7.trans k8))
        clear k7 k8 k6
        have hwu := ws_join huW
        have hjl := join_len huW
        have oku : okWs us = true := by unfold okWs; rw [decide_eq_true (by omega), List.all_eq_true.mpr huW]; rfl
        have hwo := ws_join hoW
        have hjo := join_len hoW
        have oko : okWs os = true := by unfold okWs; rw [decide_eq_true (by omega), List.all_eq_true.mpr hoW]; rfl
        have h1s : (" " : Str).length = 1 := rfl
        have sumu := (ok_bounds oku).2.2
        have sumo := (ok_bounds oko).2.2
        wtm_at "wp"
        refine ⟨" ", r, us, rfl, rfl, .inl (.of hr8), by rw [h1s]; omega, ?_⟩
        wtm_at "wp"
        rename_i pg dg ng ndg H9 s9 h9
        refine ⟨pg, dg, _, _, rfl, h9, by omega, by omega, by omega, by rw [hwu]; exact oku, fun H10 k10 g10 _ => ⟨rfl, ?_⟩⟩
        have s10 : Same H8 H10 := k10.same s9 ng
        have hr10 := s10 _ _ hr8
        have ho10 := s10 _ _ ho8
        wtm_at "wp"
        refine w_mkK ?_
        wtm_at "wp"
        refine ⟨" ", o, os, rfl, rfl, .inl (.of ho10), by rw [h1s]; omega, ?_⟩
        wtm_at "wp"
        refine ⟨rfl, rfl, fun pg2 dg2 ng2 ndg2 ne2 => ?_⟩
        generalize eR : upd (upd H10 dg2 (.own pg2)) pg2 _ = H11
        have s11 := same_make ng2 ndg2 eR
        have h11 := at_gen eR
        clear eR
        refine ⟨pg2, dg2, _, _, rfl, h11, by omega, by omega, by omega, by rw [hwo]; exact oko, fun H12 k12 g12 _ => ⟨rfl, ?_⟩⟩
        have s12 : Same H10 H12 := k12.same s11 ng2
        have G10 := g10.same s12
        have hr12 := s12 _ _ hr10
        have ho12 := s12 _ _ ho10
        wtm_at "wp"
        rename_i l nl H13 s13 h13
        have S8 : Same H8 H12 := s10.trans s12
        refine w_decR (fun σ H' => ∃ (pg2 o : Addr) (x2 : Str) (v10 v11 v12 : Option V), σ = [some (.ref a), some (.int i), some (.ref p), some (.int so), some (.ref q), some (.ref r), some (.ref o), some (.int (1 + d7)), some (.int (1 + d8)), some (.ref l), v10, v11, v12] ∧ H' l = some (.lst [.ref pg, .ref pg2]) ∧ PgF C_Page H' pg2 (1 + d8) x2 ∧ H' o = some (.lst ((wsOf x2).map V.str)) ∧ okWs (wsOf x2) = true ∧ x2.length ≤ 40000 ∧ Same H12 H') (fun _ => ?_) (fun hR h5 => ?_) ?_
        · exact ⟨pg2, o, _, _, _, _, rfl, h13, g12.same s13, by rw [hwo]; exact s13 _ _ ho12, by rw [hwo]; exact oko, by omega, s13⟩
        · wtm_at "wp"
          rename_i pg3 dg3 ng3 ndg3 H14 s14 h14
          refine ⟨pg3, dg3, _, _, rfl, h14, by omega, by omega, by decide, by decide +kernel, fun H15 k15 g15 f15 => ⟨rfl, ?_⟩⟩
          have s15 : Same H13 H15 := k15.same s14 ng3
          have h13' := s15 _ _ h13
          repeat ((fail_if_success (with_reducible refine hR _ _ ?_)); wtm_at "w1")
          rename_i H16 k16 h16 o3 no3 H17 s17 h17
          have s16 : Same H12 H16 := k16.same (s13.trans s15) nl
          refine hR _ _ ⟨pg3, o3, "", _, _, _, rfl, s17 _ _ h16, ?_, by rw [h17]; rfl, by decide +kernel, by decide, s16.trans s17⟩
          have nlp : l ≠ pg3 := ne_of_none h13 ng3
          exact (f15 (fun q => q = l) H16 (fun q hq => by rw [hq]; exact ⟨nlp, by rw [s14 _ _ h13]; simp⟩) (fun c o h n => k16 c o h n)).same s17
        · rintro σ H14 ⟨pg2, o, x2, v10, v11, v12, rfl, hl14, g14, ho14, ok2, hx2, S14⟩
          have G14 := G10.same S14
          have hr14 := S14 _ _ hr12
          have SZ : Same H0' H14 := by
            have e1 : Same H1 H8 → False ∨ True := fun _ => .inr trivial
            exact ((K18.trans (KB.of (S8.trans S14))).same s1 np)
          have g14' : Grown TT H H14 := g0.trans (Grown.of g0.t SZ)
          wtm_at "wp"
          refine ⟨_, rfl, by decide, by decide, for_fin (n := (2 : Int).toNat) fin_rng (fun e σ H' => ∃ v10 : Option V, σ = [some (.ref a), some (.int i), some (.ref p), some (.int so), some (.ref q), some (.ref r), some (.ref o), some (.int (1 + d7)), some (.int (1 + d8)), some (.ref l), v10, v11, v12] ∧ Same H14 H') ⟨_, rfl, .refl _⟩ (fun _ _ _ _ _ => trivial) ?_ ?_⟩
          · rintro e z σ H20 H21 he ⟨v10, rfl, s21⟩ ⟨rfl, rfl⟩
            wtm_at "wp"
            refine ⟨pg, r, _, _, rfl, G14.same s21, by rw [hwu]; exact s21 _ _ hr14, by rw [hwu]; exact oku, by omega, fun H22 s22 => ?_⟩
            have S22 := s21.trans s22
            have hl22 := S22 _ _ hl14
            wtm_at "wp"
            refine ⟨pg2, o, _, _, rfl, g14.same S22, S22 _ _ ho14, ok2, hx2, fun H23 s23 => ?_⟩
            wtm_at "wp"
            exact ⟨_, rfl, S22.trans s23⟩
          · rintro σ H20 ⟨v10, rfl, s20⟩
            wtm_at "wp"
            rename_i t1 n1 H21 s21 h21 t2 n2 H22 s22 h22 t3 n3 H23 s23 h23
            have SA : Same H14 H23 := s20.trans (s21.trans (s22.trans s23))
            have h1 := s23 _ _ (s22 _ _ h21)
            have h2 := s23 _ _ h22
            have G0 : Grown TT H H23 := g14'.same SA
            have hl23 := SA _ _ hl14
            have pA := G14.same SA
            have pB := g14.same SA
            have odd : ∀ y ∈ [V.str "", V.str "A", V.str "a b", V.non, V.int 1, V.ref t1, V.ref t2, V.str "abcdefghijklm"], TxtV H23 y ∧ isWV y = false := by
              intro y hy
              simp only [List.mem_cons, List.not_mem_nil, or_false] at hy
              rcases hy with rfl | rfl | rfl | rfl | rfl | rfl | rfl | rfl
              · exact ⟨.inl ⟨_, rfl, by decide⟩, by decide +kernel⟩
              · exact ⟨.inl ⟨_, rfl, by decide⟩, by decide +kernel⟩
              · exact ⟨.inl ⟨_, rfl, by decide⟩, by decide +kernel⟩
              · exact ⟨.inr .non, rfl⟩
              · exact ⟨.inr (.int _), rfl⟩
              · exact ⟨.inr (.tup h1), rfl⟩
              · exact ⟨.inr (.lst h2), rfl⟩
              · exact ⟨.inl ⟨_, rfl, by decide⟩, by decide +kernel⟩
            refine for_fin (fin_tup (xs := [V.str "", V.str "A", V.str "a b", V.non, V.int 1, V.ref t1, V.ref t2, V.str "abcdefghijklm"])) (fun j σ H' => ∃ w11 : Option V, σ = [some (.ref a), some (.int i), some (.ref p), some (.int so), some (.ref q), some (.ref r), some (.ref o), some (.int (1 + d7)), some (.int (1 + d8)), some (.ref l), v10, w11, v12] ∧ Grown TT H23 H') ⟨_, rfl, Grown.of G0.t (.refl _)⟩ (fun j σ H' _ h => by obtain ⟨_, _, h⟩ := h; exact .of (h.e _ _ h23 (fun _ z => by cases z))) ?_ ?_
            · rintro j y σ J8 J8' hj ⟨w11, rfl, g8⟩ ⟨rfl, hy⟩
              obtain ⟨oy, wy⟩ := odd y (List.mem_of_getElem? hy)
              have hl8 := g8.e _ _ hl23 (fun _ z => by cases z)
              wtm_at "wp"
              refine w_lam g8.t (fun J9 e9 tt9 => ?_)
              refine w_how ?_
              have g9 : Grown TT H23 J9 := g8.trans ⟨e9, tt9⟩
              have hl9 := g9.e _ _ hl23 (fun _ z => by cases z)
              wtm_at "wp"
              obtain ⟨dA, aA, stA, eA, _⟩ := (pA.extn g9.e).ex
              refine w_meth eA rfl ?_
              wtm_at "wp"
              refine ⟨pg, _, _, y, rfl, pA.extn g9.e, oy.ext g9.e, wy, fun J10 s10 => ⟨Z.NoWord, rfl, .inl ⟨14, "word", T.h_NoWord, rfl, xdOk_none, fun J11 s11 => ?_⟩⟩⟩
              have g11 : Grown TT H23 J11 := g9.same (s10.trans s11)
              wtm_at "wp"
              refine w_lam g11.t (fun J12 e12 tt12 => ?_)
              refine w_how ?_
              have g12 : Grown TT H23 J12 := g11.trans ⟨e12, tt12⟩
              have hl12 := g12.e _ _ hl23 (fun _ z => by cases z)
              wtm_at "wp"
              obtain ⟨dB, aB, stB, eB, _⟩ := (pB.extn g12.e).ex
              refine w_meth eB rfl ?_
              wtm_at "wp"
              refine ⟨pg2, _, _, y, rfl, pB.extn g12.e, oy.ext g12.e, wy, fun J13 s13 => ⟨Z.NoWord, rfl, .inl ⟨14, "word", T.h_NoWord, rfl, xdOk_none, fun J14 s14 => ?_⟩⟩⟩
              wtm_at "wp"
              exact ⟨_, rfl, g12.same (s13.trans s14)⟩
            · rintro σ J8 ⟨w11, rfl, g8⟩
              exact ⟨_, _, _, _, _, _, _, _, _, _, _, _, rfl, G0.trans g8⟩
    · rintro σ H1 ⟨v1, v2, v3, v4, v5, v6, v7, v8, v9, v10, v11, v12, rfl, g1⟩
      wtm_at "wp"
      exact k _
end
end K03

namespace K03
theorem all_mk {l : PySem.W.OpenLaw} {w : World} {K : PySem.W.Frag} {h : Heap} {mg : Str → Option Value} {fa : Addr} (X : K.In h) (G : h.Ns mainGlobals mg) (hfa : mg "law" = some (.ref fa))
    {C_Wrong : Addr}
    {C_NoWord : Addr}
    {C_NoText : Addr}
    {C_NoNumber : Addr}
    {C_NoSize : Addr}
    {C_NoLengths : Addr}
    {C_NoQuery : Addr}
    {C_NoCode : Addr}
    {C_NoRow : Addr}
    {C_NoEntries : Addr}
    {C_NoQueryText : Addr}
    {C_NoPages : Addr}
    {C_NoName : Addr}
    {C_NoQueries : Addr}
    {C_NoShelf : Addr}
    {C_NoDeed : Addr}
    {C_Taken : Addr}
    {C_NoPlace : Addr}
    {C_NoSlot : Addr}
    {tc_LETTERS : Tok}
    {tc_LONGEST : Tok}
    {tc_MOST : Tok}
    {tc_MOST_NUMBER : Tok}
    {C_Page : Addr}
    {f_law_kind : Addr} {od_law_kind an_law_kind : Option Addr} {sl_law_kind : Array (Option Value)} {oc_law_kind kV_law_kind dc_law_kind pm_law_kind ct_law_kind : Value} {cd_law_kind : Value}
    {f_law_how : Addr} {od_law_how an_law_how : Option Addr} {sl_law_how : Array (Option Value)} {oc_law_how kV_law_how dc_law_how pm_law_how ct_law_how : Value} {cd_law_how : Value}
    {f_is_whole : Addr} {od_is_whole an_is_whole : Option Addr} {sl_is_whole : Array (Option Value)} {oc_is_whole kV_is_whole dc_is_whole pm_is_whole ct_is_whole : Value} {cd_is_whole : Value}
    {f_is_word : Addr} {od_is_word an_is_word : Option Addr} {sl_is_word : Array (Option Value)} {oc_is_word kV_is_word dc_is_word pm_is_word ct_is_word : Value} {cd_is_word : Value}
    {f_look_word : Addr} {od_look_word an_look_word : Option Addr} {sl_look_word : Array (Option Value)} {oc_look_word kV_look_word dc_look_word pm_look_word ct_look_word : Value} {cd_look_word : Value}
    {f_look_words : Addr} {od_look_words an_look_words : Option Addr} {sl_look_words : Array (Option Value)} {oc_look_words kV_look_words dc_look_words pm_look_words ct_look_words : Value} {cd_look_words : Value}
    {f_words_of : Addr} {od_words_of an_words_of : Option Addr} {sl_words_of : Array (Option Value)} {oc_words_of kV_words_of dc_words_of pm_words_of ct_words_of : Value} {cd_words_of : Value}
    {f_Page___init__ : Addr} {od_Page___init__ an_Page___init__ : Option Addr} {sl_Page___init__ : Array (Option Value)} {oc_Page___init__ kV_Page___init__ dc_Page___init__ pm_Page___init__ ct_Page___init__ cd_Page___init__ : Value}
    {Td_Page___init__ : Addr} {odT_Page___init__ : Option Addr} {slT_Page___init__ : Array (Option Value)} {ocT_Page___init__ : Value} {nT_Page___init__ : Nat} {tk0_Page___init__ : Tok}
    {f_Page_words : Addr} {od_Page_words an_Page_words : Option Addr} {sl_Page_words : Array (Option Value)} {oc_Page_words kV_Page_words dc_Page_words pm_Page_words ct_Page_words cd_Page_words : Value}
    {f_Page_places : Addr} {od_Page_places an_Page_places : Option Addr} {sl_Page_places : Array (Option Value)} {oc_Page_places kV_Page_places dc_Page_places pm_Page_places ct_Page_places cd_Page_places : Value}
    {f_Page_often : Addr} {od_Page_often an_Page_often : Option Addr} {sl_Page_often : Array (Option Value)} {oc_Page_often kV_Page_often dc_Page_often pm_Page_often ct_Page_often cd_Page_often : Value}
    {f_Page___len__ : Addr} {od_Page___len__ an_Page___len__ : Option Addr} {sl_Page___len__ : Array (Option Value)} {oc_Page___len__ kV_Page___len__ dc_Page___len__ pm_Page___len__ ct_Page___len__ cd_Page___len__ : Value}
    {f_Page___str__ : Addr} {od_Page___str__ an_Page___str__ : Option Addr} {sl_Page___str__ : Array (Option Value)} {oc_Page___str__ kV_Page___str__ dc_Page___str__ pm_Page___str__ ct_Page___str__ cd_Page___str__ : Value}
    {f_law_pool : Addr} {od_law_pool an_law_pool : Option Addr} {sl_law_pool : Array (Option Value)} {oc_law_pool kV_law_pool dc_law_pool pm_law_pool ct_law_pool : Value} {cd_law_pool : Value}
    {f_law_take : Addr} {od_law_take an_law_take : Option Addr} {sl_law_take : Array (Option Value)} {oc_law_take kV_law_take dc_law_take pm_law_take ct_law_take : Value} {cd_law_take : Value}
    {f_law_kinds : Addr} {od_law_kinds an_law_kinds : Option Addr} {sl_law_kinds : Array (Option Value)} {oc_law_kinds kV_law_kinds dc_law_kinds pm_law_kinds ct_law_kinds : Value} {cd_law_kinds : Value}
    {f_law_words : Addr} {od_law_words an_law_words : Option Addr} {sl_law_words : Array (Option Value)} {oc_law_words kV_law_words dc_law_words pm_law_words ct_law_words : Value} {cd_law_words : Value}
    {f_law_whole : Addr} {od_law_whole an_law_whole : Option Addr} {sl_law_whole : Array (Option Value)} {oc_law_whole kV_law_whole dc_law_whole pm_law_whole ct_law_whole : Value} {cd_law_whole : Value}
    {f_law_spots : Addr} {od_law_spots an_law_spots : Option Addr} {sl_law_spots : Array (Option Value)} {oc_law_spots kV_law_spots dc_law_spots pm_law_spots ct_law_spots : Value} {cd_law_spots : Value}
    {f_law_right : Addr} {od_law_right an_law_right : Option Addr} {sl_law_right : Array (Option Value)} {oc_law_right kV_law_right dc_law_right pm_law_right ct_law_right : Value} {cd_law_right : Value}
    {f_law : Addr} {od_law an_law : Option Addr} {sl_law : Array (Option Value)} {oc_law kV_law dc_law pm_law ct_law : Value} {c0_law P_law : Addr}
    (aC_Wrong : PySem.W.nsIn K mainGlobals "Wrong" = some (some (.ref C_Wrong)))
    (aC_NoWord : PySem.W.nsIn K mainGlobals "NoWord" = some (some (.ref C_NoWord)))
    (aC_NoText : PySem.W.nsIn K mainGlobals "NoText" = some (some (.ref C_NoText)))
    (aC_NoNumber : PySem.W.nsIn K mainGlobals "NoNumber" = some (some (.ref C_NoNumber)))
    (aC_NoSize : PySem.W.nsIn K mainGlobals "NoSize" = some (some (.ref C_NoSize)))
    (aC_NoLengths : PySem.W.nsIn K mainGlobals "NoLengths" = some (some (.ref C_NoLengths)))
    (aC_NoQuery : PySem.W.nsIn K mainGlobals "NoQuery" = some (some (.ref C_NoQuery)))
    (aC_NoCode : PySem.W.nsIn K mainGlobals "NoCode" = some (some (.ref C_NoCode)))
    (aC_NoRow : PySem.W.nsIn K mainGlobals "NoRow" = some (some (.ref C_NoRow)))
    (aC_NoEntries : PySem.W.nsIn K mainGlobals "NoEntries" = some (some (.ref C_NoEntries)))
    (aC_NoQueryText : PySem.W.nsIn K mainGlobals "NoQueryText" = some (some (.ref C_NoQueryText)))
    (aC_NoPages : PySem.W.nsIn K mainGlobals "NoPages" = some (some (.ref C_NoPages)))
    (aC_NoName : PySem.W.nsIn K mainGlobals "NoName" = some (some (.ref C_NoName)))
    (aC_NoQueries : PySem.W.nsIn K mainGlobals "NoQueries" = some (some (.ref C_NoQueries)))
    (aC_NoShelf : PySem.W.nsIn K mainGlobals "NoShelf" = some (some (.ref C_NoShelf)))
    (aC_NoDeed : PySem.W.nsIn K mainGlobals "NoDeed" = some (some (.ref C_NoDeed)))
    (aC_Taken : PySem.W.nsIn K mainGlobals "Taken" = some (some (.ref C_Taken)))
    (aC_NoPlace : PySem.W.nsIn K mainGlobals "NoPlace" = some (some (.ref C_NoPlace)))
    (aC_NoSlot : PySem.W.nsIn K mainGlobals "NoSlot" = some (some (.ref C_NoSlot)))
    (g_LETTERS : PySem.W.nsIn K mainGlobals "LETTERS" = some (some (.str "abcdefghijklmnopqrstuvwxyz" tc_LETTERS)))
    (g_LONGEST : PySem.W.nsIn K mainGlobals "LONGEST" = some (some (.int 12 tc_LONGEST)))
    (g_MOST : PySem.W.nsIn K mainGlobals "MOST" = some (some (.int 120 tc_MOST)))
    (g_MOST_NUMBER : PySem.W.nsIn K mainGlobals "MOST_NUMBER" = some (some (.int 9999 tc_MOST_NUMBER)))
    (z_isinstance : PySem.W.nsIn K mainGlobals "isinstance" = some none)
    (z_bool : PySem.W.nsIn K mainGlobals "bool" = some none)
    (z_int : PySem.W.nsIn K mainGlobals "int" = some none)
    (z_str : PySem.W.nsIn K mainGlobals "str" = some none)
    (z_list : PySem.W.nsIn K mainGlobals "list" = some none)
    (z_tuple : PySem.W.nsIn K mainGlobals "tuple" = some none)
    (z_len : PySem.W.nsIn K mainGlobals "len" = some none)
    (z_all : PySem.W.nsIn K mainGlobals "all" = some none)
    (z_max : PySem.W.nsIn K mainGlobals "max" = some none)
    (z_min : PySem.W.nsIn K mainGlobals "min" = some none)
    (z_range : PySem.W.nsIn K mainGlobals "range" = some none)
    (z_abs : PySem.W.nsIn K mainGlobals "abs" = some none)
    (z_enumerate : PySem.W.nsIn K mainGlobals "enumerate" = some none)
    (z_repr : PySem.W.nsIn K mainGlobals "repr" = some none)
    (z_ValueError : PySem.W.nsIn K mainGlobals "ValueError" = some none)
    (z_IndexError : PySem.W.nsIn K mainGlobals "IndexError" = some none)
    (q_NoWord : PySem.W.excIn K C_NoWord PySem.HandSPX.veTail "ValueError.__new__" = true)
    (kp_NoWord : PySem.W.keepIn K (.ref C_NoWord) = true)
    (e1_NoWord : PySem.W.subIn K (.ref C_NoWord) (.type "BaseException") = some true)
    (e2_NoWord : PySem.W.typeIn K (.ref C_NoWord) = some (.type "type"))
    (h_NoWord : howPlB K (⟨C_Wrong, C_NoWord, C_NoText, C_NoNumber, C_NoSize, C_NoLengths, C_NoQuery, C_NoCode, C_NoRow, C_NoEntries, C_NoQueryText, C_NoPages, C_NoName, C_NoQueries, C_NoShelf, C_NoDeed, C_Taken, C_NoPlace, C_NoSlot⟩ : Zs) C_NoWord 14 = true)
    (aC_Page : PySem.W.nsIn K mainGlobals "Page" = some (some (.ref C_Page)))
    (pg_Page : PySem.W.plainGet K C_Page Str.empty = true)
    (hd_Page : PySem.W.hasDictIn K C_Page = true)
    (po_Page : PySem.W.plainOver K C_Page = true)
    (sa_Page : PySem.W.findIn K (.ref C_Page) "__setattr__" = some (some (.builtin "object.__setattr__")))
    (na_Page_number : PySem.W.findIn K (.ref C_Page) "number" = some none)
    (na_Page_held : PySem.W.findIn K (.ref C_Page) "held" = some none)
    (na_Page_text : PySem.W.findIn K (.ref C_Page) "text" = some none)
    (na_Page_stands : PySem.W.findIn K (.ref C_Page) "stands" = some none)
    (a_law_kind : PySem.W.nsIn K mainGlobals "_law_kind" = some (some (.ref f_law_kind)))
    (l_law_kind : K.lookup f_law_kind = some ⟨oc_law_kind, od_law_kind, .func (PySem.W.fnOf "_law_kind" "_law_kind" (defArgs s_law_kind) (defBody s_law_kind) (defScope s_law_kind) .none kV_law_kind dc_law_kind pm_law_kind an_law_kind cd_law_kind ct_law_kind), sl_law_kind⟩)
    (c_law_kind : PySem.W.codeIn K cd_law_kind "_law_kind" = true)
    (k_law_kind : PySem.W.keepIn K (.ref f_law_kind) = true)
    (a_law_how : PySem.W.nsIn K mainGlobals "_law_how" = some (some (.ref f_law_how)))
    (l_law_how : K.lookup f_law_how = some ⟨oc_law_how, od_law_how, .func (PySem.W.fnOf "_law_how" "_law_how" (defArgs s_law_how) (defBody s_law_how) (defScope s_law_how) .none kV_law_how dc_law_how pm_law_how an_law_how cd_law_how ct_law_how), sl_law_how⟩)
    (c_law_how : PySem.W.codeIn K cd_law_how "_law_how" = true)
    (k_law_how : PySem.W.keepIn K (.ref f_law_how) = true)
    (a_is_whole : PySem.W.nsIn K mainGlobals "is_whole" = some (some (.ref f_is_whole)))
    (l_is_whole : K.lookup f_is_whole = some ⟨oc_is_whole, od_is_whole, .func (PySem.W.fnOf "is_whole" "is_whole" (defArgs s_is_whole) (defBody s_is_whole) (defScope s_is_whole) .none kV_is_whole dc_is_whole pm_is_whole an_is_whole cd_is_whole ct_is_whole), sl_is_whole⟩)
    (c_is_whole : PySem.W.codeIn K cd_is_whole "is_whole" = true)
    (k_is_whole : PySem.W.keepIn K (.ref f_is_whole) = true)
    (a_is_word : PySem.W.nsIn K mainGlobals "is_word" = some (some (.ref f_is_word)))
    (l_is_word : K.lookup f_is_word = some ⟨oc_is_word, od_is_word, .func (PySem.W.fnOf "is_word" "is_word" (defArgs s_is_word) (defBody s_is_word) (defScope s_is_word) .none kV_is_word dc_is_word pm_is_word an_is_word cd_is_word ct_is_word), sl_is_word⟩)
    (c_is_word : PySem.W.codeIn K cd_is_word "is_word" = true)
    (k_is_word : PySem.W.keepIn K (.ref f_is_word) = true)
    (a_look_word : PySem.W.nsIn K mainGlobals "look_word" = some (some (.ref f_look_word)))
    (l_look_word : K.lookup f_look_word = some ⟨oc_look_word, od_look_word, .func (PySem.W.fnOf "look_word" "look_word" (defArgs s_look_word) (defBody s_look_word) (defScope s_look_word) .none kV_look_word dc_look_word pm_look_word an_look_word cd_look_word ct_look_word), sl_look_word⟩)
    (c_look_word : PySem.W.codeIn K cd_look_word "look_word" = true)
    (k_look_word : PySem.W.keepIn K (.ref f_look_word) = true)
    (a_look_words : PySem.W.nsIn K mainGlobals "look_words" = some (some (.ref f_look_words)))
    (l_look_words : K.lookup f_look_words = some ⟨oc_look_words, od_look_words, .func (PySem.W.fnOf "look_words" "look_words" (defArgs s_look_words) (defBody s_look_words) (defScope s_look_words) .none kV_look_words dc_look_words pm_look_words an_look_words cd_look_words ct_look_words), sl_look_words⟩)
    (c_look_words : PySem.W.codeIn K cd_look_words "look_words" = true)
    (k_look_words : PySem.W.keepIn K (.ref f_look_words) = true)
    (a_words_of : PySem.W.nsIn K mainGlobals "words_of" = some (some (.ref f_words_of)))
    (l_words_of : K.lookup f_words_of = some ⟨oc_words_of, od_words_of, .func (PySem.W.fnOf "words_of" "words_of" (defArgs s_words_of) (defBody s_words_of) (defScope s_words_of) .none kV_words_of dc_words_of pm_words_of an_words_of cd_words_of ct_words_of), sl_words_of⟩)
    (c_words_of : PySem.W.codeIn K cd_words_of "words_of" = true)
    (k_words_of : PySem.W.keepIn K (.ref f_words_of) = true)
    (a_Page___init__ : PySem.W.findIn K (.ref C_Page) "__init__" = some (some (.ref f_Page___init__)))
    (i_Page___init__ : PySem.W.isFn K (.ref f_Page___init__) = true)
    (l_Page___init__ : K.lookup f_Page___init__ = some ⟨oc_Page___init__, od_Page___init__, .func (PySem.W.fnOf "__init__" "Page.__init__" (defArgs s_Page___init__) (defBody s_Page___init__) (defScope s_Page___init__) (.ref Td_Page___init__) kV_Page___init__ dc_Page___init__ pm_Page___init__ an_Page___init__ cd_Page___init__ ct_Page___init__), sl_Page___init__⟩)
    (lT_Page___init__ : K.lookup Td_Page___init__ = some ⟨ocT_Page___init__, odT_Page___init__, .seq (List.toArray [.str "" tk0_Page___init__]) nT_Page___init__, slT_Page___init__⟩)
    (c_Page___init__ : PySem.W.codeIn K cd_Page___init__ "Page.__init__" = true)
    (k_Page___init__ : PySem.W.keepIn K (.ref f_Page___init__) = true)
    (mk_Page : PySem.W.makesIn K C_Page = true)
    (kc_Page : PySem.W.keepIn K (.ref C_Page) = true)
    (a_Page_words : PySem.W.findIn K (.ref C_Page) "words" = some (some (.ref f_Page_words)))
    (i_Page_words : PySem.W.isFn K (.ref f_Page_words) = true)
    (l_Page_words : K.lookup f_Page_words = some ⟨oc_Page_words, od_Page_words, .func (PySem.W.fnOf "words" "Page.words" (defArgs s_Page_words) (defBody s_Page_words) (defScope s_Page_words) .none kV_Page_words dc_Page_words pm_Page_words an_Page_words cd_Page_words ct_Page_words), sl_Page_words⟩)
    (c_Page_words : PySem.W.codeIn K cd_Page_words "Page.words" = true)
    (k_Page_words : PySem.W.keepIn K (.ref f_Page_words) = true)
    (a_Page_places : PySem.W.findIn K (.ref C_Page) "places" = some (some (.ref f_Page_places)))
    (i_Page_places : PySem.W.isFn K (.ref f_Page_places) = true)
    (l_Page_places : K.lookup f_Page_places = some ⟨oc_Page_places, od_Page_places, .func (PySem.W.fnOf "places" "Page.places" (defArgs s_Page_places) (defBody s_Page_places) (defScope s_Page_places) .none kV_Page_places dc_Page_places pm_Page_places an_Page_places cd_Page_places ct_Page_places), sl_Page_places⟩)
    (c_Page_places : PySem.W.codeIn K cd_Page_places "Page.places" = true)
    (k_Page_places : PySem.W.keepIn K (.ref f_Page_places) = true)
    (a_Page_often : PySem.W.findIn K (.ref C_Page) "often" = some (some (.ref f_Page_often)))
    (i_Page_often : PySem.W.isFn K (.ref f_Page_often) = true)
    (l_Page_often : K.lookup f_Page_often = some ⟨oc_Page_often, od_Page_often, .func (PySem.W.fnOf "often" "Page.often" (defArgs s_Page_often) (defBody s_Page_often) (defScope s_Page_often) .none kV_Page_often dc_Page_often pm_Page_often an_Page_often cd_Page_often ct_Page_often), sl_Page_often⟩)
    (c_Page_often : PySem.W.codeIn K cd_Page_often "Page.often" = true)
    (k_Page_often : PySem.W.keepIn K (.ref f_Page_often) = true)
    (a_Page___len__ : PySem.W.findIn K (.ref C_Page) "__len__" = some (some (.ref f_Page___len__)))
    (i_Page___len__ : PySem.W.isFn K (.ref f_Page___len__) = true)
    (l_Page___len__ : K.lookup f_Page___len__ = some ⟨oc_Page___len__, od_Page___len__, .func (PySem.W.fnOf "__len__" "Page.__len__" (defArgs s_Page___len__) (defBody s_Page___len__) (defScope s_Page___len__) .none kV_Page___len__ dc_Page___len__ pm_Page___len__ an_Page___len__ cd_Page___len__ ct_Page___len__), sl_Page___len__⟩)
    (c_Page___len__ : PySem.W.codeIn K cd_Page___len__ "Page.__len__" = true)
    (k_Page___len__ : PySem.W.keepIn K (.ref f_Page___len__) = true)
    (a_Page___str__ : PySem.W.findIn K (.ref C_Page) "__str__" = some (some (.ref f_Page___str__)))
    (i_Page___str__ : PySem.W.isFn K (.ref f_Page___str__) = true)
    (l_Page___str__ : K.lookup f_Page___str__ = some ⟨oc_Page___str__, od_Page___str__, .func (PySem.W.fnOf "__str__" "Page.__str__" (defArgs s_Page___str__) (defBody s_Page___str__) (defScope s_Page___str__) .none kV_Page___str__ dc_Page___str__ pm_Page___str__ an_Page___str__ cd_Page___str__ ct_Page___str__), sl_Page___str__⟩)
    (c_Page___str__ : PySem.W.codeIn K cd_Page___str__ "Page.__str__" = true)
    (k_Page___str__ : PySem.W.keepIn K (.ref f_Page___str__) = true)
    (a_law_pool : PySem.W.nsIn K mainGlobals "_law_pool" = some (some (.ref f_law_pool)))
    (l_law_pool : K.lookup f_law_pool = some ⟨oc_law_pool, od_law_pool, .func (PySem.W.fnOf "_law_pool" "_law_pool" (defArgs s_law_pool) (defBody s_law_pool) (defScope s_law_pool) .none kV_law_pool dc_law_pool pm_law_pool an_law_pool cd_law_pool ct_law_pool), sl_law_pool⟩)
    (c_law_pool : PySem.W.codeIn K cd_law_pool "_law_pool" = true)
    (k_law_pool : PySem.W.keepIn K (.ref f_law_pool) = true)
    (a_law_take : PySem.W.nsIn K mainGlobals "_law_take" = some (some (.ref f_law_take)))
    (l_law_take : K.lookup f_law_take = some ⟨oc_law_take, od_law_take, .func (PySem.W.fnOf "_law_take" "_law_take" (defArgs s_law_take) (defBody s_law_take) (defScope s_law_take) .none kV_law_take dc_law_take pm_law_take an_law_take cd_law_take ct_law_take), sl_law_take⟩)
    (c_law_take : PySem.W.codeIn K cd_law_take "_law_take" = true)
    (k_law_take : PySem.W.keepIn K (.ref f_law_take) = true)
    (a_law_kinds : PySem.W.nsIn K mainGlobals "_law_kinds" = some (some (.ref f_law_kinds)))
    (l_law_kinds : K.lookup f_law_kinds = some ⟨oc_law_kinds, od_law_kinds, .func (PySem.W.fnOf "_law_kinds" "_law_kinds" (defArgs s_law_kinds) (defBody s_law_kinds) (defScope s_law_kinds) .none kV_law_kinds dc_law_kinds pm_law_kinds an_law_kinds cd_law_kinds ct_law_kinds), sl_law_kinds⟩)
    (c_law_kinds : PySem.W.codeIn K cd_law_kinds "_law_kinds" = true)
    (k_law_kinds : PySem.W.keepIn K (.ref f_law_kinds) = true)
    (a_law_words : PySem.W.nsIn K mainGlobals "_law_words" = some (some (.ref f_law_words)))
    (l_law_words : K.lookup f_law_words = some ⟨oc_law_words, od_law_words, .func (PySem.W.fnOf "_law_words" "_law_words" (defArgs s_law_words) (defBody s_law_words) (defScope s_law_words) .none kV_law_words dc_law_words pm_law_words an_law_words cd_law_words ct_law_words), sl_law_words⟩)
    (c_law_words : PySem.W.codeIn K cd_law_words "_law_words" = true)
    (k_law_words : PySem.W.keepIn K (.ref f_law_words) = true)
    (a_law_whole : PySem.W.nsIn K mainGlobals "_law_whole" = some (some (.ref f_law_whole)))
    (l_law_whole : K.lookup f_law_whole = some ⟨oc_law_whole, od_law_whole, .func (PySem.W.fnOf "_law_whole" "_law_whole" (defArgs s_law_whole) (defBody s_law_whole) (defScope s_law_whole) .none kV_law_whole dc_law_whole pm_law_whole an_law_whole cd_law_whole ct_law_whole), sl_law_whole⟩)
    (c_law_whole : PySem.W.codeIn K cd_law_whole "_law_whole" = true)
    (k_law_whole : PySem.W.keepIn K (.ref f_law_whole) = true)
    (a_law_spots : PySem.W.nsIn K mainGlobals "_law_spots" = some (some (.ref f_law_spots)))
    (l_law_spots : K.lookup f_law_spots = some ⟨oc_law_spots, od_law_spots, .func (PySem.W.fnOf "_law_spots" "_law_spots" (defArgs s_law_spots) (defBody s_law_spots) (defScope s_law_spots) .none kV_law_spots dc_law_spots pm_law_spots an_law_spots cd_law_spots ct_law_spots), sl_law_spots⟩)
    (c_law_spots : PySem.W.codeIn K cd_law_spots "_law_spots" = true)
    (k_law_spots : PySem.W.keepIn K (.ref f_law_spots) = true)
    (a_law_right : PySem.W.nsIn K mainGlobals "_law_right" = some (some (.ref f_law_right)))
    (l_law_right : K.lookup f_law_right = some ⟨oc_law_right, od_law_right, .func (PySem.W.fnOf "_law_right" "_law_right" (defArgs s_law_right) (defBody s_law_right) (defScope s_law_right) .none kV_law_right dc_law_right pm_law_right an_law_right cd_law_right ct_law_right), sl_law_right⟩)
    (c_law_right : PySem.W.codeIn K cd_law_right "_law_right" = true)
    (k_law_right : PySem.W.keepIn K (.ref f_law_right) = true)
    (a_law : PySem.W.nsIn K mainGlobals "law" = some (some (.ref f_law)))
    (l_law : K.lookup f_law = some ⟨oc_law, od_law, .func (PySem.W.fnOf "law" "law" (defArgs s_law) (defBody s_law) (defScope s_law) .none kV_law dc_law pm_law an_law (.ref c0_law) ct_law), sl_law⟩)
    (c_law : PySem.W.codeIn K (.ref c0_law) "law" = true)
    (k_law : PySem.W.keepIn K (.ref f_law) = true)
    (t_law : h.get? P_law = some (PySem.W.tabObj #[]))
    (ch_law : PySem.W.codeHdIn K c0_law P_law = true)
    (nk_law : K.lookup P_law = none) :
    LawAtSG l w K CX0 9 63 "_law_script" mg fa h := by
  have e := hfa.symm.trans (PySem.W.mg_of X G a_law)
  cases e
  have T : Txt K mg (⟨C_Wrong, C_NoWord, C_NoText, C_NoNumber, C_NoSize, C_NoLengths, C_NoQuery, C_NoCode, C_NoRow, C_NoEntries, C_NoQueryText, C_NoPages, C_NoName, C_NoQueries, C_NoShelf, C_NoDeed, C_Taken, C_NoPlace, C_NoSlot⟩ : Zs) C_Page := { c_LETTERS := ⟨_, PySem.W.mg_of X G g_LETTERS⟩, c_LONGEST := ⟨_, PySem.W.mg_of X G g_LONGEST⟩, c_MOST := ⟨_, PySem.W.mg_of X G g_MOST⟩, c_MOST_NUMBER := ⟨_, PySem.W.mg_of X G g_MOST_NUMBER⟩, n_isinstance := PySem.W.mg_none_of X G z_isinstance, n_bool := PySem.W.mg_none_of X G z_bool, n_int := PySem.W.mg_none_of X G z_int, n_str := PySem.W.mg_none_of X G z_str, n_list := PySem.W.mg_none_of X G z_list, n_tuple := PySem.W.mg_none_of X G z_tuple, n_len := PySem.W.mg_none_of X G z_len, n_all := PySem.W.mg_none_of X G z_all, n_max := PySem.W.mg_none_of X G z_max, n_min := PySem.W.mg_none_of X G z_min, n_range := PySem.W.mg_none_of X G z_range, n_abs := PySem.W.mg_none_of X G z_abs, n_enumerate := PySem.W.mg_none_of X G z_enumerate, n_repr := PySem.W.mg_none_of X G z_repr, n_ValueError := PySem.W.mg_none_of X G z_ValueError, n_IndexError := PySem.W.mg_none_of X G z_IndexError, m_Wrong := PySem.W.mg_of X G aC_Wrong, m_NoWord := PySem.W.mg_of X G aC_NoWord, m_NoText := PySem.W.mg_of X G aC_NoText, m_NoNumber := PySem.W.mg_of X G aC_NoNumber, m_NoSize := PySem.W.mg_of X G aC_NoSize, m_NoLengths := PySem.W.mg_of X G aC_NoLengths, m_NoQuery := PySem.W.mg_of X G aC_NoQuery, m_NoCode := PySem.W.mg_of X G aC_NoCode, m_NoRow := PySem.W.mg_of X G aC_NoRow, m_NoEntries := PySem.W.mg_of X G aC_NoEntries, m_NoQueryText := PySem.W.mg_of X G aC_NoQueryText, m_NoPages := PySem.W.mg_of X G aC_NoPages, m_NoName := PySem.W.mg_of X G aC_NoName, m_NoQueries := PySem.W.mg_of X G aC_NoQueries, m_NoShelf := PySem.W.mg_of X G aC_NoShelf, m_NoDeed := PySem.W.mg_of X G aC_NoDeed, m_Taken := PySem.W.mg_of X G aC_Taken, m_NoPlace := PySem.W.mg_of X G aC_NoPlace, m_NoSlot := PySem.W.mg_of X G aC_NoSlot, x_NoWord := ⟨q_NoWord, kp_NoWord, e1_NoWord, e2_NoWord⟩, h_NoWord := howPlB_ok h_NoWord, na_Page_number := na_Page_number, na_Page_held := na_Page_held, na_Page_text := na_Page_text, na_Page_stands := na_Page_stands, cl_Page := ⟨pg_Page, hd_Page, po_Page, sa_Page⟩, m_Page := PySem.W.mg_of X G aC_Page }
  have F_law_kind := fun_mk (st := s_law_kind) l_law_kind c_law_kind k_law_kind
  have b_law_kind := F_law_kind.binds (ps := ["_law_e"]) fun _ _ _ _ _ _ us hl => match us, hl with | [_], _ => rfl
  have F_law_how := fun_mk (st := s_law_how) l_law_how c_law_how k_law_how
  have b_law_how := F_law_how.binds (ps := ["_law_deed"]) fun _ _ _ _ _ _ us hl => match us, hl with | [_], _ => rfl
  have F_is_whole := fun_mk (st := s_is_whole) l_is_whole c_is_whole k_is_whole
  have b_is_whole := F_is_whole.binds (ps := ["thing"]) fun _ _ _ _ _ _ us hl => match us, hl with | [_], _ => rfl
  have F_is_word := fun_mk (st := s_is_word) l_is_word c_is_word k_is_word
  have b_is_word := F_is_word.binds (ps := ["thing"]) fun _ _ _ _ _ _ us hl => match us, hl with | [_], _ => rfl
  have F_look_word := fun_mk (st := s_look_word) l_look_word c_look_word k_look_word
  have b_look_word := F_look_word.binds (ps := ["thing"]) fun _ _ _ _ _ _ us hl => match us, hl with | [_], _ => rfl
  have F_look_words := fun_mk (st := s_look_words) l_look_words c_look_words k_look_words
  have b_look_words := F_look_words.binds (ps := ["words"]) fun _ _ _ _ _ _ us hl => match us, hl with | [_], _ => rfl
  have F_words_of := fun_mk (st := s_words_of) l_words_of c_words_of k_words_of
  have b_words_of := F_words_of.binds (ps := ["text"]) fun _ _ _ _ _ _ us hl => match us, hl with | [_], _ => rfl
  have F_Page_words := fun_mk (st := s_Page_words) l_Page_words c_Page_words k_Page_words
  have b_Page_words := F_Page_words.binds (ps := ["self"]) fun _ _ _ _ _ _ us hl => match us, hl with | [_], _ => rfl
  have F_Page_places := fun_mk (st := s_Page_places) l_Page_places c_Page_places k_Page_places
  have b_Page_places := F_Page_places.binds (ps := ["self", "word"]) fun _ _ _ _ _ _ us hl => match us, hl with | [_, _], _ => rfl
  have F_Page_often := fun_mk (st := s_Page_often) l_Page_often c_Page_often k_Page_often
  have b_Page_often := F_Page_often.binds (ps := ["self", "word"]) fun _ _ _ _ _ _ us hl => match us, hl with | [_, _], _ => rfl
  have F_Page___len__ := fun_mk (st := s_Page___len__) l_Page___len__ c_Page___len__ k_Page___len__
  have b_Page___len__ := F_Page___len__.binds (ps := ["self"]) fun _ _ _ _ _ _ us hl => match us, hl with | [_], _ => rfl
  have F_Page___str__ := fun_mk (st := s_Page___str__) l_Page___str__ c_Page___str__ k_Page___str__
  have b_Page___str__ := F_Page___str__.binds (ps := ["self"]) fun _ _ _ _ _ _ us hl => match us, hl with | [_], _ => rfl
  have F_law_pool := fun_mk (st := s_law_pool) l_law_pool c_law_pool k_law_pool
  have b_law_pool := F_law_pool.binds (ps := ["_law_script", "_law_at"]) fun _ _ _ _ _ _ us hl => match us, hl with | [_, _], _ => rfl
  have F_law_take := fun_mk (st := s_law_take) l_law_take c_law_take k_law_take
  have b_law_take := F_law_take.binds (ps := ["_law_pool_here", "_law_many"]) fun _ _ _ _ _ _ us hl => match us, hl with | [_, _], _ => rfl
  have F_law_kinds := fun_mk (st := s_law_kinds) l_law_kinds c_law_kinds k_law_kinds
  have b_law_kinds := F_law_kinds.binds (ps := ["_law_pool_here"]) fun _ _ _ _ _ _ us hl => match us, hl with | [_], _ => rfl
  have F_law_words := fun_mk (st := s_law_words) l_law_words c_law_words k_law_words
  have b_law_words := F_law_words.binds (ps := ["_law_pool_here", "_law_kinds_here", "_law_most"]) fun _ _ _ _ _ _ us hl => match us, hl with | [_, _, _], _ => rfl
  have F_law_whole := fun_mk (st := s_law_whole) l_law_whole c_law_whole k_law_whole
  have b_law_whole := F_law_whole.binds (ps := ["_law_thing"]) fun _ _ _ _ _ _ us hl => match us, hl with | [_], _ => rfl
  have F_law_spots := fun_mk (st := s_law_spots) l_law_spots c_law_spots k_law_spots
  have b_law_spots := F_law_spots.binds (ps := ["_law_held", "_law_word"]) fun _ _ _ _ _ _ us hl => match us, hl with | [_, _], _ => rfl
  have F_law_right := fun_mk (st := s_law_right) l_law_right c_law_right k_law_right
  have b_law_right := F_law_right.binds (ps := ["_law_page", "_law_mark", "_law_held"]) fun _ _ _ _ _ _ us hl => match us, hl with | [_, _, _], _ => rfl
  have FC_law := funC_mk (st := s_law) l_law c_law k_law
  have F_law := FC_law.fun_
  refine ⟨PySem.W.fnOf "law" "law" (defArgs s_law) (defBody s_law) (defScope s_law) .none kV_law dc_law pm_law an_law (.ref c0_law) ct_law, [(c0_law, P_law)], spLaw K [(P_law, lamN "law")], ?_, ?_, ?_, fun s v => .of_eq rfl, ?_, fun base _ _ hTB => ?_⟩
  · intro p hp
    simp only [List.mem_cons, List.not_mem_nil, or_false] at hp
    rcases hp with rfl
    · exact t_law
  · intro p hp
    simp only [List.mem_cons, List.not_mem_nil, or_false] at hp
    rcases hp with rfl
    · exact nk_law
  · intro p hp
    simp only [List.mem_cons, List.not_mem_nil, or_false] at hp
    rcases hp with rfl
    · exact PySem.W.codeHd_of_K X ch_law
  · intro H a ns hl _ hE hS
    refine ⟨a, ns, rfl, hS, hl, fun p hp => ?_, fun _ => rfl⟩
    simp only [List.mem_cons, List.not_mem_nil, or_false] at hp
    rcases hp with rfl
    · exact LamX.TabS.nil (hE (c0_law, P_law) (by simp))
  have tb_law := hTB (c0_law, P_law) (by simp)
  have f__law_kind : FnP l.prog w K mg base "_law_kind" _ _ _ := ⟨_, _, ok_kind F_law_kind T, PySem.W.mg_of X G a_law_kind, k_law_kind, b_law_kind⟩
  have f__law_how := how_asks (P := l.prog) (w := w) (base := base) T F_law_how (PySem.W.mg_of X G a_law_how) b_law_how f__law_kind
  have f_is_whole : Fn l.prog w K mg base "is_whole" _ _ _ := ⟨_, _, ok_whole F_is_whole T, PySem.W.mg_of X G a_is_whole, k_is_whole, b_is_whole⟩
  have f_is_word : Fn l.prog w K mg base "is_word" _ _ _ := ⟨_, _, ok_is_word F_is_word T, PySem.W.mg_of X G a_is_word, k_is_word, b_is_word⟩
  have f_look_word : Fn l.prog w K mg base "look_word" _ _ _ := ⟨_, _, ok_look1N F_look_word T f_is_word, PySem.W.mg_of X G a_look_word, k_look_word, b_look_word⟩
  have f_look_words : Fn l.prog w K mg base "look_words" _ _ _ := ⟨_, _, ok_lookN F_look_words T f_is_word, PySem.W.mg_of X G a_look_words, k_look_words, b_look_words⟩
  have f_words_of : Fn l.prog w K mg base "words_of" _ _ _ := ⟨_, _, ok_wordsN F_words_of T f_look_words, PySem.W.mg_of X G a_words_of, k_words_of, b_words_of⟩
  have F_init : FunD K "__init__" "Page.__init__" (defArgs s_Page___init__) (defBody s_Page___init__) (defScope s_Page___init__) [.str ""] [] f_Page___init__ _ := ⟨⟨_, _, _, _, _, _, _, _, _, _, rfl, l_Page___init__, c_Page___init__, .inr ⟨by simp, _, _, _, _, rfl, lT_Page___init__, rfl, .cons ⟨_, rfl⟩ .nil⟩, .inl rfl⟩, k_Page___init__⟩
  obtain ⟨d2, hd2, hb2⟩ := F_init.binds1 (ps := ["self", "number", "text"]) 3 1 (by simp) rfl (fun T kV doc pm an cdv ct us its h1 h2 => match us, its, h1, h2 with | [_, _, _], [_], _, _ => ⟨_, rfl, rfl⟩)
  have G_init := ok_pageN (P := l.prog) (w := w) (base := base) F_init T f_is_whole f_words_of
  have mk_Page_2 : Mkr l.prog w K mg base "Page" C_Page _ _ [] _ := ⟨_, _, _, ⟨mk_Page, a_Page___init__, i_Page___init__, kc_Page⟩, G_init, PySem.W.mg_of X G aC_Page, hb2, hd2⟩
  obtain ⟨d1, hd1, hb1⟩ := F_init.binds1 (ps := ["self", "number", "text"]) 2 0 (by simp) rfl (fun T kV doc pm an cdv ct us its h1 h2 => match us, its, h1, h2 with | [_, _], [_], _, _ => ⟨_, rfl, rfl⟩)
  obtain ⟨d3, hb3⟩ := F_init.kbindsD (ps := ["self", "number", "text"]) 1 ["text", "number"] (fun us _ ws => us ++ ws.reverse) (by simp) (fun a b c => a.append c.reverse) (fun T kV doc pm an cdv ct us its ws h1 h2 h3 => match us, its, ws, h1, h2, h3 with | [_], [_], [_, _], _, _, _ => ⟨_, rfl, rfl⟩)
  have mk_Page_1 : Mkr l.prog w K mg base "Page" C_Page _ _ [.str ""] _ := ⟨_, _, _, ⟨mk_Page, a_Page___init__, i_Page___init__, kc_Page⟩, G_init, PySem.W.mg_of X G aC_Page, hb1, hd1⟩
  have mk_Page_text_number : MkrXK l.prog w K mg base "Page" C_Page _ _ ["text", "number"] (fun vs zs => vs ++ zs.reverse) _ := ⟨_, _, _, ⟨mk_Page, a_Page___init__, i_Page___init__, kc_Page⟩, fnok_lift G_init, PySem.W.mg_of X G aC_Page, hb3⟩
  have me_Page_words : Me l.prog w K mg base C_Page "words" _ _ _ := ⟨_, _, ok_pwords F_Page_words T, ⟨a_Page_words, i_Page_words, k_Page_words⟩, b_Page_words⟩
  have me_Page_places : Me l.prog w K mg base C_Page "places" _ _ _ := ⟨_, _, ok_pplaces F_Page_places T f_look_word, ⟨a_Page_places, i_Page_places, k_Page_places⟩, b_Page_places⟩
  have me_Page_often : Me l.prog w K mg base C_Page "often" _ _ _ := ⟨_, _, ok_often F_Page_often T me_Page_places, ⟨a_Page_often, i_Page_often, k_Page_often⟩, b_Page_often⟩
  have sp_Page_len : Spc l.prog w K mg base C_Page "__len__" _ _ _ := ⟨_, _, ok_plen F_Page___len__ T, a_Page___len__, i_Page___len__, b_Page___len__⟩
  have sp_Page_str : Spc l.prog w K mg base C_Page "__str__" _ _ _ := ⟨_, _, ok_pstr F_Page___str__ T, a_Page___str__, i_Page___str__, b_Page___str__⟩
  have fx_look_word : FnX l.prog w K mg base "look_word" _ _ _ := ⟨_, _, ok_lookB F_look_word T f_is_word, PySem.W.mg_of X G a_look_word, k_look_word, b_look_word⟩
  have mx_Page_places : MeX l.prog w K mg base C_Page "places" _ _ _ := ⟨_, _, ok_plcB F_Page_places T fx_look_word, ⟨a_Page_places, i_Page_places, k_Page_places⟩, b_Page_places⟩
  have mx_Page_often : MeX l.prog w K mg base C_Page "often" _ _ _ := ⟨_, _, ok_oftB F_Page_often T mx_Page_places, ⟨a_Page_often, i_Page_often, k_Page_often⟩, b_Page_often⟩
  have f__law_pool : Fn l.prog w K mg base "_law_pool" _ _ _ := ⟨_, _, ok_pool F_law_pool T, PySem.W.mg_of X G a_law_pool, k_law_pool, b_law_pool⟩
  have f__law_take : Fn l.prog w K mg base "_law_take" _ _ _ := ⟨_, _, ok_take F_law_take , PySem.W.mg_of X G a_law_take, k_law_take, b_law_take⟩
  have f__law_kinds : Fn l.prog w K mg base "_law_kinds" _ _ _ := ⟨_, _, ok_kinds F_law_kinds T f__law_take, PySem.W.mg_of X G a_law_kinds, k_law_kinds, b_law_kinds⟩
  have f__law_words : Fn l.prog w K mg base "_law_words" _ _ _ := ⟨_, _, ok_words_l F_law_words T f__law_take, PySem.W.mg_of X G a_law_words, k_law_words, b_law_words⟩
  have f__law_whole : Fn l.prog w K mg base "_law_whole" _ _ _ := ⟨_, _, ok_lwhole F_law_whole T, PySem.W.mg_of X G a_law_whole, k_law_whole, b_law_whole⟩
  have f__law_spots : Fn l.prog w K mg base "_law_spots" _ _ _ := ⟨_, _, ok_spots F_law_spots T, PySem.W.mg_of X G a_law_spots, k_law_spots, b_law_spots⟩
  have f__law_right : FnG l.prog w K mg base "_law_right" _ _ _ := ⟨_, _, ok_right F_law_right T f__law_whole f__law_spots me_Page_words me_Page_places me_Page_often sp_Page_len sp_Page_str, PySem.W.mg_of X G a_law_right, k_law_right, b_law_right⟩
  exact ok_law FC_law (TT := [(P_law, lamN "law")]) T tb_law List.mem_cons_self (fun p hp _ => by rw [List.mem_singleton.mp hp]) f__law_pool f__law_take f__law_kinds f__law_words mk_Page_1 mk_Page_2 mk_Page_text_number f__law_right mx_Page_places mx_Page_often f__law_how
end K03

open PySem PySem.W PyProof.Rows
set_option maxRecDepth 100000 in
set_option maxHeartbeats 0 in
theorem PySem.Challenge.cw_blocksearch_k03_pages_told_holds : PySem.Challenge.rw_blocksearch_k03_pages_told.Holds := by
  w_on; o_law; k_head; (case hw => w_witness2)
  k_fill
  refine Bw.walk_ofTsEG (l := PySem.Challenge.rw_blocksearch_k03_pages_told) (n := 63) (k := 9) (x := "_law_script") (CX := fun _ => L2.CX0) rfl (by decide) rfl ⟨rfl, by decide, by decide⟩ ?F (fun _ _ _ _ _ h => h.elim)
  case F =>
    intro w mg fa h Y G hmg
    refine ⟨_, PySem.W.km_in_of Y, ?_⟩
    refine' K03.all_mk (PySem.W.km_in_of Y) G hmg ?aC_Wrong ?aC_NoWord ?aC_NoText ?aC_NoNumber ?aC_NoSize ?aC_NoLengths ?aC_NoQuery ?aC_NoCode ?aC_NoRow ?aC_NoEntries ?aC_NoQueryText ?aC_NoPages ?aC_NoName ?aC_NoQueries ?aC_NoShelf ?aC_NoDeed ?aC_Taken ?aC_NoPlace ?aC_NoSlot ?g_LETTERS ?g_LONGEST ?g_MOST ?g_MOST_NUMBER ?z_isinstance ?z_bool ?z_int ?z_str ?z_list ?z_tuple ?z_len ?z_all ?z_max ?z_min ?z_range ?z_abs ?z_enumerate ?z_repr ?z_ValueError ?z_IndexError ?q_NoWord ?kp_NoWord ?e1_NoWord ?e2_NoWord ?h_NoWord ?aC_Page ?pg_Page ?hd_Page ?po_Page ?sa_Page ?na_Page_number ?na_Page_held ?na_Page_text ?na_Page_stands ?a_law_kind ?l_law_kind ?c_law_kind ?k_law_kind ?a_law_how ?l_law_how ?c_law_how ?k_law_how ?a_is_whole ?l_is_whole ?c_is_whole ?k_is_whole ?a_is_word ?l_is_word ?c_is_word ?k_is_word ?a_look_word ?l_look_word ?c_look_word ?k_look_word ?a_look_words ?l_look_words ?c_look_words ?k_look_words ?a_words_of ?l_words_of ?c_words_of ?k_words_of ?a_Page___init__ ?i_Page___init__ ?l_Page___init__ ?lT_Page___init__ ?c_Page___init__ ?k_Page___init__ ?mk_Page ?kc_Page ?a_Page_words ?i_Page_words ?l_Page_words ?c_Page_words ?k_Page_words ?a_Page_places ?i_Page_places ?l_Page_places ?c_Page_places ?k_Page_places ?a_Page_often ?i_Page_often ?l_Page_often ?c_Page_often ?k_Page_often ?a_Page___len__ ?i_Page___len__ ?l_Page___len__ ?c_Page___len__ ?k_Page___len__ ?a_Page___str__ ?i_Page___str__ ?l_Page___str__ ?c_Page___str__ ?k_Page___str__ ?a_law_pool ?l_law_pool ?c_law_pool ?k_law_pool ?a_law_take ?l_law_take ?c_law_take ?k_law_take ?a_law_kinds ?l_law_kinds ?c_law_kinds ?k_law_kinds ?a_law_words ?l_law_words ?c_law_words ?k_law_words ?a_law_whole ?l_law_whole ?c_law_whole ?k_law_whole ?a_law_spots ?l_law_spots ?c_law_spots ?k_law_spots ?a_law_right ?l_law_right ?c_law_right ?k_law_right ?a_law ?l_law ?c_law ?k_law ?t_law ?ch_law ?nk_law
    (case aC_Wrong => k_is); (case aC_NoWord => k_is); (case aC_NoText => k_is); (case aC_NoNumber => k_is); (case aC_NoSize => k_is); (case aC_NoLengths => k_is); (case aC_NoQuery => k_is); (case aC_NoCode => k_is); (case aC_NoRow => k_is); (case aC_NoEntries => k_is); (case aC_NoQueryText => k_is); (case aC_NoPages => k_is); (case aC_NoName => k_is); (case aC_NoQueries => k_is); (case aC_NoShelf => k_is); (case aC_NoDeed => k_is); (case aC_Taken => k_is); (case aC_NoPlace => k_is); (case aC_NoSlot => k_is); (case g_LETTERS => k_is); (case g_LONGEST => k_is); (case g_MOST => k_is); (case g_MOST_NUMBER => k_is); (case z_isinstance => k_is); (case z_bool => k_is); (case z_int => k_is); (case z_str => k_is); (case z_list => k_is); (case z_tuple => k_is); (case z_len => k_is); (case z_all => k_is); (case z_max => k_is); (case z_min => k_is); (case z_range => k_is); (case z_abs => k_is); (case z_enumerate => k_is); (case z_repr => k_is); (case z_ValueError => k_is); (case z_IndexError => k_is); (case q_NoWord => k_exc); (case kp_NoWord => k_is); (case e1_NoWord => k_is); (case e2_NoWord => k_is); (case h_NoWord => exact Eq.refl true); (case aC_Page => k_is); (case pg_Page => k_is); (case hd_Page => k_is); (case po_Page => k_is); (case sa_Page => k_is); (case na_Page_number => k_is); (case na_Page_held => k_is); (case na_Page_text => k_is); (case na_Page_stands => k_is); (case a_law_kind => k_is); (case l_law_kind => k_is); (case c_law_kind => k_is); (case k_law_kind => k_is); (case a_law_how => k_is); (case l_law_how => k_is); (case c_law_how => k_is); (case k_law_how => k_is); (case a_is_whole => k_is); (case l_is_whole => k_is); (case c_is_whole => k_is); (case k_is_whole => k_is); (case a_is_word => k_is); (case l_is_word => k_is); (case c_is_word => k_is); (case k_is_word => k_is); (case a_look_word => k_is); (case l_look_word => k_is); (case c_look_word => k_is); (case k_look_word => k_is); (case a_look_words => k_is); (case l_look_words => k_is); (case c_look_words => k_is); (case k_look_words => k_is); (case a_words_of => k_is); (case l_words_of => k_is); (case c_words_of => k_is); (case k_words_of => k_is); (case a_Page___init__ => k_is); (case i_Page___init__ => k_is); (case l_Page___init__ => k_is); (case lT_Page___init__ => k_is); (case c_Page___init__ => k_is); (case k_Page___init__ => k_is); (case mk_Page => k_is); (case kc_Page => k_is); (case a_Page_words => k_is); (case i_Page_words => k_is); (case l_Page_words => k_is); (case c_Page_words => k_is); (case k_Page_words => k_is); (case a_Page_places => k_is); (case i_Page_places => k_is); (case l_Page_places => k_is); (case c_Page_places => k_is); (case k_Page_places => k_is); (case a_Page_often => k_is); (case i_Page_often => k_is); (case l_Page_often => k_is); (case c_Page_often => k_is); (case k_Page_often => k_is); (case a_Page___len__ => k_is); (case i_Page___len__ => k_is); (case l_Page___len__ => k_is); (case c_Page___len__ => k_is); (case k_Page___len__ => k_is); (case a_Page___str__ => k_is); (case i_Page___str__ => k_is); (case l_Page___str__ => k_is); (case c_Page___str__ => k_is); (case k_Page___str__ => k_is); (case a_law_pool => k_is); (case l_law_pool => k_is); (case c_law_pool => k_is); (case k_law_pool => k_is); (case a_law_take => k_is); (case l_law_take => k_is); (case c_law_take => k_is); (case k_law_take => k_is); (case a_law_kinds => k_is); (case l_law_kinds => k_is); (case c_law_kinds => k_is); (case k_law_kinds => k_is); (case a_law_words => k_is); (case l_law_words => k_is); (case c_law_words => k_is); (case k_law_words => k_is); (case a_law_whole => k_is); (case l_law_whole => k_is); (case c_law_whole => k_is); (case k_law_whole => k_is); (case a_law_spots => k_is); (case l_law_spots => k_is); (case c_law_spots => k_is); (case k_law_spots => k_is); (case a_law_right => k_is); (case l_law_right => k_is); (case c_law_right => k_is); (case k_law_right => k_is); (case a_law => k_is); (case l_law => k_is); (case c_law => k_is); (case k_law => k_is); (case t_law => exact PySem.W.km_tabs_of Y _ List.mem_cons_self); (case ch_law => exact Eq.refl true); (case nk_law => exact Eq.refl none)

