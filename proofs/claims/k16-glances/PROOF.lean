import PyProof.Rows.All
import Wide.All
import OpenK.AllK
import Wide.FinOn
import KE.KNestM
import HandS.Head0
import HandS.Head1
import HandS.Head2
import KE.OsRunLaw
import HandS.EndTab
import HandS.HeadWalk
import HandS.ForMost
import HandS.Evl
import HandS.Wide
import HandS.IsInst
import HandS.Exc
import HandS.Defaults
import HandS.TryMany
import HandS.ExcOwn
import HandS.ExcIs
import HandS.HotCalls
import HandS.ExcField
import HandS.Lambda
import HandS.ExcInit
import HandS.WordsExc
import HandS.Deep
import KE.KExcIs
import KE.DataFind
import HandS.Small
import HandS.RaiseMore
import HandS.Steps
import PyProof.CollectIter
import PyProof.WalksMore
import HandS.More
import HandS.WideBits
import HandS.Replace
import HandS.Style
import KE.GoesMore
import HandS.SetKeys
import HandS.MakeKwOnly
import HandS.IntHex
import HandS.StrMore
import HandS.Rindex
import PyProof.Rows.StrNews2
import PyProof.StrLawsLast
import HandS.OwnEq
import HandS.FStr
import OpenK.KOps
import KE.KCallOwn
import HandS.CallLocal
import HandS.TupAny
import HandS.NoneIn
import HandS.Zip
import HandS.List
import HandS.Iter
import HandS.WordsDict
import HandS.Flow
import HandS.Finally
import HandS.SuiteRaise
import HandS.RaiseFrom
import HandS.Hot
import PySem.Challenge.RW_blocksearch_k16_glances
set_option Elab.async false
set_option linter.all false
set_option maxRecDepth 100000
set_option maxHeartbeats 4000000
set_option autoImplicit false
/-! the head by one kernel run, with tables -/
namespace Bw
open PySem PySem.W PySem.Calls PyProof.Rows
abbrev hdOb (as ts : List Addr) (s : PySem.W.SharedT) : List (Option Obj) × List (Option Obj) := (as.map (HandSHeadRun.getT s), ts.map (HandSHeadRun.getT s))
theorem hdOb_eq {K : Params → Frag} {as : List Addr} {e : ∀ P, as = (K P).map (·.1)} {ts : List Addr} (s : PySem.W.SharedT) : hdOb as ts s = (kmHook K as e ts).obs s.abs := by
  have h1 : as.map (HandSHeadRun.getT s) = as.map s.abs.heap.get? := List.map_congr_left fun a _ => HandSHeadRun.getT_eq s a
  have h2 : ts.map (HandSHeadRun.getT s) = ts.map s.abs.heap.get? := List.map_congr_left fun a _ => HandSHeadRun.getT_eq s a
  show (as.map (HandSHeadRun.getT s), ts.map (HandSHeadRun.getT s)) = (as.map s.abs.heap.get?, ts.map s.abs.heap.get?)
  rw [h1, h2]
end Bw
namespace Bw
open PySem PySem.W
/-- some world's parameters: the addresses of the objects hang on none of them -/
def hdP : Params := { strHash := fun _ => 0, shareClass := fun _ => 0, mergeTok := fun t => t, idOf := fun a => a, idOfShared := fun _ _ => 0, followText := fun _ => false, idOfImm := fun _ => 0 }
end Bw
/-! the tables told beside the frag, one list of looks (o_headL takes kHook alone) -/
namespace Bw
open PySem PySem.W PySem.Calls PyProof.Rows
/-- the frag with the tables -/
abbrev ktF (K : Params → Frag) (ts : List Addr) : Params → Frag := fun P => K P ++ ts.map fun t => (t, tabObj #[])
theorem kt_eq {K : Params → Frag} {as : List Addr} (e : ∀ P, as = (K P).map (·.1)) (ts : List Addr) : ∀ P, as ++ ts = (ktF K ts P).map (·.1) := fun P => by
  show as ++ ts = (K P ++ ts.map fun t => (t, tabObj #[])).map (·.1)
  rw [List.map_append, ← e P, List.map_map]
  congr 1
  exact (List.map_id ts).symm
theorem kt_in_of {K : Params → Frag} {as ts : List Addr} {e : ∀ P, as = (ktF K ts P).map (·.1)} {w : World} {h : Heap} (Y : (kHook (ktF K ts) as e).says w h) : (K w.params).In h := fun a o z => by
  refine (kIn_of Y) a o ?_
  show (K w.params ++ _).lookup a = some o
  rw [List.lookup_append, z]
  rfl
theorem kt_tabs_of {K : Params → Frag} {as ts : List Addr} {e : ∀ P, as = (ktF K ts P).map (·.1)} {w : World} {h : Heap} (n : ∀ t ∈ ts, (K w.params).lookup t = none) (Y : (kHook (ktF K ts) as e).says w h) : ∀ t ∈ ts, h.get? t = some (tabObj #[]) := fun t ht => by
  refine (kIn_of Y) t _ ?_
  show (K w.params ++ ts.map fun t => (t, tabObj #[])).lookup t = some (tabObj #[])
  rw [List.lookup_append, n t ht, Option.none_or]
  clear n Y e
  induction ts with
  | nil => cases ht
  | cons u us ih =>
    rw [List.map_cons, List.lookup_cons]
    cases e : t == u with
    | true => rfl
    | false =>
      refine ih ?_
      rcases List.mem_cons.mp ht with rfl | h
      · rw [beq_self_eq_true] at e
        cases e
      · exact h
end Bw

section HeadRun
open PySem PySem.W PySem.Calls PyProof.Rows
local macro_rules | `(tactic| k_head) => `(tactic| k_headL)
set_option maxRecDepth 100000 in
set_option maxHeartbeats 0 in
open_top auxK16 for PySem.Challenge.rw_blocksearch_k16_glances
noncomputable def asK16 : List Addr := (auxK16.heap_39 Bw.hdP).map (·.1)
set_option maxRecDepth 100000 in
theorem asK16_eq (P : Params) : asK16 = (auxK16.heap_39 P).map (·.1) := by kernel_rfl
set_option maxRecDepth 100000 in
theorem nkK16 (P : Params) : ∀ t ∈ ([741, 748] : List Addr), (auxK16.heap_39 P).lookup t = none := by
  intro t ht
  simp only [List.mem_cons, List.not_mem_nil, or_false] at ht
  rcases ht with rfl | rfl <;> exact Eq.refl none
end HeadRun
section HeadRun2
open PySem PySem.W PySem.Calls PyProof.Rows
local macro_rules | `(tactic| k_head) => `(tactic| o_headL (kHook (Bw.ktF auxK16.heap_39 [741, 748]) (asK16 ++ [741, 748]) (Bw.kt_eq asK16_eq [741, 748])))
set_option maxRecDepth 100000 in
set_option maxHeartbeats 0 in
open_top topK16 for PySem.Challenge.rw_blocksearch_k16_glances
end HeadRun2

/-! The layer of this work: bundles of defs, readings as steps. -/
namespace Bw
open PySem PySem.Spec L2

/-! ### a def that lets nothing out, as its callers want it -/
structure Fn (P : Program) (w : World) (K : PySem.W.Frag) (mg : Str → Option Value) (base : Heap) (x : Str) (k : Nat) (ps : List Str) (sp : Sp) : Prop where
  ex : ∃ (f : Addr) (fd : FuncData), FnOk P w K mg base CX0 k f fd ps sp ∧ mg x = some (.ref f) ∧ PySem.W.keepIn K (.ref f) = true ∧ Binds K fd ps []
section
variable {X : Cx}
theorem pe_fn {x : Str} {k : Nat} {ps : List Str} {sp : Sp} {e : Expr} {es : List Expr} {t : TA} {p pos : Pos} (F : Fn X.prog X.w X.K X.mg X.base x k ps sp) (hr : Room k X.A) (hg : Gl X x) (ha : PA X (e :: es) t)
    (hdb : (x == ("__debug__" : Str)) = false := by decide) (he : starEach (e :: es) X.env = (false, eval e X.env) :: starEach es X.env := by rfl) (hpl : (backTo pos (starEach es X.env)).any (·.1) = false := by rfl) :
    PE X (.Call (.Name x p) (e :: es) [] pos) (tCall sp [] E0 t) := by
  obtain ⟨f, fd, G, hm, hk, hb⟩ := F.ex
  exact pe_call G hr hg hm hk hb .nil pass0 ha hdb he hpl
theorem pe_fn0 {x : Str} {k : Nat} {ps : List Str} {sp : Sp} {p pos : Pos} (F : Fn X.prog X.w X.K X.mg X.base x k ps sp) (hr : Room k X.A) (hg : Gl X x)
    (hdb : (x == ("__debug__" : Str)) = false := by decide) : PE X (.Call (.Name x p) [] [] pos) (tCall sp [] E0 tNil) := by
  obtain ⟨f, fd, G, hm, hk, hb⟩ := F.ex
  exact pe_call0 G hr hg hm hk hb .nil pass0 hdb
end
/-! ### methods and makers as their callers want them -/
structure Me (P : Program) (w : World) (K : PySem.W.Frag) (mg : Str → Option Value) (base : Heap) (C : Addr) (m : Str) (k : Nat) (ps : List Str) (sp : Sp) : Prop where
  ex : ∃ (f : Addr) (fd : FuncData), FnOk P w K mg base CX0 k f fd ps sp ∧ Meth K C m f ∧ Binds K fd ps []
structure Mkr (P : Program) (w : World) (K : PySem.W.Frag) (mg : Str → Option Value) (base : Heap) (x : Str) (C : Addr) (k : Nat) (ps : List Str) (dvs : List V) (sp : Sp) : Prop where
  ex : ∃ (f : Addr) (fd : FuncData) (ds : List Value), Mk K C f ∧ FnOk P w K mg base CX0 k f fd ps sp ∧ mg x = some (.ref C) ∧ Binds K fd ps ds ∧ Vals dvs ds
section
variable {X : Cx}
theorem pe_me {pl : Sem Bool} {C : Addr} {m : Str} {k : Nat} {ps : List Str} {sp : Sp} {o e : Expr} {es : List Expr} {t : TA} {ta : TE} {apos pos : Pos} (he : PE X o ta) (c : Cls X.K C) (M : Me X.prog X.w X.K X.mg X.base C m k ps sp) (hr : Room k X.A) (ha : PA X (e :: es) t)
    (hst : starEach (e :: es) X.env = (false, eval e X.env) :: starEach es X.env := by rfl) (hpl : (backTo pos (starEach es X.env)).any (·.1) = false := by rfl)
    (ht : eval (.Call (.Attribute o m apos) (e :: es) [] pos) X.env = (do
      let ov ← eval o X.env
      standAt apos.atName
      let (f, first) ← holding [ov] (getMethod ov m pl)
      callWith pos f first (backTo pos (starEach (e :: es) X.env)) (backToKw pos (keywordEach [] X.env))) := by rfl) :
    PE X (.Call (.Attribute o m apos) (e :: es) [] pos) (tMeth C m sp [] E0 ta t) := by
  obtain ⟨f, fd, G, hm, hb⟩ := M.ex
  exact pe_meth he c hm G hr hb .nil pass0 ha hst hpl ht
theorem pe_me0 {pl : Sem Bool} {C : Addr} {m : Str} {k : Nat} {ps : List Str} {sp : Sp} {o : Expr} {ta : TE} {apos pos : Pos} (he : PE X o ta) (c : Cls X.K C) (M : Me X.prog X.w X.K X.mg X.base C m k ps sp) (hr : Room k X.A)
    (ht : eval (.Call (.Attribute o m apos) [] [] pos) X.env = (do
      let ov ← eval o X.env
      standAt apos.atName
      let (f, first) ← holding [ov] (getMethod ov m pl)
      callWith pos f first (backTo pos (starEach [] X.env)) (backToKw pos (keywordEach [] X.env))) := by rfl) :
    PE X (.Call (.Attribute o m apos) [] [] pos) (tMeth C m sp [] E0 ta tNil) := by
  obtain ⟨f, fd, G, hm, hb⟩ := M.ex
  exact pe_meth0 he c hm G hr hb .nil pass0 ht
theorem pe_mkr {x : Str} {C : Addr} {k : Nat} {ps : List Str} {dvs : List V} {sp : Sp} {e : Expr} {es : List Expr} {t : TA} {p pos : Pos} (M : Mkr X.prog X.w X.K X.mg X.base x C k ps dvs sp) (hr : Room (k + 1) X.A) (hg : Gl X x) (ha : PA X (e :: es) t)
    (hdb : (x == ("__debug__" : Str)) = false := by decide) (he : starEach (e :: es) X.env = (false, eval e X.env) :: starEach es X.env := by rfl) (hpl : (backTo pos (starEach es X.env)).any (·.1) = false := by rfl) :
    PE X (.Call (.Name x p) (e :: es) [] pos) (tMake C sp dvs E0 t) := by
  obtain ⟨f, fd, ds, M, G, hm, hb, hd⟩ := M.ex
  exact pe_make M G hr hg hm hb hd pass0 ha hdb he hpl
theorem pe_gint {x : Str} {n : Int} {p : Pos} (h : ∃ t, X.mg x = some (.int n t)) (hg : Gl X x) (hd : (x == ("__debug__" : Str)) = false := by decide) : PE X (.Name x p) (tC (.int n)) := by
  obtain ⟨t, h⟩ := h
  exact pe_glob hg h ⟨t, rfl⟩ hd
theorem pe_gstr {x : Str} {z : Str} {p : Pos} (h : ∃ t, X.mg x = some (.str z t)) (hg : Gl X x) (hd : (x == ("__debug__" : Str)) = false := by decide) : PE X (.Name x p) (tC (.str z)) := by
  obtain ⟨t, h⟩ := h
  exact pe_glob hg h ⟨t, rfl⟩ hd
end
section
variable {X : Cx}
/-! ### an attribute as a target -/
def gFld (K : PySem.W.Frag) (to : TE) (f : Str) : TG := fun v σ H Q => to σ H fun x H1 => ∃ a C dx fs, x = .ref a ∧ H1 a = some (.ins C dx fs) ∧ Cls K C ∧ NoAttr K C f ∧ fs.length < 1000 ∧ Q σ (upd H1 a (.ins C dx (putF f v fs)))
theorem pg_fld {o : Expr} {f : Str} {pos : Pos} {to : TE} (ho : PE X o to) : PG X (.Attribute o f pos) (gFld X.K to f) := by
  refine ⟨fun pins s σ H v u Q I r h => ?_⟩
  rw [assign_Attribute]
  refine wpAny_bind (wpAny_holding (thn (ho.run pins s σ H _ I h) fun ov s1 ⟨x, H1, I1, r1, a, C, dx, fs, ex, ea, c, n, l, q1⟩ => ?_))
  subst ex
  obtain rfl : ov = Value.ref a := r1
  refine wpAny_bind (wpAny_standAt (wpAny_bind (wpAny_holding (setattr_ok I1 ea c n l r fun s3 I3 => ?_))))
  exact wpAny_release ⟨σ, _, I3, q1⟩

/-! ### ints of any size -/
def CDivU (_ j : Int) : Prop := j ≠ 0 ∧ j.natAbs.log2 < 9000
theorem op_fdivU : OpR X (binaryOp .FloorDiv) (rI CDivU fun i j => .int (i.fdiv j)) := opI fun i j _ _ _ _ _ hc q =>
  PyProof.Rows.floordiv_int hc.1 q (.inl (PyProof.noPylong_of_log2 hc.2))
def CMulU (i j : Int) : Prop := IntMulOk i j
theorem op_mulU : OpR X (binaryOp .Mult) (rI CMulU fun i j => .int (i * j)) := opI fun _ _ _ _ _ _ _ hc q => PyProof.Rows.mul_int q hc
def CPowU (i j : Int) : Prop := 0 ≤ j ∧ (Builtin.Int.intBits i : Int) * j ≤ 2 ^ 27
theorem op_powU : OpR X (binaryOp .Pow) (rI CPowU fun i j => .int (i ^ j.toNat)) := opI fun _ _ _ _ _ _ _ hc q => PyProof.Rows.pow_int hc.1 hc.2 q
end
theorem bits_le {x : Int} {a : Nat} (h : x.natAbs < 2 ^ a) (h0 : 0 < a) : Builtin.Int.intBits x ≤ a := by
  unfold Builtin.Int.intBits
  split
  · omega
  · exact PySem.Flt.log2_lt_of h0 h
theorem powU {i j : Int} {a : Nat} (h : i.natAbs < 2 ^ a) (h0 : 0 < a) (hj : 0 ≤ j) (hs : (a : Int) * j ≤ 2 ^ 27) : CPowU i j := by
  refine ⟨hj, Int.le_trans (Int.mul_le_mul_of_nonneg_right (Int.ofNat_le.mpr (bits_le h h0)) hj) hs⟩
theorem divU {i j : Int} {b : Nat} (h : j ≠ 0) (hb : j.natAbs < 2 ^ b) (h0 : 0 < b) (h9 : b ≤ 9000) : CDivU i j := ⟨h, Nat.lt_of_lt_of_le (PySem.Flt.log2_lt_of h0 hb) h9⟩

/-! ### named readings of calls -/
section
variable {X : Cx}
theorem callR_imp {f : Value} {r r' : List V → Hp → VK → Prop} (h : CallR X f r) (i : ∀ xs H Q, r' xs H Q → r xs H Q) : CallR X f r' :=
  fun pins s σ H xs us Q I rv q => h pins s σ H xs us Q I rv (i _ _ _ q)
theorem opR_imp {f : Value → Value → Sem Value} {r r' : R2} (h : OpR X f r) (i : ∀ x y H Q, r' x y H Q → r x y H Q) : OpR X f r' :=
  fun pins s σ H x y v u Q I rx ry q => h pins s σ H x y v u Q I rx ry (i _ _ _ _ q)
def rAbs : List V → Hp → VK → Prop := fun xs H Q => ∃ i : Int, xs = [.int i] ∧ Q (.int i.natAbs) H
theorem cl_abs : CallR X (.builtin "abs") rAbs := callR_imp call_abs fun xs H Q ⟨i, e, q⟩ => ⟨i, e, by
  have : (if i < 0 then -i else i) = (i.natAbs : Int) := by split <;> omega
  rw [this]; exact q⟩
def rMaxI : List V → Hp → VK → Prop := fun xs H Q => ∃ i j : Int, xs = [.int i, .int j] ∧ Q (.int (max i j)) H
def rMinI : List V → Hp → VK → Prop := fun xs H Q => ∃ i j : Int, xs = [.int i, .int j] ∧ Q (.int (min i j)) H
theorem cl_max (hc : X.calm = true) : CallR X (.builtin "max") rMaxI := callR_imp (call_max2 hc) fun xs H Q ⟨i, j, e, q⟩ => ⟨i, j, e, by
  have : (if j > i then j else i) = max i j := by split <;> omega
  rw [this]; exact q⟩
theorem cl_min (hc : X.calm = true) : CallR X (.builtin "min") rMinI := callR_imp (call_min2 hc) fun xs H Q ⟨i, j, e, q⟩ => ⟨i, j, e, by
  have : (if j < i then j else i) = min i j := by split <;> omega
  rw [this]; exact q⟩
def rIntOf : List V → Hp → VK → Prop := fun xs H Q => (∃ i, xs = [.int i] ∧ Q (.int i) H) ∨ ∃ k : Bool, xs = [.bl k] ∧ Q (.int (if k then 1 else 0)) H
theorem cl_int : CallR X (.type "int") rIntOf := call_int1
def rLen (K : PySem.W.Frag) : List V → Hp → VK → Prop := fun xs H Q => ∃ x n, xs = [x] ∧ LenV K x H n ∧ Q (.int n) H
theorem cl_len : CallR X (.builtin "len") (rLen X.K) := call_len
def rStrI : List V → Hp → VK → Prop := fun xs H Q => ∃ i : Int, xs = [.int i] ∧ i.natAbs.log2 < 1920 ∧ Q (.str (toString i)) H
theorem cl_str : CallR X (.type "str") rStrI := call_str_int
def rOrd : List V → Hp → VK → Prop := fun xs H Q => ∃ x, xs = [.str x] ∧ x.length = 1 ∧ Q (.int (x.cps.getD 0 0 : Nat)) H
theorem cl_ord : CallR X (.builtin "ord") rOrd := call_ord
def rAddS : R2 := fun x y H Q => ∃ i j, x = .str i ∧ y = .str j ∧ i.length + j.length ≤ sizeLine ∧ Q (.str (i ++ j)) H
theorem op_addS : OpR X (binaryOp .Add) rAddS := op_add_str
def rIs0 : R2 := fun x y H Q => y = .non ∧ Q (.bl (decide (x = .non))) H
def rIsNot0 : R2 := fun x y H Q => y = .non ∧ Q (.bl (!decide (x = .non))) H
theorem op_is0 : OpR X (compareOp .Is) rIs0 := op_isN
theorem op_isnot0 : OpR X (compareOp .IsNot) rIsNot0 := op_notN
end

/-! ### readings, step by step -/
section
variable {σ : St} {H H' : Hp} {i : Nat} {v x y z : V} {ta tb te tv tc : TE} {b : Bool} {K : PySem.W.Frag} {Q : VK} {QB : Bool → Hp → Prop} {D : Ends} {t u : TS} {tt tu : TT} {a : Addr} {r r' : R2}
theorem w_seq (h : t { D with nx := u D } σ H) : tSeq t u D σ H := h
theorem w_next (h : D.nx σ H) : tNext D σ H := h
theorem w_set (h : te σ H fun x H1 => D.nx (σ.set i (some x)) H1) : tAsg te (gName i) D σ H := h
theorem w_asg {g : TG} (h : te σ H fun x H1 => g x σ H1 D.nx) : tAsg te g D σ H := h
theorem w_par {j : Nat} {tA : TA} (h : tA σ H fun vs H1 => ∃ v w, vs = [v, w] ∧ D.nx ((σ.set i (some v)).set j (some w)) H1) : tPar i j tA D σ H := h
theorem w_ret (h : te σ H D.rt) : tRet te D σ H := h
theorem w_retN (h : D.rt .non H) : tRetN D σ H := h
theorem w_drop (h : te σ H fun _ H1 => D.nx σ H1) : tDrop te D σ H := h
theorem w_if (h : tt σ H fun b H1 => if b = true then t D σ H1 else u D σ H1) : tIfS tt t u D σ H := h
theorem w_ifE (h : tt σ H fun b H1 => if b = true then ta σ H1 Q else tb σ H1 Q) : tIf tt ta tb σ H Q := h
theorem w_var (h : σ[i]? = some (some v)) (q : Q v H) : tVar i σ H Q := ⟨v, h, q⟩
theorem w_c (q : Q v H) : tC v σ H Q := q
theorem w_op (h : ta σ H fun x H1 => tb σ H1 fun y H2 => r x y H2 Q) : tOp r ta tb σ H Q := h
theorem w_un {r : V → Hp → VK → Prop} (h : ta σ H fun x H1 => r x H1 Q) : tUn r ta σ H Q := h
theorem w_I0 {g : Int → Int → V} {m n : Int} (q : Q (g m n) H) : rI0 g (.int m) (.int n) H Q := ⟨m, n, rfl, rfl, q⟩
theorem w_I {C : Int → Int → Prop} {g : Int → Int → V} {m n : Int} (hc : C m n) (q : Q (g m n) H) : rI C g (.int m) (.int n) H Q := ⟨m, n, rfl, rfl, hc, q⟩
theorem w_U {g : Int → V} {m : Int} (q : Q (g m) H) : rU g (.int m) H Q := ⟨m, rfl, q⟩
theorem w_eq (h : scal x y = true) (q : Q (.bl (decide (x = y))) H) : rEq x y H Q := ⟨h, q⟩
theorem w_ne (h : scal x y = true) (q : Q (.bl (!decide (x = y))) H) : rNe x y H Q := ⟨h, q⟩
theorem w_is0 (q : Q (.bl (decide (x = .non))) H) : rIs0 x .non H Q := ⟨rfl, q⟩
theorem w_isnot0 (q : Q (.bl (!decide (x = .non))) H) : rIsNot0 x .non H Q := ⟨rfl, q⟩
theorem w_test (h : te σ H fun x H' => ∃ k, x = .bl k ∧ QB k H') : tTest te σ H QB := h
theorem w_tB (h : te σ H fun x H' => ∃ k, x = .bl k ∧ QB k H') : tB te σ H QB := h
theorem w_bl {R : Bool → Prop} (q : R b) : ∃ k, V.bl b = .bl k ∧ R k := ⟨b, rfl, q⟩
theorem w_and (h : tt σ H fun c H1 => if c = true then tu σ H1 QB else QB false H1) : tAnd tt tu σ H QB := h
theorem w_or (h : tt σ H fun c H1 => if c = true then QB true H1 else tu σ H1 QB) : tOr tt tu σ H QB := h
theorem w_not (h : tt σ H fun c H1 => QB (!c) H1) : tNot tt σ H QB := h
theorem w_andV (h : ta σ H fun x H1 => ∃ c, x = .bl c ∧ if c = true then tb σ H1 Q else Q (.bl false) H1) : tAndV ta tb σ H Q := h
theorem w_orV (h : ta σ H fun x H1 => ∃ c, x = .bl c ∧ if c = true then Q (.bl true) H1 else tb σ H1 Q) : tOrV ta tb σ H Q := h
theorem w_notV (h : ta σ H fun x H1 => ∃ c, x = .bl c ∧ Q (.bl (!c)) H1) : tNotV ta σ H Q := h
theorem w_chain (h : ta σ H fun x H1 => tb σ H1 fun y H2 => r x y H2 fun z H3 => ∃ k, z = .bl k ∧ (if k = true then tc σ H3 fun w' H4 => r' y w' H4 Q else Q (.bl false) H3)) : tChain r r' ta tb tc σ H Q := h
theorem w_cons {tr : TA} {QA : List V → Hp → Prop} (h : ta σ H fun x H1 => tr σ H1 fun xs H2 => QA (x :: xs) H2) : tCons ta tr σ H QA := h
theorem w_nil {QA : List V → Hp → Prop} (q : QA [] H) : tNil σ H QA := q
theorem w_call {sp : Sp} {tA : TA} {E : XK} (h : tA σ H fun vs H1 => sp (vs ++ []) H1 Q E) : tCall sp [] E tA σ H Q := h
theorem w_cb {r : List V → Hp → VK → Prop} {tA : TA} (h : tA σ H fun vs H1 => r vs H1 Q) : tCB r tA σ H Q := h

/-! ### new objects: the heap as a letter -/
theorem same_new {p : Addr} {o : HO} (h : H p = none) : Same H (upd H p o) := fun c w e => by
  rw [upd_ne (ne_of_none e h)]
  exact e
theorem w_tup {tA : TA} (h : tA σ H fun xs H1 => xs.length ≤ sizeLine ∧ ∀ p H2, H1 p = none → Same H1 H2 → H2 p = some (.tup xs) → Q (.ref p) H2) (mono : ∀ σ H (Q Q' : List V → Hp → Prop), (∀ xs H, Q xs H → Q' xs H) → tA σ H Q → tA σ H Q') : tTup tA σ H Q :=
  mono _ _ _ _ (fun xs H1 ⟨l, k⟩ => ⟨l, fun p hp => k p _ hp (same_new hp) upd_same⟩) h
theorem w_newT {xs : List V} {H1 : Hp} (hl : xs.length ≤ sizeLine) (k : ∀ p H2, H1 p = none → Same H1 H2 → H2 p = some (.tup xs) → Q (.ref p) H2) : xs.length ≤ sizeLine ∧ ∀ p, H1 p = none → Q (.ref p) (upd H1 p (.tup xs)) :=
  ⟨hl, fun p hp => k p _ hp (same_new hp) upd_same⟩
theorem w_newL {xs : List V} {H1 : Hp} (hl : xs.length ≤ sizeLine) (k : ∀ p H2, H1 p = none → Same H1 H2 → H2 p = some (.lst xs) → Q (.ref p) H2) : xs.length ≤ sizeLine ∧ ∀ p, H1 p = none → Q (.ref p) (upd H1 p (.lst xs)) :=
  ⟨hl, fun p hp => k p _ hp (same_new hp) upd_same⟩
theorem w_tupE {tA : TA} (h : tA σ H fun xs H1 => xs.length ≤ sizeLine ∧ ∀ p, H1 p = none → Q (.ref p) (upd H1 p (.tup xs))) : tTup tA σ H Q := h
theorem w_lstE {tA : TA} (h : tA σ H fun xs H1 => xs.length ≤ sizeLine ∧ ∀ p, H1 p = none → Q (.ref p) (upd H1 p (.lst xs))) : tLst tA σ H Q := h
/-! ### calls of built-ins, subscripts -/
theorem w_abs {m : Int} (q : Q (.int m.natAbs) H) : rAbs [.int m] H Q := ⟨m, rfl, q⟩
theorem w_max {m n : Int} (q : Q (.int (max m n)) H) : rMaxI [.int m, .int n] H Q := ⟨m, n, rfl, q⟩
theorem w_min {m n : Int} (q : Q (.int (min m n)) H) : rMinI [.int m, .int n] H Q := ⟨m, n, rfl, q⟩
theorem w_intI {m : Int} (q : Q (.int m) H) : rIntOf [.int m] H Q := .inl ⟨m, rfl, q⟩
theorem w_intB {k : Bool} (q : Q (.int (if k then 1 else 0)) H) : rIntOf [.bl k] H Q := .inr ⟨k, rfl, q⟩
theorem w_lenL {p : Addr} {xs : List V} (h : SqL K H p xs) (q : Q (.int xs.length) H) : rLen K [.ref p] H Q := ⟨_, _, rfl, .inl ⟨xs, h, rfl⟩, q⟩
theorem w_lenT {p : Addr} {xs : List V} (h : SqT K H p xs) (q : Q (.int xs.length) H) : rLen K [.ref p] H Q := ⟨_, _, rfl, .inr ⟨xs, h, rfl⟩, q⟩
theorem w_lenS {w : Str} (h : w.length ≤ sizeLine) (q : Q (.int w.length) H) : rLen K [.str w] H Q := ⟨_, _, rfl, ⟨h, rfl⟩, q⟩
theorem w_ixL {p : Addr} {xs : List V} {m : Int} (h : SqL K H p xs) (ha : atI xs m = some v) (q : Q v H) : rIxL K (.ref p) (.int m) H Q := ⟨p, xs, m, v, rfl, rfl, h, ha, q⟩
theorem w_ixT {p : Addr} {xs : List V} {m : Int} (h : SqT K H p xs) (ha : atI xs m = some v) (q : Q v H) : rIxT K (.ref p) (.int m) H Q := ⟨p, xs, m, v, rfl, rfl, h, ha, q⟩
theorem w_ixS {w : Str} {m : Int} {c : Nat} (h : w.length ≤ sizeLine) (ha : atI w.cps.toList m = some c) (q : Q (.str ⟨#[c]⟩) H) : rIxS (.str w) (.int m) H Q := ⟨w, m, c, rfl, rfl, h, ha, q⟩
theorem w_isi {c : V} {tv cv : Value} {k : Bool} (hc : ClsV c cv) (ht : TyX K H x tv) (hk : PySem.W.kitOne K tv cv = some k) (q : Q (.bl k) H) : rIsi K [x, c] H Q := ⟨x, c, tv, cv, k, rfl, hc, ht, hk, q⟩
theorem w_gname {Q2 : L2.St → Hp → Prop} (q : Q2 (σ.set i (some v)) H) : gName i v σ H Q2 := q
theorem w_gsub {to ti : TE} {ts : TSet} {Q2 : L2.St → Hp → Prop} (h : to σ H fun o H1 => ti σ H1 fun i H2 => ts o i v H2 fun H3 => Q2 σ H3) : gSub to ti ts v σ H Q2 := h
theorem w_fld {C dx : Addr} {fs : List (Str × V)} {f : Str} {R : V → Prop} (ho : H a = some (.ins C dx fs)) (hc : Cls K C) (hn : NoAttr K C f) (hl : fs.lookup f = some v) (q : R v) : ∃ a' C dx fs v, V.ref a = .ref a' ∧ H a' = some (.ins C dx fs) ∧ Cls K C ∧ NoAttr K C f ∧ fs.lookup f = some v ∧ R v := ⟨a, C, dx, fs, v, rfl, ho, hc, hn, hl, q⟩
theorem w_fldE {f : Str} (h : ta σ H fun x H1 => ∃ a C dx fs v, x = .ref a ∧ H1 a = some (.ins C dx fs) ∧ Cls K C ∧ NoAttr K C f ∧ fs.lookup f = some v ∧ Q v H1) : tFld K ta f σ H Q := h
end

section
variable {σ : L2.St} {H H' : Hp} {i : Nat} {v x y z : V} {ta tb te tv tc : TE} {b : Bool} {K : PySem.W.Frag} {Q : VK} {QB : Bool → Hp → Prop} {D : Ends} {a C dx : Addr} {fs : List (Str × V)} {f m : Str}
theorem w_two {R : V → V → Prop} (q : R x y) : ∃ v w, [x, y] = [v, w] ∧ R v w := ⟨x, y, rfl, q⟩
theorem w_methE {sp : Sp} {dvs : List V} {E : XK} {t : TA} (h : ta σ H fun x H1 => ∃ a dx fs, x = .ref a ∧ H1 a = some (.ins C dx fs) ∧ fs.lookup m = none ∧ t σ H1 fun vs H2 => sp (x :: (vs ++ dvs)) H2 Q E) : tMeth C m sp dvs E ta t σ H Q := h
theorem w_meth {R : Prop} (ho : H a = some (.ins C dx fs)) (hl : fs.lookup m = none) (q : R) : ∃ a' dx fs, V.ref a = .ref a' ∧ H a' = some (.ins C dx fs) ∧ fs.lookup m = none ∧ R := ⟨a, dx, fs, rfl, ho, hl, q⟩
theorem w_makeE {sp : Sp} {dvs : List V} {E : XK} {t : TA} (h : t σ H fun vs H1 => ∀ x dx, H1 x = none → H1 dx = none → dx ≠ x →
  sp (.ref x :: (vs ++ dvs)) (upd (upd H1 dx (.own x)) x (.ins C dx [])) (fun v H2 => v = .non ∧ Q (.ref x) H2) E) : tMake C sp dvs E t σ H Q := h
theorem w_make {sp : Sp} {vs : List V} {E : XK} {H1 : Hp} (k : ∀ r dr H2, H1 r = none → H1 dr = none → Same H1 H2 → H2 r = some (.ins C dr []) → sp (.ref r :: vs) H2 (fun v H3 => v = .non ∧ Q (.ref r) H3) E) :
    ∀ x dx, H1 x = none → H1 dx = none → dx ≠ x → sp (.ref x :: vs) (upd (upd H1 dx (.own x)) x (.ins C dx [])) (fun v H2 => v = .non ∧ Q (.ref x) H2) E := by
  intro r dr nr nd ne
  refine k r dr _ nr nd (fun c o e => ?_) upd_same
  rw [upd_ne (ne_of_none e nr), upd_ne (ne_of_none e nd)]
  exact e
theorem w_isiB {tx tn : String} {k : Bool} (ht : TyX K H x (.type tx)) (hk : kitB tx tn = some k) (q : Q (.bl k) H) : rIsi K [x, .ty tn] H Q := ⟨x, .ty tn, _, _, k, rfl, .ty tn, ht, kit_ty hk, q⟩
theorem w_sfld {D : Ends} (h : tv σ H fun y H1 => ta σ H1 fun x H2 => ∃ a C dx fs, x = .ref a ∧ H2 a = some (.ins C dx fs) ∧ Cls K C ∧ NoAttr K C f ∧ fs.length < 1000 ∧ D.nx σ (upd H2 a (.ins C dx (putF f y fs)))) : sFld K ta tv f D σ H := h
theorem w_gfldE {to : TE} {Q2 : L2.St → Hp → Prop} (h : to σ H fun x H1 => ∃ a C dx fs, x = .ref a ∧ H1 a = some (.ins C dx fs) ∧ Cls K C ∧ NoAttr K C f ∧ fs.length < 1000 ∧ Q2 σ (upd H1 a (.ins C dx (putF f v fs)))) : gFld K to f v σ H Q2 := h
/-- a store to an attribute: the heap as a letter -/
def KB (p : Addr) (H H' : Hp) : Prop := ∀ c o, H c = some o → c ≠ p → H' c = some o
theorem KB.refl {p : Addr} : KB p H H := fun _ _ h _ => h
theorem KB.trans {p : Addr} {H1 H2 : Hp} (e : KB p H H1) (e' : KB p H1 H2) : KB p H H2 := fun c o h n => e' c o (e c o h n) n
theorem KB.of {p : Addr} (e : Same H H') : KB p H H' := fun c o h _ => e c o h
theorem KB.same {p : Addr} {H0 : Hp} (e : KB p H H') (e0 : Same H0 H) (n : H0 p = none) : Same H0 H' := fun c o h => e c o (e0 c o h) (ne_of_none h n)
theorem kb_upd {p : Addr} {o : HO} : KB p H (upd H p o) := fun c u h n => by rw [upd_ne n]; exact h
theorem w_st {R : Addr → Addr → Addr → List (Str × V) → Prop} (ho : H a = some (.ins C dx fs)) (hc : Cls K C) (hn : NoAttr K C f) (hl : fs.length < 1000) (q : R a C dx fs) :
    ∃ a' C dx fs, V.ref a = .ref a' ∧ H a' = some (.ins C dx fs) ∧ Cls K C ∧ NoAttr K C f ∧ fs.length < 1000 ∧ R a' C dx fs := ⟨a, C, dx, fs, rfl, ho, hc, hn, hl, q⟩
theorem w_setL {p : Addr} {xs : List V} {m : Int} {j : Nat} {QH : Hp → Prop} (h : H p = some (.lst xs)) (hj : ixN xs.length m = some j) (k : ∀ H2, KB p H H2 → H2 p = some (.lst (xs.set j v)) → QH H2) : rSetL (.ref p) (.int m) v H QH := ⟨p, xs, m, j, rfl, rfl, h, hj, k _ kb_upd upd_same⟩
theorem w_gtup {n : Nat} {t : TGs} {xs : List V} {Q2 : L2.St → Hp → Prop} (h : SqT K H a xs) (hn : xs.length = n) (q : t xs σ H Q2) : gTup K n t (.ref a) σ H Q2 := ⟨a, xs, rfl, h, hn, q⟩
theorem w_gcons {g : TG} {t : TGs} {r : List V} {Q2 : L2.St → Hp → Prop} (q : g v σ H fun σ' H' => t r σ' H' Q2) : gCons g t (v :: r) σ H Q2 := ⟨v, r, rfl, q⟩
theorem w_gnil {Q2 : L2.St → Hp → Prop} (q : Q2 σ H) : gNil [] σ H Q2 := ⟨rfl, q⟩
theorem lk_hit {r : List (Str × V)} : List.lookup f ((f, x) :: r) = some x := by simp [List.lookup]
theorem lk_miss {g : Str} {r : List (Str × V)} {o : Option V} (h : (f == g) = false) (e : List.lookup f r = o) : List.lookup f ((g, x) :: r) = o := by simp only [List.lookup, h]; exact e
theorem pf_hit {r : List (Str × V)} : putF f v ((f, x) :: r) = (f, v) :: r := by simp [putF]
theorem pf_miss {g : Str} {r : List (Str × V)} (h : (g == f) = false) : putF f v ((g, x) :: r) = (g, x) :: putF f v r := by
  have : ¬ g = f := beq_eq_false_iff_ne.mp h
  simp [putF, this]
theorem pf_nil : putF f v [] = [(f, v)] := rfl
/-- kept at another place -/
theorem kb_at {p q : Addr} {o : HO} (e : KB p H H') (h : H q = some o) (n : q ≠ p) : H' q = some o := e q o h n
end

/-- while, by a word that falls -/
theorem w_while {σ : L2.St} {H : Hp} {D : Ends} {c : TT} {tb : TS} (W : Nat → L2.St → Hp → Prop) (m0 : Nat) (h0 : W m0 σ H)
    (hs : ∀ m σ H, W m σ H → c σ H fun b H1 => if b = true then tb { D with nx := fun σ' H' => ∃ m', m' < m ∧ W m' σ' H', ct := fun σ' H' => ∃ m', m' < m ∧ W m' σ' H', bk := D.nx } σ H1 else D.nx σ H1)
    (mono : ∀ σ H (Q Q' : Bool → Hp → Prop), (∀ b H, Q b H → Q' b H) → c σ H Q → c σ H Q' ) : tWhile c tb D σ H :=
  ⟨W, ⟨m0, h0⟩, fun m σ H w => mono _ _ _ _ (fun b H1 q => by
    cases b with
    | true =>
      rw [if_pos rfl] at q ⊢
      exact ⟨_, fun _ _ h => h, q⟩
    | false =>
      rw [if_neg Bool.false_ne_true] at q ⊢
      exact q) (hs m σ H w)⟩
theorem w_loopT {D : Ends} {W : Nat → L2.St → Hp → Prop} {m : Nat} {tb : TS} {σ : L2.St} {H : Hp} (h : tb { D with nx := fun σ' H' => ∃ m', m' < m ∧ W m' σ' H', ct := fun σ' H' => ∃ m', m' < m ∧ W m' σ' H', bk := D.nx } σ H) :
    ∃ N : L2.St → Hp → Prop, (∀ σ' H', N σ' H' → ∃ m', m' < m ∧ W m' σ' H') ∧ tb { D with nx := N, ct := N, bk := D.nx } σ H := ⟨_, fun _ _ h => h, h⟩

theorem same_gen {H H2 : Hp} {p : Addr} {o : HO} (n : H p = none) (e : upd H p o = H2) : Same H H2 := e ▸ same_new n
theorem at_gen {H H2 : Hp} {p : Addr} {o : HO} (e : upd H p o = H2) : H2 p = some o := e ▸ upd_same
theorem kb_gen {H H2 : Hp} {p : Addr} {o : HO} (e : upd H p o = H2) : KB p H H2 := e ▸ kb_upd
theorem same_make {H H2 : Hp} {x dx : Addr} {o u : HO} (nx : H x = none) (nd : H dx = none) (e : upd (upd H dx u) x o = H2) : Same H H2 := fun c w h => by
  rw [← e, upd_ne (ne_of_none h nx), upd_ne (ne_of_none h nd)]
  exact h
theorem makeG {H1 : Hp} {R : Addr → Addr → Prop} (k : ∀ x dx, H1 x = none → H1 dx = none → dx ≠ x → R x dx) : ∀ x dx, H1 x = none → H1 dx = none → dx ≠ x → R x dx := k
theorem newL {n : Nat} {R : Addr → Prop} {H : Hp} (hl : n ≤ sizeLine) (k : ∀ p, H p = none → R p) : n ≤ sizeLine ∧ ∀ p, H p = none → R p := ⟨hl, k⟩
theorem kit_int_int : kitB "int" "int" = some true := by decide +kernel
theorem kit_int_bool : kitB "int" "bool" = some false := by decide +kernel
theorem kit_int_str : kitB "int" "str" = some false := by decide +kernel
theorem kit_int_list : kitB "int" "list" = some false := by decide +kernel
theorem kit_int_tuple : kitB "int" "tuple" = some false := by decide +kernel
theorem kit_int_dict : kitB "int" "dict" = some false := by decide +kernel
theorem kit_bool_int : kitB "bool" "int" = some true := by decide +kernel
theorem kit_bool_bool : kitB "bool" "bool" = some true := by decide +kernel
theorem kit_bool_str : kitB "bool" "str" = some false := by decide +kernel
theorem kit_bool_list : kitB "bool" "list" = some false := by decide +kernel
theorem kit_bool_tuple : kitB "bool" "tuple" = some false := by decide +kernel
theorem kit_bool_dict : kitB "bool" "dict" = some false := by decide +kernel
theorem kit_str_int : kitB "str" "int" = some false := by decide +kernel
theorem kit_str_bool : kitB "str" "bool" = some false := by decide +kernel
theorem kit_str_str : kitB "str" "str" = some true := by decide +kernel
theorem kit_str_list : kitB "str" "list" = some false := by decide +kernel
theorem kit_str_tuple : kitB "str" "tuple" = some false := by decide +kernel
theorem kit_str_dict : kitB "str" "dict" = some false := by decide +kernel
theorem kit_list_int : kitB "list" "int" = some false := by decide +kernel
theorem kit_list_bool : kitB "list" "bool" = some false := by decide +kernel
theorem kit_list_str : kitB "list" "str" = some false := by decide +kernel
theorem kit_list_list : kitB "list" "list" = some true := by decide +kernel
theorem kit_list_tuple : kitB "list" "tuple" = some false := by decide +kernel
theorem kit_list_dict : kitB "list" "dict" = some false := by decide +kernel
theorem kit_tuple_int : kitB "tuple" "int" = some false := by decide +kernel
theorem kit_tuple_bool : kitB "tuple" "bool" = some false := by decide +kernel
theorem kit_tuple_str : kitB "tuple" "str" = some false := by decide +kernel
theorem kit_tuple_list : kitB "tuple" "list" = some false := by decide +kernel
theorem kit_tuple_tuple : kitB "tuple" "tuple" = some true := by decide +kernel
theorem kit_tuple_dict : kitB "tuple" "dict" = some false := by decide +kernel
theorem kit_NoneType_int : kitB "NoneType" "int" = some false := by decide +kernel
theorem kit_NoneType_bool : kitB "NoneType" "bool" = some false := by decide +kernel
theorem kit_NoneType_str : kitB "NoneType" "str" = some false := by decide +kernel
theorem kit_NoneType_list : kitB "NoneType" "list" = some false := by decide +kernel
theorem kit_NoneType_tuple : kitB "NoneType" "tuple" = some false := by decide +kernel
theorem kit_NoneType_dict : kitB "NoneType" "dict" = some false := by decide +kernel
theorem kit_dict_int : kitB "dict" "int" = some false := by decide +kernel
theorem kit_dict_bool : kitB "dict" "bool" = some false := by decide +kernel
theorem kit_dict_str : kitB "dict" "str" = some false := by decide +kernel
theorem kit_dict_list : kitB "dict" "list" = some false := by decide +kernel
theorem kit_dict_tuple : kitB "dict" "tuple" = some false := by decide +kernel
theorem kit_dict_dict : kitB "dict" "dict" = some true := by decide +kernel

section
variable {σ : L2.St} {H : Hp} {K : PySem.W.Frag} {D : Ends} {a : Addr}
theorem w_forE {wi : TI} {g : TG} {tb : TS} (h : wi σ H fun J H1 => ∃ W : Nat → Nat → L2.St → Hp → Prop, (∃ m, W 0 m σ H1) ∧ ∀ i m σ H, W i m σ H →
  (J.stop i H ∧ D.nx σ H) ∨ (J.go i H ∧ ∃ N : L2.St → Hp → Prop, (∀ σ' H', N σ' H' → ∃ m', m' < m ∧ W (i + 1) m' σ' H') ∧ ∀ x H', J.yld i H x H' → g x σ H' fun σ2 H2 => tb { D with nx := N, ct := N, bk := D.nx } σ2 H2)) : tFor wi g tb D σ H := h
theorem w_iTup {tl : TE} {R : It → Hp → Prop} (h : tl σ H fun x H1 => ∃ a, x = .ref a ∧ (∃ xs, SqT K H1 a xs) ∧ R (Itt K a) H1) : iTup K tl σ H R := h
theorem w_iList {tl : TE} {R : It → Hp → Prop} (h : tl σ H fun x H1 => ∃ a, x = .ref a ∧ (∃ xs, SqL K H1 a xs) ∧ R (Itl K a) H1) : iList K tl σ H R := h
theorem w_iRng1 {ta : TA} {R : It → Hp → Prop} (h : ta σ H fun vs H1 => ∃ j : Int, vs = [.int j] ∧ -(2 ^ 62) ≤ j ∧ j < 2 ^ 62 ∧ R (Itr 0 j.toNat) H1) : iRng1 ta σ H R := h
theorem w_iRng2 {ta : TA} {R : It → Hp → Prop} (h : ta σ H fun vs H1 => ∃ i j : Int, vs = [.int i, .int j] ∧ (-(2 ^ 62) ≤ i ∧ i < 2 ^ 62 ∧ -(2 ^ 62) ≤ j ∧ j < 2 ^ 62) ∧ R (Itr i (j - i).toNat) H1) : iRng2 ta σ H R := h
theorem w_itT {R : Addr → Prop} {xs : List V} (h : SqT K H a xs) (q : R a) : ∃ a', V.ref a = .ref a' ∧ (∃ xs, SqT K H a' xs) ∧ R a' := ⟨a, rfl, ⟨xs, h⟩, q⟩
theorem w_itL {R : Addr → Prop} {xs : List V} (h : SqL K H a xs) (q : R a) : ∃ a', V.ref a = .ref a' ∧ (∃ xs, SqL K H a' xs) ∧ R a' := ⟨a, rfl, ⟨xs, h⟩, q⟩
/-- == of data -/
theorem w_eqD {x y : V} {Q : VK} {d e : PyData} {k : Bool} (hx : Dp K H x d) (hy : Dp K H y e) (sd : SeqAt.shaped d = true) (se : SeqAt.shaped e = true) (hk : PyData.eqv d e = k) (q : Q (.bl k) H) : rEqD K x y H Q := ⟨d, e, hx, hy, sd, se, hk ▸ q⟩
theorem w_neD {x y : V} {Q : VK} {d e : PyData} {k : Bool} (hx : Dp K H x d) (hy : Dp K H y e) (sd : SeqAt.shaped d = true) (se : SeqAt.shaped e = true) (hk : PyData.eqv d e = k) (q : Q (.bl (!k)) H) : rNeD K x y H Q := ⟨d, e, hx, hy, sd, se, hk ▸ q⟩
theorem dp_t2 {p : Addr} {m n : Int} (h : SqT K H p [.int m, .int n]) : Dp K H (.ref p) (.tuple [.int m, .int n]) := .tup h (.cons (.int m) (.cons (.int n) .nil))
end
theorem mulW {i j : Int} {a b : Nat} (ha : i.natAbs < 2 ^ a) (hb : j.natAbs < 2 ^ b) (h0 : 0 < a) (h1 : 0 < b) (h : a + b ≤ 1000000) : CMulU i j := (wide_mul ha hb h0 h1 h).ok
theorem mulL {i j : Int} (h : i.natAbs < 2 ^ 64) : CMulU i j := CMul.ok (.inl ⟨by omega, by omega⟩)
theorem mulR {i j : Int} (h : j.natAbs < 2 ^ 64) : CMulU i j := CMul.ok (.inr ⟨by omega, by omega⟩)
theorem w_pow10_5 {H : Hp} {Q : VK} (q : Q (.int 100000) H) : rI CPowU (fun i j => .int (i ^ j.toNat)) (.int 10) (.int 5) H Q := ⟨10, 5, rfl, rfl, powU (a := 4) (by decide) (by decide) (by decide) (by decide), q⟩
theorem w_pow10_8 {H : Hp} {Q : VK} (q : Q (.int 100000000) H) : rI CPowU (fun i j => .int (i ^ j.toNat)) (.int 10) (.int 8) H Q := ⟨10, 8, rfl, rfl, powU (a := 4) (by decide) (by decide) (by decide) (by decide), q⟩
theorem w_pow10_9 {H : Hp} {Q : VK} (q : Q (.int 1000000000) H) : rI CPowU (fun i j => .int (i ^ j.toNat)) (.int 10) (.int 9) H Q := ⟨10, 9, rfl, rfl, powU (a := 4) (by decide) (by decide) (by decide) (by decide), q⟩
theorem w_pow10_10 {H : Hp} {Q : VK} (q : Q (.int 10000000000) H) : rI CPowU (fun i j => .int (i ^ j.toNat)) (.int 10) (.int 10) H Q := ⟨10, 10, rfl, rfl, powU (a := 4) (by decide) (by decide) (by decide) (by decide), q⟩
theorem w_pow10_11 {H : Hp} {Q : VK} (q : Q (.int 100000000000) H) : rI CPowU (fun i j => .int (i ^ j.toNat)) (.int 10) (.int 11) H Q := ⟨10, 11, rfl, rfl, powU (a := 4) (by decide) (by decide) (by decide) (by decide), q⟩
theorem w_pow10_12 {H : Hp} {Q : VK} (q : Q (.int 1000000000000) H) : rI CPowU (fun i j => .int (i ^ j.toNat)) (.int 10) (.int 12) H Q := ⟨10, 12, rfl, rfl, powU (a := 4) (by decide) (by decide) (by decide) (by decide), q⟩
theorem w_pow10_18 {H : Hp} {Q : VK} (q : Q (.int 1000000000000000000) H) : rI CPowU (fun i j => .int (i ^ j.toNat)) (.int 10) (.int 18) H Q := ⟨10, 18, rfl, rfl, powU (a := 4) (by decide) (by decide) (by decide) (by decide), q⟩
/-! ### small facts -/
theorem sz {n : Nat} (h : n ≤ 100000) : n ≤ sizeLine := Nat.le_trans h (by decide)
theorem w_iteP {c : Bool} {A B : Prop} (h1 : c = true → A) (h2 : c = false → B) : if c = true then A else B := by
  cases c with
  | true => exact iteT (h1 rfl)
  | false => exact iteF (h2 rfl)
theorem w_dec {c A B : Prop} {dc : Decidable c} (h1 : c → A) (h2 : ¬ c → B) : if decide c = true then A else B := by
  by_cases h : c
  · rw [if_pos (decide_eq_true h)]
    exact h1 h
  · rw [if_neg (fun e => h (of_decide_eq_true e))]
    exact h2 h
theorem same_at {H H' : Hp} {a : Addr} {o : HO} (e : Same H H') (h : H a = some o) : H' a = some o := e a o h
theorem same_t {K : PySem.W.Frag} {H H' : Hp} {a : Addr} {xs : List V} (e : Same H H') (h : SqT K H a xs) : SqT K H' a xs := by
  rcases h with (h | ⟨o, h⟩) | h
  · exact .inl (.inl (e _ _ h))
  · exact .inl (.inr ⟨o, e _ _ h⟩)
  · exact .inr h
section
variable {K : PySem.W.Frag} {H : Hp}
theorem tyx_int {i : Int} : TyX K H (.int i) (.type "int") := .base (.int _)
theorem tyx_bl {b : Bool} : TyX K H (.bl b) (.type "bool") := .base (.bl _)
theorem tyx_str {x : Str} : TyX K H (.str x) (.type "str") := .base (.str _)
theorem tyx_non : TyX K H .non (.type "NoneType") := .base .non
theorem tyx_lst {a : Addr} {xs : List V} (h : H a = some (.lst xs)) : TyX K H (.ref a) (.type "list") := .base (.lst h)
theorem tyx_tup {a : Addr} {xs : List V} (h : H a = some (.tup xs)) : TyX K H (.ref a) (.type "tuple") := .base (.tup h)
end
end Bw

/-! Except clauses: tuples of classes of any length. -/
namespace PySem.W
open PySem PySem.Spec PySem.Calls
section
variable {M : Model} {K : Frag}
theorem forIn_stay {β : Type} {A : Around} {E : Value → Shared → Prop} {s : Shared} {b : β} {f : Value → β → Sem (ForInStep β)} {Q : β → Shared → Prop} : ∀ {cs : List Value}, (∀ c ∈ cs, ∀ (Q : ForInStep β → Shared → Prop), Q (.yield b) s → wpAny M A (f c b) Q E s) → Q b s → wpAny M A (forIn cs b f) Q E s
  | [], _, q => by
    rw [List.forIn_nil]
    exact wpAny_pure q
  | c :: r, hf, q => by
    rw [List.forIn_cons]
    refine wpAny_bind (hf c List.mem_cons_self _ ?_)
    exact forIn_stay (fun c hc => hf c (List.mem_cons_of_mem _ hc)) q
theorem exmAny_mem {cls : Value} : ∀ {cs : List Value} {b : Bool}, exmAny K cls cs = some b → ∀ c ∈ cs, ∃ b1, exmOne K cls c = some b1
  | c :: r, b, h, x, hx => by
    obtain ⟨b1, d1, h1, h2, _⟩ := exmAny_cons h
    rcases List.mem_cons.mp hx with rfl | hx
    · exact ⟨_, h1⟩
    · exact exmAny_mem h2 x hx
theorem exm_tupN {cs : List Value} {cls : Value} {tp e : Addr} {b : Bool} {h : Heap} {n : Nat} {dd : Option Addr} {sl : Array (Option Value)} (X : K.In h) (LT : Looks M h (typeOf (.ref e)) cls) (hp : h.get? tp = some { cls := .type "tuple", dict := dd, data := .seq cs.toArray n, slots := sl }) (hx : exmAny K cls cs = some b) :
    Looks M h (excMatches (.ref e) (.ref tp)) b := by
  intro A Q E s k₀ q
  obtain ⟨hh, g, d, tk, os⟩ := s
  have k : ∀ b o, h.get? b = some o → hh.get? b = some o := k₀
  have LT0 : Looks M h (isInstance (.ref tp) (.type "tuple")) true := ((Looks.ld hp).andThen .now).andThen (Looks.of_pure isSubtype_tuple_tuple)
  have LT := LT.keeps k
  have LT0 := LT0.keeps k
  have hp' := k _ _ hp
  have hk := X.keeps k
  unfold excMatches
  refine wpAny_bind (LT0.at ?_)
  dsimp only
  rw [if_pos rfl]
  first
    | refine wpAny_bind (wpAny_seqItems hp' rfl ?_)
    | refine wpAny_bind (wpAny_bind (wpAny_seqItems hp' rfl (wpAny_pure ?_)))
  dsimp only [Option.getD_some, Option.getD]
  refine wpAny_bind (wpAny_pure ?_)
  refine wpAny_bind (forIn_stay (fun c hc Q q => ?_) ?_)
  · obtain ⟨b1, h1⟩ := exmAny_mem hx c hc
    refine wpAny_bind ((exm_cls (M := M) hk h1).1.here ?_)
    exact wpAny_pure q
  · refine wpAny_bind (LT.here ?_)
    have loop : ∀ (cs : List Value) (b : Bool), exmAny K cls cs = some b → ∀ (Q : Option Bool × Unit → Shared → Prop), Q (if b then some true else none, ()) { heap := hh, gens := g, drawn := d, toks := tk, os := os } →
        wpAny M A (forIn cs ((none : Option Bool), ()) fun c __s => do
            let __do_lift ← isSubtype cls c
            if __do_lift = true then pure (ForInStep.done (some true, ())) else pure (ForInStep.yield (none, ()))) Q E { heap := hh, gens := g, drawn := d, toks := tk, os := os } := by
      intro cs
      induction cs with
      | nil =>
        intro b hb Q q
        have w2 : some false = some b := hb
        cases w2
        rw [List.forIn_nil]
        exact wpAny_pure q
      | cons c r ih =>
        intro b hb Q q
        obtain ⟨b1, d1, h1, h2, rfl⟩ := exmAny_cons hb
        rw [List.forIn_cons]
        refine wpAny_bind (wpAny_bind ((exm_cls (M := M) hk h1).2.here ?_))
        cases b1 with
        | true =>
          rw [if_pos rfl]
          exact wpAny_pure (wpAny_pure q)
        | false =>
          rw [if_neg Bool.false_ne_true]
          exact wpAny_pure (ih d1 h2 Q q)
    refine wpAny_bind (loop cs b hx _ ?_)
    cases b with
    | true => exact wpAny_pure q
    | false => exact wpAny_pure q
end
end PySem.W

namespace Bw
open PySem PySem.Spec L2
/-! ### try with several clauses, classes or tuples of classes, each with a name -/
/-- a clause's class expression, read where the exception is handled -/
def wMas (K : PySem.W.Frag) (Wout : WX) (D : Ends) : List (List Value × Nat × (Addr → Value → Option Addr → TS)) → WX
  | [] => Wout
  | (cs, i, ts) :: r => fun cls d σ H => ∃ b, PySem.W.exmAny K cls cs = some b ∧ (b = true → ∀ a, H a = none → ts a cls d { nx := fun σ' H' => D.nx (σ'.set i none) H', rt := D.rt, bk := fun σ' H' => D.bk (σ'.set i none) H', ct := fun σ' H' => D.ct (σ'.set i none) H' } (σ.set i (some (.ref a))) H) ∧
      (b = false → wMas K Wout D r cls d σ H)
/-- names of classes -/
inductive NamesL (X : Cx) : List Expr → List Value → Prop
  | nil : NamesL X [] []
  | cons {x : Str} {c : Value} {p : Pos} {es : List Expr} {cs : List Value} (h : Names X x c) (r : NamesL X es cs) : NamesL X (.Name x p :: es) (c :: cs)
inductive ClsE (X : Cx) : Expr → List Value → Prop
  | one {x : Str} {c : Value} {p : Pos} (h : Names X x c) : ClsE X (.Name x p) [c]
  | tup {es : List Expr} {cs : List Value} {k : Nat} {p : Pos} (h : NamesL X es cs) : ClsE X (.Tuple es k p) cs
inductive HdsA (X : Cx) : List ExceptHandler → List (List Value × Nat × (Addr → Value → Option Addr → TS)) → Prop
  | nil : HdsA X [] []
  | cons {te : Expr} {cs : List Value} {n : Str} {i : Nat} {ts : Addr → Value → Option Addr → TS} {b₀ : Stmt} {suite : List Stmt} {pos' : Pos} {hds : List ExceptHandler} {l : List (List Value × Nat × (Addr → Value → Option Addr → TS))} (hc : ClsE X te cs)
      (hi : X.N[i]? = some n) (hln : X.env.kindOf n = some .local)
      (hsu : ∀ (a : Addr) (oe : Obj) (cls : Value) (d : Option Addr) (pn : List (Addr × Obj)), Zc cls d oe → (∃ vs, oe.data = .fields vs) → PSs (X.suite a ((a, oe) :: pn)) (b₀ :: suite) (ts a cls d)) (r : HdsA X hds l) :
      HdsA X (.ExceptHandler (some te) (some n) (b₀ :: suite) pos' :: hds) ((cs, i, ts) :: l)
theorem flying_kept {B h h' : Heap} {l : List Env} {e : Addr} {Z : Obj → Prop} (f : HandSPX.FlyingZ B l e Z h) (k : ∀ b o, h.get? b = some o → h'.get? b = some o) : HandSPX.FlyingZ B l e Z h' := by
  obtain ⟨f1, f2, f3, oe, vs, T, oT, ts, a1, a2, a3, a4, a5, a6, a7, a8, a9⟩ := f
  exact ⟨fun b o q => k b o (f1 b o q), f2, f3.of_keeps fun b o q _ => ⟨o, k b o q, rfl⟩, oe, vs, T, oT, ts, k _ _ a1, a2, a3, a4, a5, a6, k _ _ a7, a8, a9⟩
section
variable {X : Cx} {body : List Stmt} {h₀ : ExceptHandler} {hds : List ExceptHandler} {l : List (List Value × Nat × (Addr → Value → Option Addr → TS))} {pos : Pos} {tb : WX → TS} {Wout : WX}
theorem eval_names {Y : Cx} {pins : List (Addr × Obj)} {σ : L2.St} {H : Hp} {s : Shared} {E : Value → Shared → Prop} (I : Inv Y pins σ H s) (pos : Pos) : ∀ {es : List Expr} {cs : List Value}, NamesL Y es cs → ∀ {Q : List Value → Shared → Prop}, Q cs s → wpAny (model Y.prog Y.w) Y.A (spliced (backTo pos (starEach es Y.env))) Q E s
  | _, _, .nil, Q, q => Calls.spliced_nil q
  | _, _, @NamesL.cons _ x c p es cs h r, Q, q => by
    show wpAny _ _ (spliced ((false, eval (.Name x p) Y.env) :: backTo pos (starEach es Y.env))) _ _ s
    refine Calls.spliced_cons ?_
    have go : wpAny (model Y.prog Y.w) Y.A (spliced (backTo pos (starEach es Y.env))) (fun vs s₂ => Q (c :: vs) s₂) E s := eval_names I pos r q
    obtain ⟨hg, hdbg, hm | ⟨hm, hv, hnn⟩⟩ := h
    · exact ld_glob I hg hm go hdbg
    · exact ld_blt I hg hm hv go hnn hdbg
theorem NamesL.suite {a : Addr} {pn : List (Addr × Obj)} : ∀ {es : List Expr} {cs : List Value}, NamesL X es cs → NamesL (X.suite a pn) es cs
  | _, _, .nil => .nil
  | _, _, .cons h r => .cons h (NamesL.suite r)
theorem NamesL.length : ∀ {es : List Expr} {cs : List Value}, NamesL X es cs → cs.length = es.length
  | _, _, .nil => rfl
  | _, _, .cons _ r => congrArg Nat.succ (NamesL.length r)
theorem ps_try_mas (hs : X.stack = X.env :: X.outer) (hf : X.env.frame = some X.env.locals) (hN : X.N.Nodup) (tk : Takes X Wout) (hsz : ∀ x ∈ l, x.1.length ≤ 1000)
    (hb : ∀ (W : WX) (pn : List (Addr × Obj)) (xe : Value → Shared → Prop), Takes (X.tr pn xe) W → PassesOwn (model X.prog X.w) X.A X.env xe → PSs (X.tr pn xe) body (tb W))
    (hh : HdsA X (h₀ :: hds) l) : PS X (.Try body (h₀ :: hds) [] [] pos) (fun D σ H => tb (wMas X.K Wout D l) D σ H) := by
  refine ⟨fun pins s σ H D I h => ?_⟩
  have ok := I.ok
  have hfr : X.A.frames = some (X.env :: X.outer) := by rw [ok.frames, hs]
  refine wpAny_Try_except ?_
  refine wpAny_mono ((hb (wMas X.K Wout D l) (X.pn ++ pins) (fun e s₁ => wpAny (model X.prog X.w) X.A (noteFrame e X.env) (fun _ s₂ => wpAny (model X.prog X.w) X.A (setFlight e none) (fun _ s₃ =>
    wpAny (model X.prog X.w) X.A (handleBy e X.env (h₀ :: hds)) (SP X pins D) X.xe s₃) X.xe s₂) X.xe s₁) (fun u s' xx => ?_) PassesOwn.looking).run [] s σ H D (I.toTry _) h) (fun f s1 hsp => ?_) (fun e s1 he => he)
  · -- the catch
    obtain ⟨a, B, sI, pins', σ', H', cls, d, rfl, J', nb, up, sky, na, os, ag, w⟩ := xx
    have J : Inv X pins σ' H' sI := J'.ofTry ok
    have sky' : Sky B (X.env :: X.outer) a (Zc cls d) X.env.locals s'.heap := by rw [← hs]; exact sky
    show wpAny (model X.prog X.w) X.A (noteFrame (.ref a) X.env) _ _ _
    refine Sky.land Zc.steady hfr hf sky' fun h3 fl3 up3 => ?_
    have notFr : ∀ {h : Heap} {o : Obj} {vs : Array Value}, h.FunFrames B (X.env :: X.outer) → h.get? a = some o → o.data = .fields vs → a ∉ frs (X.env :: X.outer) := fun {h o vs} ff e dd hm => by
      obtain ⟨_, o', e', hnf⟩ := ff.mem hm
      rw [e] at e'; cases e'
      exact hnf _ dd
    have nfr : a ∉ frs (X.env :: X.outer) := by
      obtain ⟨oe3, vs3, he3, hz3, hd3⟩ := fl3.there
      exact notFr fl3.2.2.1 he3 hd3
    have nL : a ≠ X.env.locals := fun z => nfr (List.mem_filterMap.mpr ⟨X.env, List.mem_cons_self, by rw [hf, z]⟩)
    have nF : a ∉ X.fs := fun hm => by
      obtain ⟨e, he, q⟩ := List.mem_filterMap.mp hm
      exact nfr (List.mem_filterMap.mpr ⟨e, List.mem_cons_of_mem _ he, q⟩)
    have go : ∀ {hds' : List ExceptHandler} {l' : List (List Value × Nat × (Addr → Value → Option Addr → TS))}, HdsA X hds' l' → (∀ x ∈ l', x.1.length ≤ 1000) → wMas X.K Wout D l' cls d σ' H' → ∀ h3, HandSPX.FlyingZ B (X.env :: X.outer) a (Zc cls d) h3 → sI.heap.UpToSlots h3 →
        wpAny (model X.prog X.w) X.A (handleBy (.ref a) X.env hds') (SP X pins D) X.xe { s' with heap := h3 } := by
      intro hds' l' hk
      induction hk with
      | nil =>
        intro _ w h3 fl3 up3
        refine wpAny_handleBy_nil ?_
        obtain ⟨k1, k2, k3, oe, vs, T, oT, ts', he, hz, hd, h1, hr⟩ := id fl3
        unfold PySem.passOn
        refine wpAny_bind (wpAny_field he hd h1 ?_)
        rw [if_neg (show ¬ ((Value.ref T == Value.none) = true) from by simp)]
        have fin : wpAny (model X.prog X.w) X.A (setFlight (.ref a) X.env.frame) (fun _ s4 => wpAny (model X.prog X.w) X.A (throw (.ref a) : Sem Flow) (SP X pins D) X.xe s4) X.xe { s' with heap := h3 } := by
          rw [hf]
          refine HandSPX.setFlight_upZ fl3 fun h4 hh4 up4 => wpAny_throw (tk _ _ ?_)
          exact ⟨a, B, sI, pins, σ', H', cls, d, rfl, J, nb, up3.trans up4, .inr (.inr (by rw [hs]; exact hh4)), na, os, ag, w⟩
        first
          | exact wpAny_bind (wpAny_pure (wpAny_bind fin))
          | exact wpAny_bind fin
      | @cons te cs n i ts b₀ suite pos' hds2 l2 hc hi hln hsu r ih =>
        intro hz0 w h3 fl3 up3
        obtain ⟨b, hb1, hyes, hno⟩ := w
        have J3 : Inv X pins σ' H' { s' with heap := h3 } := J.landed nb fl3.1 up3 os ag
        obtain ⟨oe3, vs3, he3, hz3, hd3⟩ := fl3.there
        have S3 := J3.suite he3 hd3 na nL nF
        refine wpAny_handleBy_cons (codeAny_handlers_test ?_) (by intro q; cases q)
        -- the classes, then the match, in a heap that is kept
        have test : ∀ {R : Bool → Shared → Prop} {E : Value → Shared → Prop}, (∀ h4, (∀ b o, h3.get? b = some o → h4.get? b = some o) → R b { s' with heap := h4 }) →
            wpAny (model X.prog X.w) (X.A.mark (some (.ref a))) (eval te X.env) (fun c s₁ => wpAny (model X.prog X.w) (X.A.mark (some (.ref a))) (excMatches (.ref a) c) R E s₁) E { s' with heap := h3 } := fun {R E} q => by
          cases hc with
          | one hn =>
            rename_i x c np
            have LT : PySem.W.Looks (model X.prog X.w) h3 (typeOf (.ref a)) cls := fun A Q E s k q => wpAny_typeOf_ref (k _ _ he3) (by rw [hz3.1]; exact q)
            obtain ⟨b1, d1, h1, h2, eb⟩ := PySem.W.exmAny_cons hb1
            have w2 : some false = some d1 := h2
            cases w2
            rw [Bool.or_false] at eb
            subst eb
            have LM := PySem.W.exm_one (M := model X.prog X.w) (J3.kIn) LT h1
            obtain ⟨hg, hdbg, hm | ⟨hm, hv, hnn⟩⟩ := hn
            · exact ld_glob (X := X.suite a ((a, oe3) :: (X.pn ++ pins))) S3 hg hm (LM.here (q h3 fun _ _ z => z)) hdbg
            · exact ld_blt (X := X.suite a ((a, oe3) :: (X.pn ++ pins))) S3 hg hm hv (LM.here (q h3 fun _ _ z => z)) hnn hdbg
          | tup hn =>
            rename_i es kk np
            refine wpAny_Tuple_spliced (eval_names (Y := X.suite a ((a, oe3) :: (X.pn ++ pins))) S3 _ hn.suite ⟨?_, ?_⟩)
            · exact Nat.le_trans (hz0 _ List.mem_cons_self) (by decide)
            · have kp : ∀ b o, h3.get? b = some o → (h3.push { cls := .type "tuple", data := .seq cs.toArray }).get? b = some o := fun b o e => Heap.get?_push_of_some _ e
              have LT : PySem.W.Looks (model X.prog X.w) (h3.push { cls := .type "tuple", data := .seq cs.toArray }) (typeOf (.ref a)) cls := fun A Q E s k q => wpAny_typeOf_ref (k _ _ (kp _ _ he3)) (by rw [hz3.1]; exact q)
              have LM := PySem.W.exm_tupN (M := model X.prog X.w) (J3.kIn.keeps kp) LT (Heap.get?_push_size _ rfl) hb1
              exact LM.here (q _ kp)
        refine test fun h4 kp => ?_
        have fl4 := flying_kept fl3 kp
        have up4 : sI.heap.UpToSlots h4 := up3.trans (.of_keeps kp)
        cases b with
        | true =>
          refine codeAny_handlers_suite_as ?_
          refine HandSPX.lands_againZ fl4 fun h5 fl5 up5 => ?_
          have J5 : Inv X pins σ' H' { s' with heap := h5 } := J.landed nb fl5.1 (up4.trans up5) os ag
          obtain ⟨oe5, vs5, he5, hz5, hd5⟩ := fl5.there
          have S5 := J5.suite he5 hd5 na nL nF
          refine store_ok (X := X.suite a ((a, oe5) :: (X.pn ++ pins))) (v := .ref a) S5 hN hi (.inl hln) rfl (fun s6 S6 => ?_) (.inr hln)
          refine wpAny_mono ((hsu a oe5 cls d (X.pn ++ pins) hz5 ⟨_, hd5⟩).run [] s6 _ H' _ S6 (hyes rfl a na)) (fun f s6 hsp => ?_) (fun _ _ z => False.elim z)
          have end_ : ∀ {σ6 : L2.St} {H6 : Hp} {Q : Shared → Prop}, Inv (X.suite a ((a, oe5) :: (X.pn ++ pins))) [] σ6 H6 s6 → (∀ s7, Inv X pins (σ6.set i none) H6 s7 → Q s7) →
              wpAny (model X.prog X.w) X.A (do bindName X.env n .none; unbindBehindTheSuite X.env n pos') (fun _ s7 => Q s7) X.xe s6 := fun {σ6 H6 Q} S6 hq => gone_ok (S6.unsuite ok) hN hi hln hq
          cases f with
          | next =>
            obtain ⟨σ6, H6, S6, q6⟩ := hsp
            exact end_ S6 fun s7 J7 => ⟨_, _, J7, q6⟩
          | brk =>
            obtain ⟨σ6, H6, S6, q6⟩ := hsp
            exact end_ S6 fun s7 J7 => ⟨_, _, J7, q6⟩
          | cont =>
            obtain ⟨σ6, H6, S6, q6⟩ := hsp
            exact end_ S6 fun s7 J7 => ⟨_, _, J7, q6⟩
          | ret u =>
            obtain ⟨v6, σ6, H6, S6, r6, q6⟩ := hsp
            exact end_ S6 fun s7 J7 => ⟨_, _, _, J7, r6, q6⟩
        | false =>
          show wpAny _ X.A (handleBy (.ref a) X.env hds2) _ _ _
          exact ih (fun x hx => hz0 x (List.mem_cons_of_mem _ hx)) (hno rfl) h4 fl4 up4
    exact go hh hsz w h3 fl3 (up.trans up3)
  · cases f with
    | next =>
      obtain ⟨σ', H', J', q⟩ := hsp
      exact wpAny_execs_nil ⟨σ', H', J'.ofTry ok, q⟩
    | brk =>
      obtain ⟨σ', H', J', q⟩ := hsp
      exact ⟨σ', H', J'.ofTry ok, q⟩
    | cont =>
      obtain ⟨σ', H', J', q⟩ := hsp
      exact ⟨σ', H', J'.ofTry ok, q⟩
    | ret u =>
      obtain ⟨v, σ', H', J', r, q⟩ := hsp
      exact ⟨v, σ', H', J'.ofTry ok, r, q⟩
end
end Bw

namespace Bw
open PySem PySem.Spec PyProof.Rows L2
/-! ### raise of own classes -/
section
variable {X : Cx}
/-- X(), X an own exception class without own __init__ -/
theorem pmk_own0 {C : Addr} {bmB : List Value} {B newId initId : String} {x : Str} {p pos : Pos} (F : ExcBaseFacts B newId initId bmB) (q : PySem.W.excIn X.K C bmB newId = true) (gC : X.mg x = some (.ref C))
    (kC : PySem.W.keepIn X.K (.ref C) = true) (r : Raises X (.ref C)) (hg : Gl X x) (hdb : (x == ("__debug__" : Str)) = false := by decide) : PMk X (.Call (.Name x p) [] [] pos) (fun _ H Q => Q (.ref C) none H) := by
  intro pins s σ H Q I h
  refine wpAny_Call_Name_kw (ld_glob I hg gC ?_ hdb)
  refine PySem.W.callWith_K0 I.kIn kC ?_
  show wpAny _ _ (call (.ref C) []) _ _ _
  obtain ⟨bm, N, nm, qn, bs, hdct, sn, sub, ab, col, dd, k0, k1, k2, k3, k5, mN, hC, hN, hni, T⟩ := exc_obj I.kIn q
  refine wpAny_call_exc_subT F T hC hN hni (fun h' e hm => ?_) (by show 0 ≤ sizeLine; exact Nat.zero_le _)
  exact mk_of I hm r h (I.hok.gone hm.new)
/-- D.__init__(self, ..), D an own class above which stands ValueError -/
theorem pe_wrinit {pl : Sem Bool} {D : Addr} {x : Str} {e : Expr} {es : List Expr} {ta : TA} {p1 p2 pos : Pos} (hg : Gl X x) (hm : X.mg x = some (.ref D)) (hga : PySem.W.specialIn X.K (.ref D) "__getattribute__" = some (some (.builtin "type.__getattribute__")))
    (hrd : PySem.W.readsIn X.K D (.type "type") = true) (vV : PySem.W.findCls X.K (.ref D) (.type "type") "__init__" = some (.val (.builtin "ValueError.__init__"))) (ha : PA X (e :: es) ta)
    (hdb : (x == ("__debug__" : Str)) = false := by decide)
    (hc : eval (.Call (.Attribute (.Name x p1) "__init__" p2) (e :: es) [] pos) X.env = (do
      let ov ← eval (.Name x p1) X.env
      standAt p2.atName
      let (f, first) ← holding [ov] (getMethod ov "__init__" pl)
      callWith pos f first (backTo pos (starEach (e :: es) X.env)) (backToKw pos (keywordEach [] X.env))) := by rfl)
    (he : starEach (e :: es) X.env = (false, eval e X.env) :: starEach es X.env := by rfl) (hpl : (backTo pos (starEach es X.env)).any (·.1) = false := by rfl) :
    PE X (.Call (.Attribute (.Name x p1) "__init__" p2) (e :: es) [] pos) (tVeI X.K ta) := by
  refine ⟨fun pins s σ H Q I h => ?_⟩
  refine PySem.W.methodCall_KW (ld_glob I hg hm ?_ hdb) hc
  refine PySem.W.method_cls I.kIn hga (PySem.W.cls_value I.kIn hrd vV rfl ?_)
  show wpAny _ _ (callWith pos (Value.builtin "ValueError.__init__") [] (backTo pos (starEach (e :: es) X.env)) []) _ _ _
  refine PyProof.Rows.callWith_method1 (thn (ha.run pos pins _ σ H _ (I.tok _) h) fun us s1 ⟨vs, H1, I1, r1, a, C, ws, ev, hl, T, ea, q⟩ => ?_) he hpl
  subst ev
  cases r1 with
  | @cons _ u0 _ ur ra rw' =>
    obtain rfl : u0 = Value.ref a := ra
    have hlen : ur.length ≤ sizeLine := by
      rw [← Paired.length rw', sizeLine_eq]
      omega
    exact oinit_ok T I1 ea hlen fun s' J => ⟨.non, H1, J, rfl, q⟩
/-- C(), C's own __init__ -/
theorem pmk_oex0 {CX : CXT} {x : Str} {C fI : Addr} {k : Nat} {fd : FuncData} {ps : List Str} {sp : Sp} {ds : List Value} {dvs : List V} {p pos : Pos} (T : OexC X.K C) (iC : PySem.W.findIn X.K (.ref C) "__init__" = some (some (.ref fI))) (tI : PySem.W.typeIn X.K (.ref fI) = some (.type "function"))
    (F1 : FnOk X.prog X.w X.K X.mg X.base CX k fI fd ps sp) (hr : Room (k + 1) X.A) (hb : Binds X.K fd ps ds) (hd : Vals dvs ds) (hx : Passes CX X (fun _ _ _ => False)) (hg : Gl X x) (hm : X.mg x = some (.ref C))
    (hdb : (x == ("__debug__" : Str)) = false := by decide) :
    PMk X (.Call (.Name x p) [] [] pos) (tMkO C sp dvs tNil) := by
  intro pins s σ H Q I h
  obtain ⟨nm, q, N, bs, bm, sn, sub, ab, col, dd, k0, k1, k2, k3, k5, hC, hbm⟩ := T.cls
  refine wpAny_Call_Name_kw (ld_glob I hg hm ?_ hdb)
  obtain ⟨hz, q1⟩ := h
  refine PySem.W.callWith_K0 I.kIn T.kC ?_
  show wpAny _ _ (call (.ref C) []) _ _ _
  obtain ⟨hp, g, dr, tk, os⟩ := s
  have hsz : hp.objs.size ≤ hp.objs.size + 1 := Nat.le_succ _
  have hn : H (hp.objs.size + 1) = none := I.hok.fresh hsz
  have hq := q1 (hp.objs.size + 1) hn
  have kk : ∀ b o, hp.get? b = some o → ((hp.push (PySem.W.kdv_tup [])).push (PySem.HandSPX.excO C hp.objs.size)).get? b = some o := fun b o e => Heap.get?_push_of_some _ (Heap.get?_push_of_some _ e)
  have hget : ((hp.push (PySem.W.kdv_tup [])).push (PySem.HandSPX.excO C hp.objs.size)).get? (hp.objs.size + 1) = some (PySem.HandSPX.excO C hp.objs.size) := by heap_get
  have I2 : Inv X pins σ (upd H (hp.objs.size + 1) (exo (hp.objs.size + 1) C none)) ⟨(hp.push (PySem.W.kdv_tup [])).push (PySem.HandSPX.excO C hp.objs.size), g, dr, tk, os⟩ :=
    I.laid (t' := tk) (a := hp.objs.size + 1) (o := exo (hp.objs.size + 1) C none) (h' := (hp.push (PySem.W.kdv_tup [])).push (PySem.HandSPX.excO C hp.objs.size)) kk hsz (exo_ok hget)
  have r2 : Vals (V.ref (hp.objs.size + 1) :: ([] ++ dvs)) (Value.ref (hp.objs.size + 1) :: ([] ++ ds)) := .cons rfl (Vals.append .nil hd)
  have hl : (Value.ref (hp.objs.size + 1) :: [] ++ ds).length = ps.length := by
    have e := r2.length
    rw [F1.len _ _ _ _ hq] at e
    exact e.symm
  refine wpAny_call (PySem.HandSPX.call_own F.excBase_ValueError (fun Y => PySem.HandSPX.refsVE_contains Y bm hbm) (I.kIn _ _ hC) (PySem.W.looks_findIn I.kIn iC) (fun self => PySem.W.bind_fn I.kIn self tI) (Nat.zero_le _)
    (codeAny_mono (F1.run _ X.stack _ _ ⟨Value.ref (hp.objs.size + 1) :: [], []⟩ (Value.ref (hp.objs.size + 1) :: ([] ++ ds)) _ _ (fun _ _ _ => False) (hr.make C [] []) (I2.env0.make C [] []) (show BindsTo _ _ _ (ps.zip (Value.ref (hp.objs.size + 1) :: ([] ++ ds))) from hb _ (Value.ref (hp.objs.size + 1) :: []) I2.kIn hl) r2 hq) fun r s' hq' => ?_))
  cases r with
  | error er => exact hx pins σ _ _ er s' I2 hq'
  | ok fl =>
    cases fl with
    | ret u =>
      obtain ⟨v, H2, os2, bare2, un2, hok2, rv, ev, d, fs, ea, ed, hd1, q2⟩ := hq'
      subst ev
      obtain ⟨h2, g2, d2, t2, os'⟩ := s'
      exact ⟨rv, mk_end (raises_own T.exC T.tyC) I hsz kk un2 hok2 os2 bare2 ea ed hd1 q2⟩
    | next => exact False.elim hq'
    | brk => exact False.elim hq'
    | cont => exact False.elim hq'
end
/-! ### own exceptions with one field -/
/-- what such an __init__(self, v) does -/
def spXi (K : PySem.W.Frag) (f : Str) : Sp := fun vs H Q _ => ∃ (a C : Addr) (v : V), vs = [.ref a, v] ∧ OexC K C ∧ PySem.W.findIn K (.ref C) f = some none ∧ H a = some (exo a C none) ∧ ∀ dx, H dx = none → dx ≠ a → Q .non (upd (upd H dx (exd dx [(f, v)])) a (exo a C (some dx)))
/-- an own exception class x, its __init__ puts one field f; dvs: what is told by default -/
structure Xcl (P : Program) (w : World) (K : PySem.W.Frag) (mg : Str → Option Value) (base : Heap) (x : Str) (C : Addr) (k : Nat) (f : Str) (dvs : List V) : Prop where
  T : OexC K C
  no : PySem.W.findIn K (.ref C) f = some none
  hm : mg x = some (.ref C)
  ex : ∃ (fI : Addr) (fd : FuncData) (ds : List Value) (ps : List Str), PySem.W.findIn K (.ref C) "__init__" = some (some (.ref fI)) ∧ PySem.W.typeIn K (.ref fI) = some (.type "function") ∧ FnOk P w K mg base CX0 k fI fd ps (spXi K f) ∧ Binds K fd ps ds ∧ Vals dvs ds
def tXmk (C : Addr) (f : Str) (dvs : List V) (ta : TA) : L2.St → Hp → XK → Prop := fun σ H Q => ta σ H fun vs H1 => ∃ v, vs ++ dvs = [v] ∧ ∀ d H2, H1 d = none → Same H1 H2 → H2 d = some (.xd [(f, v)]) → Q (.ref C) (some d) H2
theorem xi_end {K : PySem.W.Frag} {H1 : Hp} {C : Addr} {f : Str} {v : V} {Q : XK} (T : OexC K C) (no : PySem.W.findIn K (.ref C) f = some none) (h : ∀ d H2, H1 d = none → Same H1 H2 → H2 d = some (.xd [(f, v)]) → Q (.ref C) (some d) H2) (a : Addr) (na : H1 a = none) :
    spXi K f [.ref a, v] (upd H1 a (exo a C none)) (fun v H2 => v = .non ∧ ∃ (d : Addr) (fs : List (Str × V)), H2 a = some (exo a C (some d)) ∧ H2 d = some (exd d fs) ∧ H1 d = none ∧ Q (.ref C) (some d) (upd (del H2 a) d (.xd fs))) (fun _ _ _ => False) := by
  refine ⟨a, C, v, rfl, T, no, upd_same, fun dx n ne => ⟨rfl, dx, [(f, v)], upd_same, by rw [upd_ne ne, upd_same], by rw [upd_ne ne] at n; exact n, ?_⟩⟩
  rw [upd_ne ne] at n
  refine h dx _ n (fun c o e => ?_) upd_same
  have c1 := ne_of_none e n
  have c2 := ne_of_none e na
  rw [upd_ne c1, del_ne c2, upd_ne c2, upd_ne c1, upd_ne c2]
  exact e
section
variable {X : Cx}
theorem pmk_x {x f : Str} {C : Addr} {k : Nat} {dvs : List V} {e : Expr} {es : List Expr} {ta : TA} {p pos : Pos} (Z : Xcl X.prog X.w X.K X.mg X.base x C k f dvs) (hr : Room (k + 1) X.A) (hg : Gl X x) (ha : PA X (e :: es) ta) (mono : ∀ σ H (Q Q' : List V → Hp → Prop), (∀ vs H, Q vs H → Q' vs H) → ta σ H Q → ta σ H Q')
    (hdb : (x == ("__debug__" : Str)) = false := by decide) (he : starEach (e :: es) X.env = (false, eval e X.env) :: starEach es X.env := by rfl) (hpl : (backTo pos (starEach es X.env)).any (·.1) = false := by rfl) :
    PMk X (.Call (.Name x p) (e :: es) [] pos) (tXmk C f dvs ta) := by
  obtain ⟨fI, fd, ds, ps, iC, tI, F, hb, hd⟩ := Z.ex
  have M := pmk_oex (p := p) (pos := pos) Z.T iC tI F hr hb hd pass0 hg Z.hm ha hdb he hpl
  intro pins s σ H Q I h
  refine M pins s σ H Q I (mono _ _ _ _ (fun vs H1 ⟨v, ev, q⟩ => ⟨?_, fun a na => ?_⟩) h)
  · have := congrArg List.length ev
    simp only [List.length_append, List.length_cons, List.length_nil] at this
    omega
  · rw [ev]
    exact xi_end Z.T Z.no q a na
theorem pmk_x0 {x f : Str} {C : Addr} {k : Nat} {dvs : List V} {p pos : Pos} (Z : Xcl X.prog X.w X.K X.mg X.base x C k f dvs) (hr : Room (k + 1) X.A) (hg : Gl X x) (hdb : (x == ("__debug__" : Str)) = false := by decide) :
    PMk X (.Call (.Name x p) [] [] pos) (tXmk C f dvs tNil) := by
  obtain ⟨fI, fd, ds, ps, iC, tI, F, hb, hd⟩ := Z.ex
  have M := pmk_oex0 (p := p) (pos := pos) Z.T iC tI F hr hb hd pass0 hg Z.hm hdb
  intro pins s σ H Q I h
  obtain ⟨v, ev, q⟩ := h
  refine M pins s σ H Q I ⟨Nat.zero_le _, fun a na => ?_⟩
  rw [ev]
  exact xi_end Z.T Z.no q a na
/-- such an __init__ -/
theorem ok_xinit {P : Program} {w : World} {K : PySem.W.Frag} {mg : Str → Option Value} {base : Heap} {fI D : Addr} {fd : FuncData} {k : Nat} {qual x f par m : Str} {pa : Arguments} {sc : Scope} {dfl : List V} {kws : List (Str × V)} {j : Nat} {p1 p2 p3 p4 p5 p6 p7 p8 p9 p10 : Pos}
    (F : FunD K "__init__" qual pa [.Expr (.Call (.Attribute (.Name x p1) "__init__" p2) [.Name "self" p3, .Constant (.str m) j p4] [] p5) p6, .Assign [.Attribute (.Name "self" p7) f p8] (.Name par p9) p10] sc dfl kws fI fd) (S : FnScope ["self", par] ["self", par] sc)
    (hm : mg x = some (.ref D)) (hga : PySem.W.specialIn K (.ref D) "__getattribute__" = some (some (.builtin "type.__getattribute__"))) (hrd : PySem.W.readsIn K D (.type "type") = true) (vV : PySem.W.findCls K (.ref D) (.type "type") "__init__" = some (.val (.builtin "ValueError.__init__")))
    (hgl : sc.names.lookup x = some .globalImplicit) (v0 : Vis sc "self") (v1 : Vis sc par)
    (hc : ∀ (L g : Addr) (cd : Value), ∃ pl : Sem Bool, eval (.Call (.Attribute (.Name x p1) "__init__" p2) [.Name "self" p3, .Constant (.str m) j p4] [] p5) (envOfC qual sc L g cd) = (do
      let ov ← eval (.Name x p1) (envOfC qual sc L g cd)
      standAt p2.atName
      let (f, first) ← holding [ov] (getMethod ov "__init__" pl)
      callWith p5 f first (backTo p5 (starEach [.Name "self" p3, .Constant (.str m) j p4] (envOfC qual sc L g cd))) (backToKw p5 (keywordEach [] (envOfC qual sc L g cd)))))
    (hs : ∀ (L g : Addr) (cd : Value), swapsWith (.Name par p9) (some (.Attribute (.Name "self" p7) f p8)) p10.line (envOfC qual sc L g cd) = pure false)
    (hdb : (x == ("__debug__" : Str)) = false) (hd1 : (par == ("__debug__" : Str)) = false) (hcd1 : (par == ("__classdict__" : Str)) = false) : FnOk P w K mg base CX0 (k + 1) fI fd ["self", par] (spXi K f) := by
  refine F.ok S (fun vs H Q E ⟨a, C, v, e, _⟩ => by rw [e]; rfl) (fun cdv A outer s H vs Q E hr h => ?_)
  obtain ⟨pl, hc⟩ := hc s.heap.objs.size fI cdv
  refine ⟨_, pss_cons (ps_expr (pe_wrinit (D := D) (pl := pl) hgl hm hga hrd vV (pa_cons (pe_var (i := 0) rfl v0 (by decide) (by decide)) (pa_cons pe_str pa_nil)) hdb hc)) (pss_one (ps_ost (pe_var (i := 0) rfl v0 (by decide) (by decide)) (pe_var (i := 1) rfl v1 hd1 hcd1) (hs _ _ _))), ?_⟩
  obtain ⟨a, C, v, rfl, T, no, ha, q⟩ := h
  exact ⟨.ref a, rfl, a, C, [.str m], rfl, (by simp), T, ha, v, rfl, .ref a, rfl, a, C, rfl, T, no, .inl ⟨ha, q⟩⟩
end
end Bw

namespace Bw
open PySem PySem.Spec PyProof.Rows L2
/-! ### defs that may raise, as their callers want them -/
structure FnX (P : Program) (w : World) (K : PySem.W.Frag) (mg : Str → Option Value) (base : Heap) (x : Str) (k : Nat) (ps : List Str) (sp : Sp) : Prop where
  ex : ∃ (f : Addr) (fd : FuncData), FnOk P w K mg base (L2.CX P w) k f fd ps sp ∧ mg x = some (.ref f) ∧ PySem.W.keepIn K (.ref f) = true ∧ Binds K fd ps []
structure MeX (P : Program) (w : World) (K : PySem.W.Frag) (mg : Str → Option Value) (base : Heap) (C : Addr) (m : Str) (k : Nat) (ps : List Str) (sp : Sp) : Prop where
  ex : ∃ (f : Addr) (fd : FuncData), FnOk P w K mg base (L2.CX P w) k f fd ps sp ∧ Meth K C m f ∧ Binds K fd ps []
structure MkrX (P : Program) (w : World) (K : PySem.W.Frag) (mg : Str → Option Value) (base : Heap) (x : Str) (C : Addr) (k : Nat) (ps : List Str) (dvs : List V) (sp : Sp) : Prop where
  ex : ∃ (f : Addr) (fd : FuncData) (ds : List Value), Mk K C f ∧ FnOk P w K mg base (L2.CX P w) k f fd ps sp ∧ mg x = some (.ref C) ∧ Binds K fd ps ds ∧ Vals dvs ds
section
variable {X : Cx}
/-- what a callee lets out is let out -/
abbrev Lets (X : Cx) (E : XK) : Prop := Passes (L2.CX X.prog X.w) X E
theorem pe_fx {E : XK} {x : Str} {k : Nat} {ps : List Str} {sp : Sp} {e : Expr} {es : List Expr} {t : TA} {p pos : Pos} (F : FnX X.prog X.w X.K X.mg X.base x k ps sp) (hx : Lets X E) (hr : Room k X.A) (hg : Gl X x) (ha : PA X (e :: es) t)
    (hdb : (x == ("__debug__" : Str)) = false := by decide) (he : starEach (e :: es) X.env = (false, eval e X.env) :: starEach es X.env := by rfl) (hpl : (backTo pos (starEach es X.env)).any (·.1) = false := by rfl) :
    PE X (.Call (.Name x p) (e :: es) [] pos) (tCall sp [] E t) := by
  obtain ⟨f, fd, G, hm, hk, hb⟩ := F.ex
  exact pe_call G hr hg hm hk hb .nil hx ha hdb he hpl
theorem pe_mex {E : XK} {pl : Sem Bool} {C : Addr} {m : Str} {k : Nat} {ps : List Str} {sp : Sp} {o e : Expr} {es : List Expr} {t : TA} {ta : TE} {apos pos : Pos} (he : PE X o ta) (c : Cls X.K C) (M : MeX X.prog X.w X.K X.mg X.base C m k ps sp) (hx : Lets X E) (hr : Room k X.A) (ha : PA X (e :: es) t)
    (hst : starEach (e :: es) X.env = (false, eval e X.env) :: starEach es X.env := by rfl) (hpl : (backTo pos (starEach es X.env)).any (·.1) = false := by rfl)
    (ht : eval (.Call (.Attribute o m apos) (e :: es) [] pos) X.env = (do
      let ov ← eval o X.env
      standAt apos.atName
      let (f, first) ← holding [ov] (getMethod ov m pl)
      callWith pos f first (backTo pos (starEach (e :: es) X.env)) (backToKw pos (keywordEach [] X.env))) := by rfl) :
    PE X (.Call (.Attribute o m apos) (e :: es) [] pos) (tMeth C m sp [] E ta t) := by
  obtain ⟨f, fd, G, hm, hb⟩ := M.ex
  exact pe_meth he c hm G hr hb .nil hx ha hst hpl ht
theorem pe_mex0 {E : XK} {pl : Sem Bool} {C : Addr} {m : Str} {k : Nat} {ps : List Str} {sp : Sp} {o : Expr} {ta : TE} {apos pos : Pos} (he : PE X o ta) (c : Cls X.K C) (M : MeX X.prog X.w X.K X.mg X.base C m k ps sp) (hx : Lets X E) (hr : Room k X.A)
    (ht : eval (.Call (.Attribute o m apos) [] [] pos) X.env = (do
      let ov ← eval o X.env
      standAt apos.atName
      let (f, first) ← holding [ov] (getMethod ov m pl)
      callWith pos f first (backTo pos (starEach [] X.env)) (backToKw pos (keywordEach [] X.env))) := by rfl) :
    PE X (.Call (.Attribute o m apos) [] [] pos) (tMeth C m sp [] E ta tNil) := by
  obtain ⟨f, fd, G, hm, hb⟩ := M.ex
  exact pe_meth0 he c hm G hr hb .nil hx ht
theorem pe_mkx {E : XK} {x : Str} {C : Addr} {k : Nat} {ps : List Str} {dvs : List V} {sp : Sp} {e : Expr} {es : List Expr} {t : TA} {p pos : Pos} (M : MkrX X.prog X.w X.K X.mg X.base x C k ps dvs sp) (hx : Lets X E) (hr : Room (k + 1) X.A) (hg : Gl X x) (ha : PA X (e :: es) t)
    (hdb : (x == ("__debug__" : Str)) = false := by decide) (he : starEach (e :: es) X.env = (false, eval e X.env) :: starEach es X.env := by rfl) (hpl : (backTo pos (starEach es X.env)).any (·.1) = false := by rfl) :
    PE X (.Call (.Name x p) (e :: es) [] pos) (tMake C sp dvs E t) := by
  obtain ⟨f, fd, ds, M, G, hm, hb, hd⟩ := M.ex
  exact pe_make M G hr hg hm hb hd hx ha hdb he hpl
theorem pe_gcls {x : Str} {C : Addr} {p : Pos} (h : X.mg x = some (.ref C)) (hg : Gl X x) (hd : (x == ("__debug__" : Str)) = false := by decide) : PE X (.Name x p) (tC (.ref C)) := pe_glob (v := .ref C) hg h rfl hd
/-- X(), X an own exception class without own __init__ that stands above ValueError -/
structure XpV (K : PySem.W.Frag) (C : Addr) : Prop where
  q : PySem.W.excIn K C PySem.HandSPX.veTail "ValueError.__new__" = true
  kp : PySem.W.keepIn K (.ref C) = true
  h1 : PySem.W.subIn K (.ref C) (.type "BaseException") = some true
  h2 : PySem.W.typeIn K (.ref C) = some (.type "type")
theorem pmk_ownV {C : Addr} {x : Str} {p pos : Pos} (h : XpV X.K C) (gC : X.mg x = some (.ref C)) (hg : Gl X x) (hdb : (x == ("__debug__" : Str)) = false := by decide) : PMk X (.Call (.Name x p) [] [] pos) (fun _ H Q => Q (.ref C) none H) :=
  pmk_own0 F.excBase_ValueError h.q gC h.kp (raises_own h.h1 h.h2) hg hdb
theorem huH {k : Nat} {A : Around} (r : L2H.RoomH k A) : A.units + 65 < cLine := by have := r.un; omega
theorem lets0 : Lets X E0 := passL
theorem lets_of {E : XK} (tk : Takes X (fun cls d _ H => E cls d H)) : Lets X E := passes_call tk fun _ _ _ _ h => h
end
/-- a def's own wish -/
theorem takesX {P : Program} {w : World} {K : PySem.W.Frag} {mg : Str → Option Value} {base : Heap} {N : List Str} {qual : Str} {scope : Scope} {f : Addr} {cdv : Value} {A : Around} {outer : List Env} {s : Shared} {H : Hp} {E : XK} :
    Takes (cxOf (L2.CX P w) P w K mg base N qual scope f cdv A outer s H E) (fun cls d _ H => E cls d H) := takes_of rfl rfl rfl rfl
theorem takesLam {X : Cx} {A : Around} {outer : List Env} {s : Shared} {H : Hp} {E : XK} {scope : Scope} {f c' : Addr} : Takes (LamX.lamCx X A outer s H E scope f c') (fun cls d _ H => E cls d H) := takes_of rfl rfl rfl rfl
/-- what is never reached -/
theorem pss_no {X : Cx} {b : List Stmt} : PSs X b (fun _ _ _ => False) := ⟨fun _ _ _ _ _ _ h => h.elim⟩
/-! ### l.count(x) -/
section
variable {X : Cx}
def rCountD (K : PySem.W.Frag) : V → List V → Hp → VK → Prop := fun x xs H Q => ∃ (a : Addr) (y : V) (d : PyData) (ds : List PyData), x = V.ref a ∧ xs = [y] ∧ Dp K H (V.ref a) (.list ds) ∧ Dp K H y d ∧
  SeqAt.shaped (.list ds) = true ∧ SeqAt.shaped d = true ∧ Q (.int ((ds.countP fun z => PyData.eqv z d : Nat) : Int)) H
theorem mt_countD (hu : X.A.units + 65 < cLine) : MtR X "list.count" (rCountD X.K) := by
  intro pins s σ H x xs v us Q I rx rxs h
  obtain ⟨a, y, d, ds, rfl, rfl, hl, hy, sl, sd, q⟩ := h
  cases rx
  cases rxs with
  | cons ry rt =>
    rename_i uy ut
    cases rt
    obtain ⟨bs, r1⟩ := Dp.reads I d y uy hy ry
    have hroom : X.A.units + 1 + min (PyData.depthAll ds) d.depth < cLine := room_in_shaped sd hu
    have cl : PyData.canLayAll0 ds = true := SeqAt.canLay_of_shaped sl
    cases hl with
    | lst hs ha =>
      obtain ⟨its, rv, ⟨⟨cls, dd, data, sls⟩, n, ho, hc, hdn, hdt⟩, hlen⟩ := I.list hs
      simp only at hc hdt
      subst hc hdt
      obtain ⟨as, h4⟩ := Dp.readsAll I ds _ its ha rv
      have hmap : its.map (SeqAt.readOf s.heap) = ds := SeqAt.readsAll_map ds its as cl h4
      have ec : (ds.countP fun z => PyData.eqv z d) = its.toArray.toList.countP (fun u => PyData.eqv (SeqAt.readOf s.heap u) d) := by
        rw [← hmap, List.countP_map]
        rfl
      rw [ec] at q
      exact call_meets PySem.F.slot_list_count ⟨_, ho, rfl⟩ PySem.F.entry_list_count (PySem.F.args_list_count_2 _ _) (SeqAt.list_countAt a its.toArray n dd sls uy (fun u => PyData.eqv (SeqAt.readOf s.heap u) d))
        ⟨ho, SeqAt.items_eqAt (vs := its.toArray) (show ReadsAll s.heap its.toArray.toList ds as from h4) r1 cl (SeqAt.canLay_of_shaped sd) hroom, ⟨.int _, H, I.tok _, ⟨_, rfl⟩, q⟩⟩
end
/-! ### the caught exception within an except suite and the defs that are called there -/
/-- its dict, where it has one, is known -/
def XdOk (d : Option Addr) (H : Hp) : Prop := ∀ dd, d = some dd → ∃ fs, H dd = some (.xd fs)
section
variable {X : Cx}
theorem inst_pin {pins : List (Addr × Obj)} {σ : L2.St} {H : Hp} {s : Shared} {a D : Addr} {d : Option Addr} {oe : Obj} (I : Inv X pins σ H s) (hp : (a, oe) ∈ X.pn) (hz : Zc (.ref D) d oe) (hf : ∃ vs, oe.data = .fields vs) (hd : XdOk d H) : ∃ od, PySem.W.InstAt s.heap a oe D od := by
  obtain ⟨hget, _⟩ := I.pin (a, oe) (List.mem_append.mpr (.inl hp))
  obtain ⟨vs, hv⟩ := hf
  obtain ⟨z1, z2⟩ := hz
  have nc : PySem.W.notCls oe = true := by unfold PySem.W.notCls; rw [hv] <;> rfl
  cases d with
  | none => exact ⟨none, hget, z1, nc, by rw [z2]; trivial⟩
  | some dd =>
    obtain ⟨fs, e⟩ := hd dd rfl
    have hx : ObjOk X.prog X.w H s.heap dd (.xd fs) := I.hok dd _ e
    obtain ⟨mA, hns, hr⟩ := hx
    obtain ⟨od, ho, hl⟩ := lookIn_ns hns
    exact ⟨some od, hget, z1, nc, by rw [z2]; exact ho⟩
/-- isinstance(e, C) -/
def rIsP (K : PySem.W.Frag) (a : Addr) (cls : Value) (d : Option Addr) : List V → Hp → VK → Prop := fun xs H Q => ∃ (D : Addr) (c : V) (cv : Value) (b : Bool), cls = .ref D ∧ ExcC K D ∧ xs = [.ref a, c] ∧ ClsV c cv ∧ PySem.W.kitOne K (.ref D) cv = some b ∧ XdOk d H ∧ Q (.bl b) H
theorem kit_pin {a D : Addr} {oe : Obj} {od : Option Obj} (C : ExcC X.K D) : PySem.W.KitX X.K (.ref a) (.ref D) (fun h => PySem.W.InstAt h a oe D od) :=
  PySem.W.kitx_exc (by obtain ⟨cd, hc, _⟩ := PySem.W.any_some C.hd; rw [hc]; rfl) C.hg C.hk C.hs C.ha C.hn C.ht C.hm
theorem call_isP {a : Addr} {cls : Value} {d : Option Addr} {oe : Obj} (hp : (a, oe) ∈ X.pn) (hz : Zc cls d oe) (hf : ∃ vs, oe.data = .fields vs) : CallR X (.builtin "isinstance") (rIsP X.K a cls d) := by
  intro pins s σ H xs us Q I r h
  obtain ⟨D, c, cv, b, rfl, C, rfl, hcv, e, hx, q⟩ := h
  obtain ⟨od, J⟩ := inst_pin I hp hz hf hx
  obtain ⟨u1, u2, rfl, r1, r2⟩ := vals2 r
  cases (show u1 = Value.ref a from r1)
  have ec := hcv.eq r2
  subst ec
  exact PySem.W.kia_one (kit_pin C) I.kIn J e (fun z => nomatch z) fun tk => ⟨.bl b, H, I.tok tk, rfl, q⟩
/-- isinstance(e, (C1, C2, ..)) -/
def rIsPT (K : PySem.W.Frag) (a : Addr) (cls : Value) (d : Option Addr) : List V → Hp → VK → Prop := fun xs H Q => ∃ (D tp : Addr) (cs : List V) (us : List Value) (b : Bool), cls = .ref D ∧ ExcC K D ∧ xs = [.ref a, .ref tp] ∧ H tp = some (.tup cs) ∧ Paired ClsV cs us ∧ PySem.W.kitAny K (.ref D) us = some b ∧ XdOk d H ∧ Q (.bl b) H
theorem call_isPT {a : Addr} {cls : Value} {d : Option Addr} {oe : Obj} (hp : (a, oe) ∈ X.pn) (hz : Zc cls d oe) (hf : ∃ vs, oe.data = .fields vs) : CallR X (.builtin "isinstance") (rIsPT X.K a cls d) := by
  intro pins s σ H xs us Q I r h
  obtain ⟨D, tp, cs, ws, b, rfl, C, rfl, hT, k, e, hx, q⟩ := h
  obtain ⟨od, J⟩ := inst_pin I hp hz hf hx
  obtain ⟨u1, u2, rfl, r1, r2⟩ := vals2 r
  cases (show u1 = Value.ref a from r1)
  cases (show u2 = Value.ref tp from r2)
  obtain ⟨_, its, rv, o, h1, h2, n, h3⟩ := (show ObjOk X.prog X.w H s.heap tp (.tup cs) from I.hok tp _ hT)
  have e3 := ClsV.all k rv
  subst e3
  obtain ⟨oc, od', dt, sl⟩ := o
  simp only at h2 h3
  subst h2 h3
  exact PySem.W.kia_tup (kit_pin C) I.kIn J h1 e (fun z => nomatch z) fun tk => ⟨.bl b, H, I.tok tk, rfl, q⟩
/-- e.f -/
def tXfc (K : PySem.W.Frag) (a : Addr) (cls : Value) (d : Option Addr) (f : Str) (te : TE) : TE := fun σ H Q => te σ H fun x H1 => ∃ (D dd : Addr) (fs : List (Str × V)) (v : V), x = .ref a ∧ cls = .ref D ∧ ExcC K D ∧ PySem.W.findIn K (.ref D) f = some none ∧ d = some dd ∧ H1 dd = some (.xd fs) ∧ fs.lookup f = some v ∧ Q v H1
theorem pe_xfc {a : Addr} {oe : Obj} {cls : Value} {d : Option Addr} {e : Expr} {te : TE} {pos : Pos} {n : Str} (hp : (a, oe) ∈ X.pn) (hz : Zc cls d oe) (hf : ∃ vs, oe.data = .fields vs) (he : PE X e te) (hb : attributeBase e n X.env (eval e X.env) = eval e X.env := by rfl) :
    PE X (.Attribute e n pos) (tXfc X.K a cls d n te) := by
  refine ⟨fun pins s σ H Q I h => ?_⟩
  refine attr_of hb (thn (he.run pins s σ H _ I h) fun u s1 hh => ?_)
  obtain ⟨x, H1, I1, rx, D, dd, fs, v, ex, ec, C, no, ed, ea, l, q⟩ := hh
  subst ex ec ed
  cases (show u = Value.ref a from rx)
  obtain ⟨ha, _⟩ := I1.pin (a, oe) (List.mem_append_left _ hp)
  obtain ⟨vs, hd⟩ := hf
  obtain ⟨mA, hns, hr⟩ := (show ObjOk X.prog X.w H1 s1.heap dd (.xd fs) from I1.hok dd _ ea)
  obtain ⟨od, ho, hl⟩ := lookIn_ns hns
  obtain ⟨u, hu, ru⟩ := RelO.some_of (v := v) (o := mA n) (by rw [← l]; exact hr n)
  have J : PySem.W.InstAt s1.heap a oe D (some od) := ⟨ha, hz.1, by unfold PySem.W.notCls; rw [hd] <;> rfl, by rw [hz.2]; exact ho⟩
  exact HandSPX.exc_get I1.kIn J C.hg C.hk C.hs (PySem.W.findObj_own C.hd no rfl (by rw [hl, hu])) (handed_of ru) ⟨v, H1, I1.tok _, ru, q⟩
end
/-! ### a def that is called with the caught exception -/
abbrev SpP := Addr × Obj → List V → Hp → VK → Prop
structure FnP0 (P : Program) (w : World) (K : PySem.W.Frag) (mg : Str → Option Value) (base : Heap) (k : Nat) (f : Addr) (fd : FuncData) (ps : List Str) (sp : SpP) : Prop where
  len : ∀ p vs H Q, sp p vs H Q → vs.length = ps.length
  run : ∀ (A : Around) (outer : List Env) (s : Shared) (H : Hp) (args : Args) (us : List Value) (vs : List V) (Q : VK) (p : Addr × Obj), L2H.RoomH k A → L2H.PinOk outer H s p → Env0 P w K mg base A outer s H → BindsTo s fd args (ps.zip us) → Vals vs us → sp p vs H Q →
    codeAny (model P w) A (.call (.ref f) args) (CR CX0 outer P w H s Q E0) s
theorem Fun.okP {P : Program} {w : World} {K : PySem.W.Frag} {mg : Str → Option Value} {base : Heap} {x qual : Str} {st : Stmt} {f : Addr} {fd : FuncData} {N ps : List Str} {k : Nat} {sp : SpP} (F : Fun K x qual st f fd) (S : FnScope N ps (defScope st)) (len : ∀ p vs H Q, sp p vs H Q → vs.length = ps.length)
    (hbody : ∀ (cdv : Value) (A : Around) (outer : List Env) (s : Shared) (H : Hp) (vs : List V) (Q : VK) (p : Addr × Obj), L2H.RoomH k (A.deeper (envOfC qual (defScope st) s.heap.objs.size f cdv)) → sp p vs H Q →
      ∃ t, PSs (L2H.cxH CX0 P w K mg base N qual (defScope st) f cdv A outer s H E0 p).nox (defBody st) t ∧ t { nx := fun _ H' => Q .non H', rt := Q } (L2.start N vs) H) : FnP0 P w K mg base (k + 1) f fd ps sp := by
  obtain ⟨oc, od, kV, doc, pm, an, cdv, ct, osl, rfl, lk, hcd⟩ := F.ex
  refine ⟨len, fun A outer s H args us vs Q p hr hpin e0 hb r hsp => ?_⟩
  have hl := len _ _ _ _ hsp
  have KX : K.In s.heap := e0.mod.kin.keeps fun b o e => (e0.bs b o e).1
  refine codeAny_call_function hr.depth (KX _ _ lk) rfl S.co S.gen rfl (PySem.W.codeRec_of KX hcd) (hb _ _ _ _ ?_)
  have hkind : ∀ y ∈ ps.zip us, (defScope st).names.lookup y.1 = some .local ∨ ((defScope st).names.lookup y.1 = some .cell ∧ ((cellsFrom (s.heap.objs.size + 1) (defScope st).names []).lookup y.1).isSome = true) := by
    intro y hy
    obtain ⟨n, v⟩ := y
    exact (S.par n (List.of_mem_zip hy).1).imp id fun q => ⟨q, PySem.W.cellsFrom_some _ _ _ (.inl q)⟩
  refine wpAny_newFunctionEnv_cells S.kind hkind fun env he s1 x => ?_
  subst he
  refine ⟨(e0.mod.nolimit.keeps fun b o e => (e0.bs b o e).1).keeps x.toInCall.keep, codeAny_func ?_⟩
  obtain ⟨t, ht, hq⟩ := hbody cdv A outer s H vs Q p (hr.deeper _) hsp
  refine wpAny_mono (ht.nox.run [] s1 (L2.start N vs) H _ (L2H.inv_startH S hpin e0 hl r x) hq) (fun fl s' hs => ?_) fun e s' hs => hs
  have fin : ∀ {σ' : L2.St} {H' : Hp} {v : V} {u : Value}, Inv (L2H.cxH CX0 P w K mg base N qual (defScope st) f cdv A outer s H E0 p) [] σ' H' s' → RelV v u → Q v H' → CE outer P w H s Q u s' :=
    fun {σ' H' v u} J rv q => ⟨v, H', J.os, J.bare, J.base, J.hok, rv, q⟩
  match fl, hs with
  | .ret u, ⟨v, σ', H', J, rv, q⟩ => exact fin J rv q
  | .next, ⟨σ', H', J, q⟩ => exact fin (v := V.non) (u := Value.none) J rfl q
  | .brk, ⟨_, _, _, q⟩ => exact q.elim
  | .cont, ⟨_, _, _, q⟩ => exact q.elim
structure FnP (P : Program) (w : World) (K : PySem.W.Frag) (mg : Str → Option Value) (base : Heap) (x : Str) (k : Nat) (ps : List Str) (sp : SpP) : Prop where
  ex : ∃ (f : Addr) (fd : FuncData), FnP0 P w K mg base k f fd ps sp ∧ mg x = some (.ref f) ∧ PySem.W.keepIn K (.ref f) = true ∧ Binds K fd ps []
def tCallP (sp : SpP) (a : Addr) (cls : Value) (d : Option Addr) (t : TA) : TE := fun σ H Q => t σ H fun vs H1 => ∀ oe : Obj, Zc cls d oe → (∃ vs, oe.data = .fields vs) → sp (a, oe) vs H1 Q
theorem pe_fp {X : Cx} {x : Str} {k : Nat} {ps : List Str} {sp : SpP} {e : Expr} {es : List Expr} {t : TA} {q pos : Pos} {a : Addr} {oe : Obj} {cls : Value} {d : Option Addr} (F : FnP X.prog X.w X.K X.mg X.base x k ps sp) (hp : (a, oe) ∈ X.pn) (hz : Zc cls d oe) (hf : ∃ vs, oe.data = .fields vs) (hr : L2H.RoomH k X.A) (hg : Gl X x) (ha : PA X (e :: es) t)
    (hdb : (x == ("__debug__" : Str)) = false := by decide) (he : starEach (e :: es) X.env = (false, eval e X.env) :: starEach es X.env := by rfl) (hpl : (backTo pos (starEach es X.env)).any (·.1) = false := by rfl) :
    PE X (.Call (.Name x q) (e :: es) [] pos) (tCallP sp a cls d t) := by
  obtain ⟨f, fd, G, hm, hk, hb⟩ := F.ex
  refine ⟨fun pins s σ H Q I h => ?_⟩
  refine wpAny_Call_Name_kw (ld_glob I hg hm ?_ hdb)
  refine PySem.W.callWith_K (h₀ := X.base) I.ok.mod.kin hk (thn (ha.run pos pins s σ H _ I h) fun us s1 ⟨vs, H1, I1, r, q⟩ => ⟨I1.kIn, ?_⟩) he hpl
  have q := q oe hz hf
  have hl : us.length = ps.length := by rw [← r.length]; exact G.len _ _ _ _ q
  have b := hb s1 us I1.kIn (by rw [List.append_nil]; exact hl)
  rw [List.append_nil] at b
  have P1 := I1.pin (a, oe) (List.mem_append_left _ hp)
  have hpin : L2H.PinOk X.stack H1 s1 (a, oe) := ⟨P1.1, P1.2.1, fun hm => (List.mem_cons.mp (I1.stkSub a hm)).elim P1.2.2.1 P1.2.2.2.1, P1.2.2.2.2⟩
  show wpAny _ _ (call (.ref f) us) _ _ _
  refine wpAny_call (codeAny_mono (G.run X.A X.stack s1 H1 ⟨us, []⟩ us vs Q (a, oe) hr hpin I1.env0 b r q) fun r s' hq => ?_)
  match r, hq with
  | .error e, hq => exact False.elim hq
  | .ok (.ret u), hq => exact I1.after hq
  | .ok .next, hq => exact False.elim hq
  | .ok .brk, hq => exact False.elim hq
  | .ok .cont, hq => exact False.elim hq
theorem roomH_mark {k : Nat} {A : Around} {v : Option Value} (r : L2.Room k A) : L2H.RoomH k (A.mark v) := ⟨r.dp, r.un⟩
end Bw

namespace Bw
open PySem PySem.Spec PyProof.Rows L2
/-! ### the classes of the errors; what is told of one -/
structure Zs where
  (Wrong NoWord NoText NoNumber NoSize NoLengths NoQuery NoCode NoRow NoEntries NoQueryText NoPages NoName NoQueries NoShelf NoDeed Taken NoPlace NoSlot : Addr)
def Zs.sixteen (Z : Zs) : List Addr := [Z.NoCode, Z.NoDeed, Z.NoEntries, Z.NoLengths, Z.NoName, Z.NoNumber, Z.NoPages, Z.NoQueries, Z.NoQuery, Z.NoQueryText, Z.NoRow, Z.NoShelf, Z.NoSize, Z.NoText, Z.NoWord, Z.Taken]
def kindNames : List Str := ["code", "deed", "entries", "lengths", "name", "number", "pages", "queries", "query", "text of query", "row", "shelf", "size", "text", "word", "taken"]
def Zs.five (Z : Zs) : List Value := [.ref Z.NoCode, .ref Z.NoEntries, .ref Z.NoPages, .ref Z.NoQueryText, .ref Z.NoRow]
def excB (K : PySem.W.Frag) (D : Addr) : Bool :=
  decide (PySem.W.findIn K (.ref D) "__getattribute__" = some (some (.builtin "BaseException.__getattribute__"))) && (decide (PySem.W.findIn K (.ref D) "__getattr__" = some none) && (decide (PySem.W.subIn K (.ref D) (.type "BaseException") = some true) && (PySem.W.hasDictIn K D && (
  decide (PySem.W.findIn K (.ref D) "__class__" = some (some (.builtin "object.__class__"))) && (decide (PySem.W.specialIn K (.builtin "object.__class__") "__get__" = some (some (.builtin "getset_descriptor.__get__"))) && (decide (PySem.W.takesIn K (.builtin "object.__class__") = some true) && decide (PySem.W.mroIn K D (.type "object") = some true)))))))
theorem excB_ok {K : PySem.W.Frag} {D : Addr} (h : excB K D = true) : ExcC K D := by
  unfold excB at h
  simp only [Bool.and_eq_true, decide_eq_true_eq] at h
  obtain ⟨h1, h2, h3, h4, h5, h6, h7, h8⟩ := h
  exact ⟨h1, h2, h3, h4, h5, h6, h7, h8⟩
/-- one of the sixteen, and which -/
def kindB (K : PySem.W.Frag) (Z : Zs) (D : Addr) (i : Nat) : Bool :=
  excB K D && ((Z.sixteen.zipIdx.all fun x => decide (PySem.W.kitOne K (.ref D) (.ref x.1) = some (decide (x.2 = i)))) && (decide (PySem.W.kitOne K (.ref D) (.type "ValueError") = some true) && decide (PySem.W.kitAny K (.ref D) [.ref Z.NoPlace, .ref Z.NoSlot] = some false)))
structure KindOk (K : PySem.W.Frag) (Z : Zs) (D : Addr) (i : Nat) : Prop where
  ex : ExcC K D
  is : ∀ (j : Nat) (C : Addr), Z.sixteen[j]? = some C → PySem.W.kitOne K (.ref D) (.ref C) = some (decide (j = i))
  ve : PySem.W.kitOne K (.ref D) (.type "ValueError") = some true
  ix : PySem.W.kitAny K (.ref D) [.ref Z.NoPlace, .ref Z.NoSlot] = some false
theorem kindB_ok {K : PySem.W.Frag} {Z : Zs} {D : Addr} {i : Nat} (h : kindB K Z D i = true) : KindOk K Z D i := by
  unfold kindB at h
  simp only [Bool.and_eq_true, decide_eq_true_eq, List.all_eq_true] at h
  obtain ⟨h1, h2, h3, h4⟩ := h
  refine ⟨excB_ok h1, fun j C e => ?_, h3, h4⟩
  exact h2 (C, j) (by
    rw [List.mem_iff_getElem?]
    exact ⟨j, by simp [List.getElem?_zipIdx, e]⟩)
/-- by the first clause: with its place -/
def howAtB (K : PySem.W.Frag) (Z : Zs) (D : Addr) (i : Nat) : Bool := kindB K Z D i && (decide (PySem.W.findIn K (.ref D) "at" = some none) && decide (PySem.W.exmAny K (.ref D) Z.five = some true))
structure HowAt (K : PySem.W.Frag) (Z : Zs) (D : Addr) (i : Nat) : Prop where
  k : KindOk K Z D i
  no : PySem.W.findIn K (.ref D) "at" = some none
  c1 : PySem.W.exmAny K (.ref D) Z.five = some true
theorem howAtB_ok {K : PySem.W.Frag} {Z : Zs} {D : Addr} {i : Nat} (h : howAtB K Z D i = true) : HowAt K Z D i := by
  unfold howAtB at h
  simp only [Bool.and_eq_true, decide_eq_true_eq] at h
  exact ⟨kindB_ok h.1, h.2.1, h.2.2⟩
/-- by the second clause -/
def howPlB (K : PySem.W.Frag) (Z : Zs) (D : Addr) (i : Nat) : Bool := kindB K Z D i && (decide (PySem.W.exmAny K (.ref D) Z.five = some false) && decide (PySem.W.exmAny K (.ref D) [.ref Z.Wrong] = some true))
structure HowPl (K : PySem.W.Frag) (Z : Zs) (D : Addr) (i : Nat) : Prop where
  k : KindOk K Z D i
  c1 : PySem.W.exmAny K (.ref D) Z.five = some false
  c2 : PySem.W.exmAny K (.ref D) [.ref Z.Wrong] = some true
theorem howPlB_ok {K : PySem.W.Frag} {Z : Zs} {D : Addr} {i : Nat} (h : howPlB K Z D i = true) : HowPl K Z D i := by
  unfold howPlB at h
  simp only [Bool.and_eq_true, decide_eq_true_eq] at h
  exact ⟨kindB_ok h.1, h.2.1, h.2.2⟩
/-- by the third clause: no place (b), no slot (not b) -/
def howIxB (K : PySem.W.Frag) (Z : Zs) (D : Addr) (b : Bool) : Bool := excB K D && (decide (PySem.W.exmAny K (.ref D) Z.five = some false) && (decide (PySem.W.exmAny K (.ref D) [.ref Z.Wrong] = some false) && (decide (PySem.W.exmAny K (.ref D) [.ref Z.NoPlace, .ref Z.NoSlot] = some true) &&
  (decide (PySem.W.kitOne K (.ref D) (.type "IndexError") = some true) && (decide (PySem.W.kitOne K (.ref D) (.ref Z.NoPlace) = some b) && decide (PySem.W.kitOne K (.ref D) (.ref Z.NoSlot) = some (!b)))))))
structure HowIx (K : PySem.W.Frag) (Z : Zs) (D : Addr) (b : Bool) : Prop where
  ex : ExcC K D
  c1 : PySem.W.exmAny K (.ref D) Z.five = some false
  c2 : PySem.W.exmAny K (.ref D) [.ref Z.Wrong] = some false
  c3 : PySem.W.exmAny K (.ref D) [.ref Z.NoPlace, .ref Z.NoSlot] = some true
  ie : PySem.W.kitOne K (.ref D) (.type "IndexError") = some true
  np : PySem.W.kitOne K (.ref D) (.ref Z.NoPlace) = some b
  ns : PySem.W.kitOne K (.ref D) (.ref Z.NoSlot) = some (!b)
theorem howIxB_ok {K : PySem.W.Frag} {Z : Zs} {D : Addr} {b : Bool} (h : howIxB K Z D b = true) : HowIx K Z D b := by
  unfold howIxB at h
  simp only [Bool.and_eq_true, decide_eq_true_eq] at h
  obtain ⟨h1, h2, h3, h4, h5, h6, h7⟩ := h
  exact ⟨excB_ok h1, h2, h3, h4, h5, h6, h7⟩
/-! ### what the teller of the kind promises -/
def spKind (K : PySem.W.Frag) (Z : Zs) : SpP := fun p vs H Q => ∃ (D : Addr) (d : Option Addr) (i : Nat) (nm : Str), vs = [.ref p.1] ∧ Zc (.ref D) d p.2 ∧ (∃ vs, p.2.data = .fields vs) ∧ KindOk K Z D i ∧ XdOk d H ∧ kindNames[i]? = some nm ∧ ∀ H', Same H H' → Q (.str nm) H'
/-- what the asker makes of a raised one -/
def howE (K : PySem.W.Frag) (Z : Zs) (Q : VK) : XK := fun cls d H => ∃ D : Addr, cls = .ref D ∧
  ((∃ (i : Nat) (nm : Str), HowPl K Z D i ∧ kindNames[i]? = some nm ∧ XdOk d H ∧ ∀ H', Same H H' → Q (.str nm) H') ∨
   (∃ (i : Nat) (nm : Str) (dd : Addr) (v : V) (tv : String), HowAt K Z D i ∧ kindNames[i]? = some nm ∧ d = some dd ∧ H dd = some (.xd [("at", v)]) ∧ TyX K H v (.type tv) ∧ kitB tv "bool" = some false ∧ ∀ p H', H p = none → Same H H' → H' p = some (.tup [.str nm, v]) → Q (.ref p) H') ∨
   (∃ b : Bool, HowIx K Z D b ∧ XdOk d H ∧ ∀ H', Same H H' → Q (.str (if b then "no place" else "no slot")) H'))
def TTHow (K : PySem.W.Frag) (Z : Zs) : (XK → Hp → VK → Prop) → Hp → VK → Prop := fun tl H Q => tl (howE K Z Q) H (fun _ H' => Q (.str "told") H')
theorem cnt16 {i : Nat} (h : i < 16) : ((([decide (0 = i), decide (1 = i), decide (2 = i), decide (3 = i), decide (4 = i), decide (5 = i), decide (6 = i), decide (7 = i), decide (8 = i), decide (9 = i), decide (10 = i), decide (11 = i), decide (12 = i), decide (13 = i), decide (14 = i), decide (15 = i)] : List Bool).count true : Nat) : Int) = 1 := by
  have : ∀ i, i < 16 → ((([decide (0 = i), decide (1 = i), decide (2 = i), decide (3 = i), decide (4 = i), decide (5 = i), decide (6 = i), decide (7 = i), decide (8 = i), decide (9 = i), decide (10 = i), decide (11 = i), decide (12 = i), decide (13 = i), decide (14 = i), decide (15 = i)] : List Bool).count true : Nat) : Int) = 1 := by decide
  exact this i h
theorem idx16 {i : Nat} (h : i < 16) : ([decide (0 = i), decide (1 = i), decide (2 = i), decide (3 = i), decide (4 = i), decide (5 = i), decide (6 = i), decide (7 = i), decide (8 = i), decide (9 = i), decide (10 = i), decide (11 = i), decide (12 = i), decide (13 = i), decide (14 = i), decide (15 = i)] : List Bool)[i]? = some true := by
  have : ∀ i, i < 16 → ([decide (0 = i), decide (1 = i), decide (2 = i), decide (3 = i), decide (4 = i), decide (5 = i), decide (6 = i), decide (7 = i), decide (8 = i), decide (9 = i), decide (10 = i), decide (11 = i), decide (12 = i), decide (13 = i), decide (14 = i), decide (15 = i)] : List Bool)[i]? = some true := by decide
  exact this i h
theorem bef16 {i : Nat} (h : i < 16) (m : Nat) (hm : m < i) : ([decide (0 = i), decide (1 = i), decide (2 = i), decide (3 = i), decide (4 = i), decide (5 = i), decide (6 = i), decide (7 = i), decide (8 = i), decide (9 = i), decide (10 = i), decide (11 = i), decide (12 = i), decide (13 = i), decide (14 = i), decide (15 = i)] : List Bool)[m]? ≠ some true := by
  have : ∀ i, i < 16 → ∀ m, m < i → ([decide (0 = i), decide (1 = i), decide (2 = i), decide (3 = i), decide (4 = i), decide (5 = i), decide (6 = i), decide (7 = i), decide (8 = i), decide (9 = i), decide (10 = i), decide (11 = i), decide (12 = i), decide (13 = i), decide (14 = i), decide (15 = i)] : List Bool)[m]? ≠ some true := by decide
  exact this i h m hm
theorem nam16 {i : Nat} {nm : Str} (h : kindNames[i]? = some nm) : atI (kindNames.map V.str) (i : Int) = some (.str nm) := atI_nat (by rw [List.getElem?_map, h]; rfl)
theorem takes_len {X : Cx} {W : WX} (tk : Takes X W) : Takes X (fun cls d σ H => σ.length = X.N.length → W cls d σ H) := fun u s' x => by
  obtain ⟨a, B, sI, pins, σ, H, cls, d, e, I, nb, up, sky, na, os, ag, w⟩ := x
  exact tk u s' ⟨a, B, sI, pins, σ, H, cls, d, e, I, nb, up, sky, na, os, ag, w I.len⟩
theorem two_of {σ : L2.St} (h : σ.length = 2) : ∃ x y, σ = [x, y] := by
  match σ, h with
  | [x, y], _ => exact ⟨x, y, rfl⟩
/-- a suite, by any reading of it -/
def tAny (X : Cx) (b : List Stmt) (a : Addr) (cls : Value) (d : Option Addr) : TS := fun D σ H => ∀ (oe : Obj) (pn : List (Addr × Obj)), Zc cls d oe → (∃ vs, oe.data = .fields vs) → ∃ t : TS, PSs (X.suite a ((a, oe) :: pn)) b t ∧ t D σ H
theorem pss_any {X : Cx} {b : List Stmt} (a : Addr) (oe : Obj) (cls : Value) (d : Option Addr) (pn : List (Addr × Obj)) (hz : Zc cls d oe) (hf : ∃ vs, oe.data = .fields vs) : PSs (X.suite a ((a, oe) :: pn)) b (tAny X b a cls d) :=
  ⟨fun pins s σ H D I h => by
    obtain ⟨t, ht, hq⟩ := h oe pn hz hf
    exact ht.run pins s σ H D I hq⟩
theorem same_free {H H' : Hp} {p : Addr} (e : Same H H') (n : H' p = none) : H p = none := by
  cases h : H p with
  | none => rfl
  | some o => rw [e p o h] at n; cases n
theorem iteT' {A B : Prop} {b : Bool} (hb : b = true) (h : A) : if b = true then A else B := by rw [if_pos hb]; exact h
theorem iteF' {A B : Prop} {b : Bool} (hb : b = false) (h : B) : if b = true then A else B := by rw [if_neg (by rw [hb]; exact Bool.false_ne_true)]; exact h
/-! ### steps -/
section
variable {K : PySem.W.Frag} {H H' : Hp} {Q : VK} {σ : L2.St} {a : Addr} {cls : Value} {d : Option Addr}
theorem XdOk.same (h : XdOk d H) (e : Same H H') : XdOk d H' := fun dd q => by
  obtain ⟨fs, w⟩ := h dd q
  exact ⟨fs, e dd _ w⟩
theorem xdOk_at {dd : Addr} {fs : List (Str × V)} (h : H dd = some (.xd fs)) : XdOk (some dd) H := fun d' q => by
  cases q
  exact ⟨fs, h⟩
theorem xdOk_none : XdOk none H := fun d' q => by cases q
theorem w_isP {D C : Addr} {b : Bool} (hE : ExcC K D) (hk : PySem.W.kitOne K (.ref D) (.ref C) = some b) (hx : XdOk d H) (q : Q (.bl b) H) : rIsP K a (.ref D) d [.ref a, .ref C] H Q := ⟨D, .ref C, .ref C, b, rfl, hE, rfl, .own C, hk, hx, q⟩
theorem w_isPt {D : Addr} {n : String} {b : Bool} (hE : ExcC K D) (hk : PySem.W.kitOne K (.ref D) (.type n) = some b) (hx : XdOk d H) (q : Q (.bl b) H) : rIsP K a (.ref D) d [.ref a, .ty n] H Q := ⟨D, .ty n, .type n, b, rfl, hE, rfl, .ty n, hk, hx, q⟩
theorem w_isPT {D tp C1 C2 : Addr} {b : Bool} (hE : ExcC K D) (hT : H tp = some (.tup [.ref C1, .ref C2])) (hk : PySem.W.kitAny K (.ref D) [.ref C1, .ref C2] = some b) (hx : XdOk d H) (q : Q (.bl b) H) : rIsPT K a (.ref D) d [.ref a, .ref tp] H Q :=
  ⟨D, tp, _, _, b, rfl, hE, rfl, hT, .cons (.own C1) (.cons (.own C2) .nil), hk, hx, q⟩
theorem w_bmL {T : String} {r : V → List V → Hp → VK → Prop} {to : TE} {t : TA} (h : to σ H fun x H1 => tyV K T x H1 ∧ t σ H1 fun xs H2 => r x xs H2 Q) : tBM K T r to t σ H Q := h
theorem w_bm0 {T : String} {r : V → List V → Hp → VK → Prop} {to : TE} (h : to σ H fun x H1 => tyV K T x H1 ∧ r x [] H1 Q) : tBM0 K T r to σ H Q := h
theorem w_tyL {R : Prop} {xs : List V} (h : SqL K H a xs) (q : R) : tyV K "list" (.ref a) H ∧ R := ⟨.inl ⟨rfl, xs, h⟩, q⟩
theorem dpAll_bl : ∀ bs : List Bool, DpAll K H (bs.map V.bl) (bs.map PyData.bool)
  | [] => .nil
  | b :: r => .cons (.bl b) (dpAll_bl r)
theorem depth_bl : ∀ bs : List Bool, PyData.depthAll (bs.map PyData.bool) = 0
  | [] => rfl
  | b :: r => by simp [PyData.depthAll, PyData.depth, depth_bl r]
theorem lay_bl : ∀ bs : List Bool, PyData.canLayAll0 (bs.map PyData.bool) = true
  | [] => by simp [PyData.canLayAll0]
  | b :: r => by simp [PyData.canLayAll0, PyData.canLay0, lay_bl r]
theorem shaped_bl (bs : List Bool) : SeqAt.shaped (.list (bs.map PyData.bool)) = true := by
  simp [SeqAt.shaped, PyData.canLay0, lay_bl, PyData.depth, depth_bl]
theorem count_bl : ∀ bs : List Bool, (bs.map PyData.bool).countP (fun z => PyData.eqv z (.bool true)) = bs.count true
  | [] => rfl
  | b :: r => by
    rw [List.map_cons, List.countP_cons, List.count_cons, count_bl r]
    cases b <;> simp [PyData.eqv]
theorem w_countT {xs : List V} {n : Int} (bs : List Bool) (e : xs = bs.map V.bl) (h : SqL K H a xs) (hn : ((bs.count true : Nat) : Int) = n) (q : Q (.int n) H) : rCountD K (.ref a) [.bl true] H Q := by
  subst e
  refine ⟨a, .bl true, .bool true, bs.map PyData.bool, rfl, rfl, .lst h (dpAll_bl bs), .bl true, shaped_bl bs, by simp [SeqAt.shaped, PyData.canLay0, PyData.depth], ?_⟩
  rw [count_bl, hn]
  exact q
theorem w_indexT {xs : List V} {j : Nat} (bs : List Bool) (e : xs = bs.map V.bl) (h : SqL K H a xs) (hj : bs[j]? = some true) (hm : ∀ m, m < j → bs[m]? ≠ some true) (q : Q (.int j) H) : rIndexD K (.ref a) [.bl true] H Q := by
  subst e
  refine ⟨a, .bl true, .bool true, bs.map PyData.bool, j, .bool true, rfl, rfl, .lst h (dpAll_bl bs), .bl true, shaped_bl bs, by simp [SeqAt.shaped, PyData.canLay0, PyData.depth], by simp [hj], by simp [PyData.eqv], fun m z hlt hz => ?_, q⟩
  rw [List.getElem?_map] at hz
  cases eb : bs[m]? with
  | none => rw [eb] at hz; cases hz
  | some b =>
    rw [eb] at hz
    cases hz
    have := hm m hlt
    rw [eb] at this
    cases b <;> simp_all [PyData.eqv]
theorem w_cat {p1 p2 : Addr} {xs zs : List V} (h1 : H p1 = some (.lst xs)) (h2 : H p2 = some (.lst zs)) (hl : xs.length + zs.length ≤ sizeLine) (k : ∀ p H2, H p = none → Same H H2 → H2 p = some (.lst (xs ++ zs)) → Q (.ref p) H2) : rCat (.ref p1) (.ref p2) H Q :=
  ⟨p1, p2, xs, zs, rfl, rfl, h1, h2, hl, fun p n => k p _ n (same_new n) upd_same⟩
theorem w_callP {sp : SpP} {t : TA} (h : t σ H fun vs H1 => ∀ oe : Obj, Zc cls d oe → (∃ vs, oe.data = .fields vs) → sp (a, oe) vs H1 Q) : tCallP sp a cls d t σ H Q := h
theorem w_xfE {f : Str} {te : TE} (h : te σ H fun x H1 => ∃ (D dd : Addr) (fs : List (Str × V)) (v : V), x = .ref a ∧ cls = .ref D ∧ ExcC K D ∧ PySem.W.findIn K (.ref D) f = some none ∧ d = some dd ∧ H1 dd = some (.xd fs) ∧ fs.lookup f = some v ∧ Q v H1) : tXfc K a cls d f te σ H Q := h
theorem w_xf {D dd : Addr} {f : Str} {fs : List (Str × V)} {v : V} {R : V → Prop} (hE : ExcC K D) (no : PySem.W.findIn K (.ref D) f = some none) (hd : H dd = some (.xd fs)) (hl : fs.lookup f = some v) (q : R v) :
    ∃ (D' dd' : Addr) (fs : List (Str × V)) (v : V), V.ref a = .ref a ∧ Value.ref D = .ref D' ∧ ExcC K D' ∧ PySem.W.findIn K (.ref D') f = some none ∧ some dd = some dd' ∧ H dd' = some (.xd fs) ∧ fs.lookup f = some v ∧ R v := ⟨D, dd, fs, v, rfl, rfl, hE, no, rfl, hd, hl, q⟩
end
end Bw

namespace Bw
open PySem PySem.Spec PyProof.Rows L2
/-! ### loops and comprehensions over a known number of things -/
structure Fini (J : It) (n : Nat) (ok : Hp → Prop) (it : Nat → V → Hp → Hp → Prop) : Prop where
  go : ∀ i H, i < n → ok H → J.go i H
  yl : ∀ i H x H', i < n → ok H → J.yld i H x H' → it i x H H'
  st : ∀ H, ok H → J.stop n H
section
variable {K : PySem.W.Frag}
theorem fin_rng {lo : Int} {n : Nat} : Fini (Itr lo n) n (fun _ => True) (fun i x H H' => H' = H ∧ x = .int (lo + i)) := ⟨fun _ _ h _ => h, fun _ _ _ _ _ _ h => h, fun _ _ => Nat.le_refl _⟩
theorem fin_list {a : Addr} {xs : List V} : Fini (Itl K a) xs.length (fun H => SqL K H a xs) (fun i x H H' => H' = H ∧ xs[i]? = some x) :=
  ⟨fun i H h o => ⟨xs, xs[i], o, by simp [h]⟩, fun i H x H' h o y => ⟨y.1, y.2 xs o⟩, fun H o => ⟨xs, o, Nat.le_refl _⟩⟩
theorem fin_tup {a : Addr} {xs : List V} : Fini (Itt K a) xs.length (fun H => SqT K H a xs) (fun i x H H' => H' = H ∧ xs[i]? = some x) :=
  ⟨fun i H h o => ⟨xs, xs[i], o, by simp [h]⟩, fun i H x H' h o y => ⟨y.1, y.2 xs o⟩, fun H o => ⟨xs, o, Nat.le_refl _⟩⟩
theorem fin_str {x : Str} : Fini (Its x) x.cps.size (fun _ => True) (fun i v H H' => H' = H ∧ ∃ c, x.cps[i]? = some c ∧ v = .str ⟨#[c]⟩) := ⟨fun _ _ h _ => h, fun _ _ _ _ _ _ h => h, fun _ _ => Nat.le_refl _⟩
theorem fin_enum {a : Addr} {xs : List V} : Fini (Ite K a) xs.length (fun H => SqL K H a xs) (fun i v H H' => ∃ T x, v = .ref T ∧ H T = none ∧ Same H H' ∧ H' T = some (.tup [.int (i : Nat), x]) ∧ xs[i]? = some x) :=
  ⟨fun i H h o => ⟨xs, xs[i], o, by simp [h]⟩, fun i H v H' h o y => by
    obtain ⟨T, x, e, n, e', q⟩ := y
    subst e'
    exact ⟨T, x, e, n, same_new n, upd_same, q xs o⟩, fun H o => ⟨xs, o, Nat.le_refl _⟩⟩
/-- a for loop -/
theorem for_fin {J : It} {n : Nat} {ok : Hp → Prop} {it : Nat → V → Hp → Hp → Prop} {g : TG} {tb : TS} {D : Ends} {σ : L2.St} {H : Hp} (F : Fini J n ok it) (Pv : Nat → L2.St → Hp → Prop) (h0 : Pv 0 σ H) (hl : ∀ i σ H, i ≤ n → Pv i σ H → ok H)
    (hs : ∀ i x σ H H1, i < n → Pv i σ H → it i x H H1 → g x σ H1 fun σ2 H2 => tb { D with nx := Pv (i + 1), ct := Pv (i + 1), bk := D.nx } σ2 H2) (hd : ∀ σ H, Pv n σ H → D.nx σ H) :
    ∃ W : Nat → Nat → L2.St → Hp → Prop, (∃ m, W 0 m σ H) ∧ ∀ i m σ H, W i m σ H →
      (J.stop i H ∧ D.nx σ H) ∨ (J.go i H ∧ ∃ N : L2.St → Hp → Prop, (∀ σ' H', N σ' H' → ∃ m', m' < m ∧ W (i + 1) m' σ' H') ∧ ∀ x H', J.yld i H x H' → g x σ H' fun σ2 H2 => tb { D with nx := N, ct := N, bk := D.nx } σ2 H2) := by
  refine ⟨fun i m σ H => m = n - i ∧ i ≤ n ∧ Pv i σ H, ⟨n, by simp, Nat.zero_le _, h0⟩, ?_⟩
  rintro i m σ H ⟨rfl, hi, p⟩
  have o := hl i σ H hi p
  rcases Nat.lt_or_ge i n with hlt | hge
  · exact .inr ⟨F.go i H hlt o, Pv (i + 1), fun σ' H' p' => ⟨n - (i + 1), by omega, rfl, hlt, p'⟩, fun x H' y => hs i x σ H H' hlt p (F.yl i H x H' hlt o y)⟩
  · obtain rfl : i = n := Nat.le_antisymm hi hge
    exact .inl ⟨F.st H o, hd σ H p⟩
/-- the next turn of a comprehension -/
def NxI (D : Addr) (i : Nat) (Iv : Nat → List V → Hp → Prop) : Hp → Prop := fun H' => ∃ acc', acc'.length ≤ i + 1 ∧ H' D = some (.lst acc') ∧ Iv (i + 1) acc' H'
theorem take_succ {α : Type} {xs : Array α} {i : Nat} {c : α} (h : xs[i]? = some c) : xs.toList.take (i + 1) = xs.toList.take i ++ [c] := by
  rw [List.take_add_one]
  congr 1
  rw [Array.getElem?_toList, h]
  rfl
theorem take_succL {α : Type} {xs : List α} {i : Nat} {c : α} (h : xs[i]? = some c) : xs.take (i + 1) = xs.take i ++ [c] := by
  rw [List.take_add_one, h]
  rfl
theorem take_size {α : Type} {xs : Array α} : xs.toList.take xs.size = xs.toList := by
  rw [← Array.length_toList, List.take_length]
theorem w_acc {D : Addr} {i n : Nat} {Iv : Nat → List V → Hp → Prop} {acc : List V} {y : V} {H4 : Hp} (hD : H4 D = some (.lst acc)) (ha : acc.length ≤ i) (hi : i < n) (hn : n ≤ sizeLine) (k : ∀ H5, KB D H4 H5 → H5 D = some (.lst (acc ++ [y])) → Iv (i + 1) (acc ++ [y]) H5) :
    ∃ acc, H4 D = some (.lst acc) ∧ acc.length < sizeLine ∧ NxI D i Iv (upd H4 D (.lst (acc ++ [y]))) :=
  ⟨acc, hD, by omega, acc ++ [y], by rw [List.length_append]; simp; omega, upd_same, k _ kb_upd upd_same⟩
theorem w_skip {D : Addr} {i : Nat} {Iv : Nat → List V → Hp → Prop} {acc : List V} {H3 : Hp} (hD : H3 D = some (.lst acc)) (ha : acc.length ≤ i) (k : Iv (i + 1) acc H3) : NxI D i Iv H3 := ⟨acc, by omega, hD, k⟩
/-- a comprehension: Iv by the turn, what is gathered and the heap -/
theorem lc_fin {J : It} {n : Nat} {ok : Hp → Prop} {it : Nat → V → Hp → Hp → Prop} {g : TG} {tt : TT} {te : TE} {vs : List Nat} {σ : L2.St} {H1 : Hp} {Qd : Addr → Hp → Prop} (F : Fini J n ok it) (Iv : Nat → List V → Hp → Prop)
    (h0 : ∀ D H2, H1 D = none → Same H1 H2 → H2 D = some (.lst []) → Iv 0 [] H2) (hl : ∀ i acc H, i ≤ n → Iv i acc H → ok H)
    (hs : ∀ D i x acc H H', H1 D = none → i < n → acc.length ≤ i → Iv i acc H → H D = some (.lst acc) → it i x H H' → g x (wipe σ vs) H' fun σ2 H2 => wipe σ2 vs = wipe σ vs ∧ tt σ2 H2 fun b H3 =>
      if b = true then te σ2 H3 fun y H4 => ∃ acc, H4 D = some (.lst acc) ∧ acc.length < sizeLine ∧ NxI D i Iv (upd H4 D (.lst (acc ++ [y]))) else NxI D i Iv H3)
    (hd : ∀ D acc H, H1 D = none → Iv n acc H → acc.length ≤ n → H D = some (.lst acc) → Qd D H) :
    ∀ D, H1 D = none → ∃ W : Nat → Nat → Hp → Prop, (∃ m, W 0 m (upd H1 D (.lst []))) ∧ ∀ i m H, W i m H →
      (J.stop i H ∧ Qd D H) ∨ (J.go i H ∧ ∃ Nx : Hp → Prop, (∀ H', Nx H' → ∃ m', m' < m ∧ W (i + 1) m' H') ∧ ∀ x H', J.yld i H x H' → g x (wipe σ vs) H' fun σ2 H2 => wipe σ2 vs = wipe σ vs ∧ tt σ2 H2 fun b H3 =>
        if b = true then te σ2 H3 fun y H4 => ∃ acc, H4 D = some (.lst acc) ∧ acc.length < sizeLine ∧ Nx (upd H4 D (.lst (acc ++ [y]))) else Nx H3) := by
  intro D nD
  refine ⟨fun i m H => m = n - i ∧ i ≤ n ∧ ∃ acc, acc.length ≤ i ∧ H D = some (.lst acc) ∧ Iv i acc H, ⟨n, by simp, Nat.zero_le _, [], Nat.le_refl _, upd_same, h0 D _ nD (same_new nD) upd_same⟩, ?_⟩
  rintro i m H ⟨rfl, hi, acc, hacc, hD, p⟩
  have o := hl i acc H hi p
  rcases Nat.lt_or_ge i n with hlt | hge
  · exact .inr ⟨F.go i H hlt o, NxI D i Iv, fun H' p' => ⟨n - (i + 1), by omega, rfl, hlt, p'⟩, fun x H' y => hs D i x acc H H' nD hlt hacc p hD (F.yl i H x H' hlt o y)⟩
  · obtain rfl : i = n := Nat.le_antisymm hi hge
    exact .inl ⟨F.st H o, hd D acc H nD p hacc hD⟩
theorem w_lcE {wi : TI} {g : TG} {tt : TT} {te : TE} {vs : List Nat} {σ : L2.St} {H : Hp} {Q : VK} (h : wi σ H fun J H1 => ∀ D, H1 D = none → ∃ W : Nat → Nat → Hp → Prop, (∃ m, W 0 m (upd H1 D (.lst []))) ∧ ∀ i m H, W i m H →
  (J.stop i H ∧ Q (.ref D) H) ∨ (J.go i H ∧ ∃ Nx : Hp → Prop, (∀ H', Nx H' → ∃ m', m' < m ∧ W (i + 1) m' H') ∧ ∀ x H', J.yld i H x H' → g x (wipe σ vs) H' fun σ2 H2 => wipe σ2 vs = wipe σ vs ∧ tt σ2 H2 fun b H3 =>
    if b = true then te σ2 H3 fun y H4 => ∃ acc, H4 D = some (.lst acc) ∧ acc.length < sizeLine ∧ Nx (upd H4 D (.lst (acc ++ [y]))) else Nx H3)) : tLc wi g tt te vs σ H Q := h
theorem w_iStr {te : TE} {σ : L2.St} {H : Hp} {R : It → Hp → Prop} (h : te σ H fun v H1 => ∃ x, v = .str x ∧ R (Its x) H1) : iStr te σ H R := h
theorem w_strE {x : Str} {R : Str → Prop} (q : R x) : ∃ y, V.str x = .str y ∧ R y := ⟨x, rfl, q⟩
theorem w_iEnum {ta : TA} {σ : L2.St} {H : Hp} {R : It → Hp → Prop} (h : ta σ H fun vs H1 => ∃ a xs, vs = [.ref a] ∧ SqL K H1 a xs ∧ R (Ite K a) H1) : iEnum K ta σ H R := h
theorem w_enum {a : Addr} {xs : List V} {H : Hp} {R : Addr → Prop} (h : SqL K H a xs) (q : R a) : ∃ (a' : Addr) (xs : List V), [V.ref a] = [.ref a'] ∧ SqL K H a' xs ∧ R a' := ⟨a, xs, rfl, h, q⟩
theorem w_yes {σ : L2.St} {H : Hp} {QB : Bool → Hp → Prop} (q : QB true H) : tYes σ H QB := q
theorem w_inS {c : Nat} {z : Str} {H : Hp} {Q : VK} (q : Q (.bl (decide (c ∈ z.cps.toList))) H) : rInS (.str ⟨#[c]⟩) (.str z) H Q := ⟨c, z, rfl, rfl, q⟩
theorem w_all {bs : List Bool} {a : Addr} {xs : List V} {H : Hp} {Q : VK} (e : xs = bs.map V.bl) (h : SqL K H a xs) (q : Q (.bl (bs.all id)) H) : rAll K [.ref a] H Q := ⟨a, bs, rfl, e ▸ h, q⟩
theorem w_m1 {r : V → List V → Hp → VK → Prop} {to te : TE} {σ : L2.St} {H : Hp} {Q : VK} (h : to σ H fun x H1 => (∃ a, x = .str a) ∧ te σ H1 fun y H2 => r x [y] H2 Q) : tM1 r to te σ H Q := h
theorem w_m0 {r : V → List V → Hp → VK → Prop} {to : TE} {σ : L2.St} {H : Hp} {Q : VK} (h : to σ H fun x H1 => (∃ a, x = .str a) ∧ r x [] H1 Q) : tM0 r to σ H Q := h
theorem w_append {l : Addr} {xs : List V} {y : V} {H : Hp} {Q : VK} (h : H l = some (.lst xs)) (hl : xs.length < sizeLine) (k : ∀ H2, KB l H H2 → H2 l = some (.lst (xs ++ [y])) → Q .non H2) : rAppend (.ref l) [y] H Q := ⟨l, xs, y, rfl, rfl, h, hl, k _ kb_upd upd_same⟩
theorem txt_join (y : Str) (ps : List Str) : Txt.join y ps = Str.join y ps := beq_iff_eq.mp (PyProof.Rows.join_plain_closes y ps)
theorem w_sl {r : V → Option Int → Option Int → Hp → VK → Prop} {te : TE} {tl th : TO} {σ : L2.St} {H : Hp} {Q : VK} (h : te σ H fun x H1 => tl σ H1 fun l H2 => th σ H2 fun u H3 => r x l u H3 Q) : L2.tSl r te tl th σ H Q := h
theorem w_noPart {σ : L2.St} {H : Hp} {Q : Option Int → Hp → Prop} (q : Q none H) : tNoPart σ H Q := q
theorem w_part {te : TE} {σ : L2.St} {H : Hp} {Q : Option Int → Hp → Prop} (h : te σ H fun v H1 => ∃ i, v = .int i ∧ Q (some i) H1) : tPart te σ H Q := h
theorem w_intE {i : Int} {R : Int → Prop} (q : R i) : ∃ j, V.int i = .int j ∧ R j := ⟨i, rfl, q⟩
theorem w_slS {z : Str} {lo hi : Option Int} {H : Hp} {Q : VK} (hl : z.length ≤ sizeLine) (q : Q (.str (cutS z lo hi)) H) : rSlS (.str z) lo hi H Q := ⟨z, rfl, hl, q⟩
theorem w_slL {a : Addr} {xs : List V} {lo hi : Option Int} {H : Hp} {Q : VK} (h : SqL K H a xs) (k : ∀ p H2, H p = none → Same H H2 → H2 p = some (.lst (cutV xs lo hi)) → Q (.ref p) H2) : rSlL K (.ref a) lo hi H Q := ⟨a, xs, rfl, h, fun p n => k p _ n (same_new n) upd_same⟩
theorem w_addS {x y : Str} {H : Hp} {Q : VK} (hl : x.length + y.length ≤ sizeLine) (q : Q (.str (x ++ y)) H) : rAddS (.str x) (.str y) H Q := ⟨x, y, rfl, rfl, hl, q⟩
theorem w_isS {x : Str} {R : Prop} (q : R) : (∃ a, V.str x = .str a) ∧ R := ⟨⟨x, rfl⟩, q⟩
theorem w_split {x y : Str} {H : Hp} {Q : VK} (hy : (y.length == 0) = false) (hl : x.length + 2 ≤ sizeLine) (k : ∀ p H2, H p = none → Same H H2 → H2 p = some (.lst ((Txt.split x y).map V.str)) → Q (.ref p) H2) :
    ∃ a b, V.str x = .str a ∧ [V.str y] = [.str b] ∧ (b.length == 0) = false ∧ a.length + 2 ≤ sizeLine ∧ rNewStrs (Txt.split a b) H Q := ⟨x, y, rfl, rfl, hy, hl, fun p n => k p _ n (same_new n) upd_same⟩
theorem w_join {x : Str} {p : Addr} {ys : List Str} {zs : List V} {H : Hp} {Q : VK} (e : zs = ys.map V.str) (h : SqL K H p zs) (hl : (ys.map (·.length)).sum + ys.length * x.length ≤ 16777216) (q : Q (.str (Txt.join x ys)) H) :
    ∃ a p', ∃ ys : List Str, V.str x = .str a ∧ [V.ref p] = [.ref p'] ∧ (SqL K H p' (ys.map V.str) ∨ SqT K H p' (ys.map V.str)) ∧ (ys.map (·.length)).sum + ys.length * a.length ≤ 16777216 ∧ Q (.str (Txt.join a ys)) H := ⟨x, p, ys, rfl, rfl, .inl (e ▸ h), hl, q⟩
/-! ### pieces of a text -/
theorem le_sum {x : Nat} : ∀ {l : List Nat}, x ∈ l → x ≤ l.sum
  | y :: r, h => by
    rcases List.mem_cons.mp h with rfl | h
    · simp
    · have := le_sum h
      simp
      omega
end
end Bw

namespace Bw
open PySem PySem.Spec PyProof.Rows L2 LamX
/-- a def whose code object is known -/
structure FunC (K : PySem.W.Frag) (x qual : Str) (st : Stmt) (f : Addr) (fd : FuncData) (c : Addr) : Prop where
  ex : ∃ (oc : Value) (od : Option Addr) (kV doc pm : Value) (an : Option Addr) (ct : Value) (osl : Array (Option Value)),
    fd = PySem.W.fnOf x qual (defArgs st) (defBody st) (defScope st) .none kV doc pm an (.ref c) ct ∧ K.lookup f = some ⟨oc, od, .func fd, osl⟩ ∧ PySem.W.codeIn K (.ref c) qual = true
  kp : PySem.W.keepIn K (.ref f) = true
section
variable {P : Program} {w : World} {K : PySem.W.Frag} {mg : Str → Option Value} {base : Heap}
theorem FunC.ok {x qual : Str} {st : Stmt} {f c : Addr} {fd : FuncData} {N ps : List Str} {k : Nat} {sp : Sp} (F : FunC K x qual st f fd c) (S : FnScope N ps (defScope st)) (len : ∀ vs H Q E, sp vs H Q E → vs.length = ps.length)
    (hbody : ∀ (A : Around) (outer : List Env) (s : Shared) (H : Hp) (vs : List V) (Q : VK) (E : XK), Room k (A.deeper (envOfC qual (defScope st) s.heap.objs.size f (.ref c))) → sp vs H Q E →
      ∃ t, PSs (cxOf CX0 P w K mg base N qual (defScope st) f (.ref c) A outer s H E).nox (defBody st) t ∧ t { nx := fun _ H' => Q .non H', rt := Q } (L2.start N vs) H) : FnOk P w K mg base CX0 (k + 1) f fd ps sp := by
  obtain ⟨oc, od, kV, doc, pm, an, ct, osl, rfl, lk, hcd⟩ := F.ex
  refine fn_of lk hcd S len fun A outer s H vs Q E hr hsp => ?_
  obtain ⟨t, h, q⟩ := hbody A outer s H vs Q E hr hsp
  exact ⟨t, h.nox, q⟩
theorem FunC.fun_ {x qual : Str} {st : Stmt} {f c : Addr} {fd : FuncData} (F : FunC K x qual st f fd c) : Fun K x qual st f fd := by
  obtain ⟨oc, od, kV, doc, pm, an, ct, osl, e, lk, hcd⟩ := F.ex
  exact ⟨⟨oc, od, kV, doc, pm, an, .ref c, ct, osl, e, lk, hcd⟩, F.kp⟩
theorem funC_mk {x qual : Str} {st : Stmt} {f c : Addr} {oc : Value} {od an : Option Addr} {osl : Array (Option Value)} {kV doc pm ct : Value} (l : K.lookup f = some ⟨oc, od, .func (PySem.W.fnOf x qual (defArgs st) (defBody st) (defScope st) .none kV doc pm an (.ref c) ct), osl⟩)
    (hc : PySem.W.codeIn K (.ref c) qual = true) (k : PySem.W.keepIn K (.ref f) = true) : FunC K x qual st f (PySem.W.fnOf x qual (defArgs st) (defBody st) (defScope st) .none kV doc pm an (.ref c) ct) c := ⟨⟨oc, od, kV, doc, pm, an, ct, osl, rfl, l, hc⟩, k⟩
/-- the def x is handed a lambda without parameters, and calls it -/
structure Asks (P : Program) (w : World) (K : PySem.W.Frag) (mg : Str → Option Value) (base : Heap) (x a : Str) (N : List Str) (st : Stmt) (k : Nat) (TT : (XK → Hp → VK → Prop) → Hp → VK → Prop) : Prop where
  ex : ∃ (g : Addr) (fd : FuncData), Fun K x x st g fd ∧ mg x = some (.ref g) ∧ Binds K fd [a] []
  sc : FnScope N [a] (defScope st)
  n0 : N[0]? = some a
  va : Vis (defScope st) a
  gives : ∀ X : Cx, X.prog = P → X.w = w → X.K = K → X.mg = mg → X.base = base → Room k X.A → ∀ (g : Addr) (cdg : Value) (q : Str), GivesTo X N x (defScope st) g cdg (defBody st) a q TT
end
abbrev lamN (x : Str) : Str := (x ++ ".<locals>.") ++ "<lambda>"
theorem pe_asks {X : Cx} {x a : Str} {N : List Str} {st : Stmt} {k j : Nat} {TT : (XK → Hp → VK → Prop) → Hp → VK → Prop} {T : List (Addr × Str)} {c P : Addr} {params : Arguments} {body : Expr} {scope : Scope} {t : XK → TE} {p lpos pos : Pos}
    (A : Asks X.prog X.w X.K X.mg X.base x a N st k TT) (hg : Gl X x) (TB : TabB X.base X.mg c P) (hcode : X.env.code = .ref c) {ql : Str} (hql : X.env.qual = ql) (hmT : (P, ql ++ "<lambda>") ∈ T) (hu : ∀ p ∈ T, p.1 = P → p.2 = ql ++ "<lambda>") (hr1 : Room k X.A) (hr : Room (j + 2) X.A) (L : lamSB X.env.scope scope = true) (hdef : defaultsOf params X.env = ([], []))
    (hbind : ∀ (q : Str) (cl : List (Str × Addr)) (pm cv ctv : Value), bindArgs (PySem.W.kla_fn "<lambda>" q params body scope cl pm cv ctv) ⟨[], []⟩ = pure [])
    (hbody : ∀ (A : Around) (outer : List Env) (s : Shared) (H : Hp) (E : XK) (f c' : Addr), Room j (A.deeper (lamEnv X scope s.heap.objs.size f c')) → PE (lamCx X A outer s H E scope f c') body (t E))
    (hdb : (x == ("__debug__" : Str)) = false := by decide) (hd : (a == ("__debug__" : Str)) = false := by decide) (hcd : (a == ("__classdict__" : Str)) = false := by decide) :
    PE X (.Call (.Name x p) [.Lambda params body scope lpos] [] pos) (tLam T TT t) := by
  subst hql
  obtain ⟨g, fd, F, hm, hb⟩ := A.ex
  have kp := F.kp
  obtain ⟨oc, od, kV, doc, pm, an, cdv, ct, osl, rfl, lk, hcd'⟩ := F.ex
  exact pe_lamcall hg hm kp lk hcd' hb A.sc A.n0 A.va (A.gives X rfl rfl rfl rfl rfl hr1 g cdv _) TB hcode hmT hu hr (lamS_by L) hdef hbind hbody hdb hd hcd
/-! ### steps -/
section
variable {H H' H1 : Hp} {σ : L2.St} {Q : VK} {K : PySem.W.Frag}
theorem w_lam {T : List (Addr × Str)} {TT : (XK → Hp → VK → Prop) → Hp → VK → Prop} {t : XK → TE} (hT : Tabs T H) (h : ∀ H1, ExtN H H1 → Tabs T H1 → TT (fun E H' Q' => t E σ H' Q') H1 Q) : tLam T TT t σ H Q := ⟨hT, h⟩
theorem w_how {Z : Zs} {tl : XK → Hp → VK → Prop} (h : tl (howE K Z Q) H (fun _ H' => Q (.str "told") H')) : TTHow K Z tl H Q := h
theorem extn_at {a : Addr} {o : HO} (e : ExtN H H') (h : H a = some o) (n : ∀ ps, o ≠ .tbl ps) : H' a = some o := e a o h n
theorem extn_same (e : Same H H') : ExtN H H' := fun b o h _ => e b o h
theorem extn_seq {a : Addr} {xs : List V} (e : ExtN H H') (h : SqL K H a xs) : SqL K H' a xs := by
  rcases h with (h | ⟨o, h⟩) | h
  · exact .inl (.inl (e _ _ h (fun _ z => by cases z)))
  · exact .inl (.inr ⟨o, e _ _ h (fun _ z => by cases z)⟩)
  · exact .inr h
theorem extn_tup {a : Addr} {xs : List V} (e : ExtN H H') (h : SqT K H a xs) : SqT K H' a xs := by
  rcases h with (h | ⟨o, h⟩) | h
  · exact .inl (.inl (e _ _ h (fun _ z => by cases z)))
  · exact .inl (.inr ⟨o, e _ _ h (fun _ z => by cases z)⟩)
  · exact .inr h
mutual
theorem Dp.extn (e : ExtN H H') : ∀ {v : V} {d : PyData}, Dp K H v d → Dp K H' v d
  | _, _, .non => .non
  | _, _, .bl b => .bl b
  | _, _, .int i => .int i
  | _, _, .str x => .str x
  | _, _, .lst h r => .lst (extn_seq e h) (DpAll.extn e r)
  | _, _, .tup h r => .tup (extn_tup e h) (DpAll.extn e r)
theorem DpAll.extn (e : ExtN H H') : ∀ {vs : List V} {ds : List PyData}, DpAll K H vs ds → DpAll K H' vs ds
  | _, _, .nil => .nil
  | _, _, .cons h r => .cons (Dp.extn e h) (DpAll.extn e r)
end
/-- two heaps, the tables may have grown -/
structure Grown (T : List (Addr × Str)) (H H' : Hp) : Prop where
  e : ExtN H H'
  t : Tabs T H'
theorem Grown.trans {T : List (Addr × Str)} (a : Grown T H H1) (b : Grown T H1 H') : Grown T H H' := ⟨a.e.trans b.e, b.t⟩
theorem Grown.same {T : List (Addr × Str)} (a : Grown T H H1) (b : Same H1 H') : Grown T H H' := ⟨a.e.trans (extn_same b), a.t.ext b⟩
theorem Grown.of {T : List (Addr × Str)} (t : Tabs T H) (b : Same H H') : Grown T H H' := ⟨extn_same b, t.ext b⟩
theorem tabs_kb {T : List (Addr × Str)} {p : Addr} {xs : List V} (t : Tabs T H) (hp : H p = some (.lst xs)) (e : KB p H H') : Tabs T H' := by
  intro x hx
  obtain ⟨ps, h1, h2, h3⟩ := t x hx
  have ne : ∀ {b o}, H b = some o → (o ≠ .lst xs) → b ≠ p := fun {b o} hb no z => no (Option.some.inj (hb.symm.trans (z ▸ hp)))
  refine ⟨ps, e _ _ h1 (ne h1 (fun z => by cases z)), h2, fun pos cv hc => ?_⟩
  obtain ⟨c, e1, e2⟩ := h3 pos cv hc
  exact ⟨c, e1, e _ _ e2 (ne e2 (fun z => by unfold CodeO at z; cases z))⟩
end
/-! ### things that are no texts -/
inductive Odd (H : Hp) : V → Prop
  | non : Odd H .non
  | int (i : Int) : Odd H (.int i)
  | bl (b : Bool) : Odd H (.bl b)
  | lst {a : Addr} {xs : List V} : H a = some (.lst xs) → Odd H (.ref a)
  | tup {a : Addr} {xs : List V} : H a = some (.tup xs) → Odd H (.ref a)
theorem kit_non_str : kitB "NoneType" "str" = some false := by decide +kernel
theorem kit_lst_str : kitB "list" "str" = some false := by decide +kernel
theorem kit_tup_str : kitB "tuple" "str" = some false := by decide +kernel
theorem Odd.ty {K : PySem.W.Frag} {H : Hp} {v : V} (h : Odd H v) : (∀ x, v ≠ .str x) ∧ ∃ tv, TyX K H v (.type tv) ∧ kitB tv "str" = some false := by
  cases h with
  | non => exact ⟨fun x z => (by cases z), _, tyx_non, kit_non_str⟩
  | int i => exact ⟨fun x z => (by cases z), _, tyx_int, kit_int_str⟩
  | bl b => exact ⟨fun x z => (by cases z), _, tyx_bl, kit_bool_str⟩
  | lst e => exact ⟨fun x z => (by cases z), _, tyx_lst e, kit_lst_str⟩
  | tup e => exact ⟨fun x z => (by cases z), _, tyx_tup e, kit_tup_str⟩
theorem Odd.ext {H H' : Hp} {v : V} (h : Odd H v) (e : ExtN H H') : Odd H' v := by
  cases h with
  | non => exact .non
  | int i => exact .int i
  | bl b => exact .bl b
  | lst q => exact .lst (e _ _ q (fun _ z => by cases z))
  | tup q => exact .tup (e _ _ q (fun _ z => by cases z))
/-- a text, or no text -/
def TxtV (H : Hp) (v : V) : Prop := (∃ x : Str, v = .str x ∧ x.length ≤ 100000) ∨ Odd H v
theorem TxtV.ext {H H' : Hp} {v : V} (h : TxtV H v) (e : ExtN H H') : TxtV H' v := h.imp id fun q => q.ext e
theorem TxtV.same {H H' : Hp} {v : V} (h : TxtV H v) (e : Same H H') : TxtV H' v := h.ext (extn_same e)
/-! ### lists of texts -/
section
variable {K : PySem.W.Frag} {H : Hp}
theorem dpAll_str : ∀ bs : List Str, DpAll K H (bs.map V.str) (bs.map PyData.str)
  | [] => .nil
  | b :: r => .cons (.str b) (dpAll_str r)
theorem depth_str : ∀ bs : List Str, PyData.depthAll (bs.map PyData.str) = 0
  | [] => rfl
  | b :: r => by simp [PyData.depthAll, PyData.depth, depth_str r]
theorem lay_str : ∀ {bs : List Str}, (∀ b ∈ bs, PyData.strOk b = true) → PyData.canLayAll0 (bs.map PyData.str) = true
  | [], _ => by simp [PyData.canLayAll0]
  | b :: r, h => by simp [PyData.canLayAll0, PyData.canLay0, h b List.mem_cons_self, lay_str (fun x hx => h x (List.mem_cons_of_mem _ hx))]
theorem shaped_str {bs : List Str} (h : ∀ b ∈ bs, PyData.strOk b = true) : SeqAt.shaped (.list (bs.map PyData.str)) = true := by
  simp [SeqAt.shaped, PyData.canLay0, lay_str h, PyData.depth, depth_str]
theorem eqvAll_str : ∀ bs cs : List Str, PyData.eqvAll (bs.map PyData.str) (cs.map PyData.str) = decide (bs = cs)
  | [], [] => by simp [PyData.eqvAll]
  | [], c :: s => by simp [PyData.eqvAll]
  | b :: r, [] => by simp [PyData.eqvAll]
  | b :: r, c :: s => by
    simp only [List.map_cons, PyData.eqvAll, PyData.eqv, eqvAll_str r s, List.cons.injEq]
    by_cases h1 : b = c <;> by_cases h2 : r = s <;> simp [h1, h2]
theorem eqv_strs (bs cs : List Str) : PyData.eqv (.list (bs.map PyData.str)) (.list (cs.map PyData.str)) = decide (bs = cs) := by
  simp only [PyData.eqv, eqvAll_str]
end
end Bw

/-! Starred targets: a, *b = e for a tuple or a list e. -/
namespace Bw
open PySem PySem.Spec L2
section
variable {prog : Program} {w : World} {A : Around} {E : Value → Shared → Prop} {I : Addr} {fp wr : List Addr} {G : Array GenState → Array GenState → Prop} {n : Nat} {P : Nat → Value → Prop} {St : Nat → Shared → Prop}
theorem moved_refl (hg : ∀ a, G a a) (s : Shared) : Moved wr G s s := Moved.refl hg
theorem moved_trans (ht : ∀ a b c, G a b → G b c → G a c) {s s' s'' : Shared} (x : Moved wr G s s') (y : Moved wr G s' s'') : Moved wr G s s'' :=
  ⟨fun b o hb e => y.heap b o hb (x.heap b o hb e), ht _ _ _ x.gens y.gens, y.drawn.trans x.drawn, y.os.trans x.os, Nat.le_trans x.toks y.toks⟩
theorem draw_S (W : WalksS prog w A I fp wr G n P St) : ∀ (m i : Nat) (s : Shared) (Q : List Value → Shared → Prop), St i s → i + m ≤ n →
    (∀ s' vs, Moved wr G s s' → St (i + m) s' → vs.length = m → (∀ j v, vs[j]? = some v → P (i + j) v) → Q vs s') → wpAny (model prog w) A (draw (.ref I) m) Q E s
  | 0, i, s, Q, st, _, hQ => by
    show wpAny _ _ (pure []) Q E s
    exact wpAny_pure (hQ s [] (moved_refl W.grefl s) st rfl fun j v h => by simp at h)
  | m + 1, i, s, Q, st, hle, hQ => by
    show wpAny _ _ (pyNext (.ref I) >>= _) Q E s
    refine wpAny_bind (W.item i s _ _ (by omega) st fun v s1 hP st1 mv => ?_)
    refine wpAny_bind (wpAny_holding (draw_S W m (i + 1) s1 _ st1 (by omega) fun s2 vs mv2 st2 hl hv => wpAny_pure ?_))
    refine hQ s2 (v :: vs) (moved_trans W.gtrans mv mv2) (by rw [show i + (m + 1) = i + 1 + m by omega]; exact st2) (by simp [hl]) fun j u h => ?_
    cases j with
    | zero =>
      simp at h
      subst h
      exact hP
    | succ j =>
      have := hv j u (by simpa using h)
      rw [show i + (j + 1) = i + 1 + j by omega]
      exact this
theorem shift_S (W : WalksS prog w A I fp wr G n P St) (k : Nat) (hk : k ≤ n) : WalksS prog w A I fp wr G (n - k) (fun i => P (k + i)) (fun i s => St (k + i) s) where
  sub := W.sub
  grefl := W.grefl
  gtrans := W.gtrans
  frame := fun i s h' tk st ht hb => W.frame (k + i) s h' tk st ht hb
  item := fun i s Q E hi st hQ => W.item (k + i) s Q E (by omega) st fun v s' hP st' mv => hQ v s' hP st' mv
  done := fun s Q E st hQ => W.done s Q E (by rw [show k + (n - k) = n by omega] at st; exact st) hQ
  self := fun i s Q E st hQ => W.self (k + i) s Q E st hQ
/-- the items, the starred ones as a new list at the heap's end -/
theorem star_S {v : Value} {s s0 : Shared} {T : String} {k after : Nat} {Q : List Value → Shared → Prop} (hTm : T = "list_iterator" ∨ T = "tuple_iterator")
    (W : WalksS prog w A.in1 I fp wr G n P St) (hT : ∀ i s, St i s → s.TypeIs (.ref I) T) (hn : n ≤ sizeLine) (hk : k + after ≤ n) (hI : I ∈ fp) (hfp : ∀ i s, St i s → ∀ b ∈ fp, b < s.heap.objs.size) (st0 : St 0 s0)
    (hit : ∀ (Q : Bool → Shared → Prop), Q false s → wpAny (model prog w) A (notIterableAtAll v) Q E s)
    (hiter : ∀ (Q : Value → Shared → Prop), Q (.ref I) s0 → wpAny (model prog w) A (pyIter v) Q E s)
    (hQ : ∀ (s' : Shared) (first rest : List Value), Moved wr G s0 s' → first.length = k → (∀ j u, first[j]? = some u → P j u) → rest.length = n - k → (∀ j u, rest[j]? = some u → P (k + j) u) →
      wpAny (model prog w) A (newList (rest.take (rest.length - after))) (fun l s'' => Q (first ++ [l] ++ rest.drop (rest.length - after)) s'') E s') :
    wpAny (model prog w) A (unpackItems v (k + 1 + after) (some k)) Q E s := by
  have W' : WalksS prog w A I fp wr G n P St := WalksS.of_in1 W
  unfold unpackItems
  refine wpAny_bind (hit _ ?_)
  simp only [Bool.false_eq_true, if_false]
  refine wpAny_bind (wpAny_holding (hiter _ ?_))
  refine wpAny_bind (wpAny_holding (draw_S W' k 0 s0 _ st0 (by omega) fun s1 first mv1 st1 hl1 hv1 => ?_))
  rw [if_neg (by omega)]
  rw [Nat.zero_add] at st1
  refine wpAny_bind (wpAny_holding (wpAny_collect_iter (T := T) (by rcases hTm with h | h <;> simp [h]) (shift_S W k (by omega)) (fun i s st => hT (k + i) s st) (by simpa using st1) (hfp k s1 st1) hI (fun s2 acc mv2 hacc => ?_) (by omega)))
  have hal : acc.toList.length = n - k := by rw [Array.length_toList]; exact hacc.1
  rw [show k + 1 + after - 1 - k = after by omega]
  rw [if_neg (by omega)]
  refine wpAny_bind ?_
  refine wpAny_mono (hQ s2 first acc.toList (moved_trans W.gtrans mv1 mv2) hl1 (fun j u h => by simpa using hv1 j u h) hal fun j u h => ?_) (fun l s3 q => wpAny_pure q) fun _ _ h => h
  exact hacc.2 j u (by simpa using h)
end
/-! ### over the layer -/
/-- a, .., *b, .., c = e: k ahead, after behind the star -/
def gStar (K : PySem.W.Frag) (k after : Nat) (t : TGs) : TG := fun v σ H Q => ∃ a xs, v = .ref a ∧ (SqT K H a xs ∨ SqL K H a xs) ∧ k + after ≤ xs.length ∧
  ∀ p, H p = none → t (xs.take k ++ [.ref p] ++ (xs.drop k).drop (xs.length - k - after)) σ (upd H p (.lst ((xs.drop k).take (xs.length - k - after)))) Q
section
variable {X : Cx} {pos : Pos}
theorem pgs_star {e : Expr} {es : List Expr} {t : TG} {u : TGs} {p : Pos} (h1 : PG X e t) (h2 : PGs X es u)
    (hs : (assignEach (.Starred e p :: es) X.env).map (·.2) = assign e X.env :: (assignEach es X.env).map (·.2) := by rfl) : PGs X (.Starred e p :: es) (gCons t u) := by
  refine ⟨fun pins s σ H vs us Q I r h => ?_⟩
  obtain ⟨v, vr, e1, h⟩ := h
  subst e1
  cases r with
  | cons r rr =>
    rw [hs]
    refine PyProof.Rows.assignInOrder_cons (thn (h1.run pins s σ H _ _ _ I r h) fun _ s1 ⟨σ1, H1, I1, q1⟩ => ?_)
    exact h2.run pins s1 σ1 H1 _ _ Q I1 rr q1
theorem pg_star {es : List Expr} {ky : Nat} {t : TGs} {k after : Nat} (hc : X.calm = true) (h : PGs X es t)
    (hn : (assignEach es X.env).length = k + 1 + after := by rfl) (hst : (assignEach es X.env).findIdx? (·.1) = some k := by rfl) : PG X (.Tuple es ky pos) (gStar X.K k after t) := by
  refine ⟨fun pins s σ H v u Q I r hw => ?_⟩
  obtain ⟨a, xs, e1, hq, hl, hw⟩ := hw
  subst e1
  obtain rfl : u = Value.ref a := r
  rw [PyProof.Rows.assign_Tuple]
  refine wpAny_bind (wpAny_standAt ?_)
  unfold unpack
  rw [hn, hst]
  have hh : X.A.handled = none := I.ok.hd hc
  have fin : ∀ (its : List Value) (s' : Shared) (first rest : List Value), Vals xs its → xs.length ≤ sizeLine → (∀ b o, s.heap.get? b = some o → s'.heap.get? b = some o) → s'.gens = s.gens → s'.drawn = s.drawn → s'.os = s.os → first.length = k → (∀ (j : Nat) u, first[j]? = some u → its[j]? = some u) → rest.length = its.length - k → (∀ (j : Nat) u, rest[j]? = some u → its[k + j]? = some u) →
      wpAny (model X.prog X.w) X.A (newList (rest.take (rest.length - after))) (fun l s'' => wpAny (model X.prog X.w) X.A (assignInOrder ((assignEach es X.env).map (·.2)) (first ++ [l] ++ rest.drop (rest.length - after))) (fun _ s' => ∃ σ' H', Inv X pins σ' H' s' ∧ Q σ' H') X.xe s'') X.xe s' := by
    intro its s' first rest rv z kp e1 e2 e3 l1 g1 l2 g2
    have lx := rv.length
    have hr : rest = its.drop k := by
      apply List.ext_getElem?
      intro j
      rw [List.getElem?_drop]
      cases e : rest[j]? with
      | some u => exact (g2 j u e).symm
      | none =>
        have := List.getElem?_eq_none_iff.mp e
        exact (List.getElem?_eq_none_iff.mpr (by omega)).symm
    have hf : first = its.take k := by
      apply List.ext_getElem?
      intro j
      cases e : first[j]? with
      | some u =>
        have hj := (List.getElem?_eq_some_iff.mp e).1
        rw [List.getElem?_take, if_pos (by omega)]
        exact (g1 j u e).symm
      | none =>
        have := List.getElem?_eq_none_iff.mp e
        exact (List.getElem?_eq_none_iff.mpr (by rw [List.length_take]; omega)).symm
    subst hr hf
    have I1 : Inv X pins σ H { s with heap := s'.heap, toks := s'.toks } := I.kept (t' := s'.toks) kp
    have es' : { s with heap := s'.heap, toks := s'.toks } = s' := by
      cases s'
      simp_all
    rw [es'] at I1
    have hfr : H s'.heap.objs.size = none := I1.hok.fresh (Nat.le_refl _)
    have r1 : Vals ((xs.drop k).take (xs.length - k - after)) ((its.drop k).take ((its.drop k).length - after)) := by
      rw [List.length_drop, ← lx]
      exact (rv.drop k).take _
    have z1 : ((xs.drop k).take (xs.length - k - after)).length ≤ sizeLine := by
      rw [List.length_take, List.length_drop]
      omega
    refine wpAny_newObj_type ?_ (by
      show (_ : Nat) ≤ _
      rw [List.size_toArray, ← r1.length]
      exact z1)
    have I2 : Inv X pins σ (upd H s'.heap.objs.size (.lst ((xs.drop k).take (xs.length - k - after)))) { s' with heap := s'.heap.push { cls := .type "list", dict := none, data := .seq ((its.drop k).take ((its.drop k).length - after)).toArray } } :=
      I1.laid (t' := s'.toks) (fun b u e => Heap.get?_push_of_some _ e) (Nat.le_refl _) ⟨z1, _, 0, r1, Heap.get?_push_size _ rfl⟩
    refine h.run pins _ σ _ _ _ Q I2 ?_ (hw _ hfr)
    have r2 : Vals ((xs.drop k).drop (xs.length - k - after)) ((its.drop k).drop ((its.drop k).length - after)) := by
      rw [List.length_drop, ← lx]
      exact (rv.drop k).drop _
    exact Vals.append (Vals.append (rv.take k) (.cons rfl .nil)) r2
  rcases hq with hq | hq
  · obtain ⟨its, rv, ht, hz⟩ := I.tuple hq
    have lx := rv.length
    have hlt : a ≠ s.heap.objs.size := by obtain ⟨o, ho, _⟩ := ht; exact Nat.ne_of_lt (Heap.lt_size ho)
    refine wpAny_bind (wpAny_holding (star_S (T := "tuple_iterator") (n := its.toArray.size) (P := fun i v => its.toArray[i]? = some v) (s0 := { s with heap := s.heap.push { cls := .type "tuple_iterator", data := .fields #[.ref a, .int 0 0] } })
      (.inr rfl) (Walks.toS (Walks.tuple (A := X.A.in1) hh s.heap.objs.size a hlt its.toArray)) (fun i s st => ?_) (by simp; omega) (by simp; omega) (by simp) (fun i s st b hb => ?_) ?_ (fun Q q => ?_) (fun Q q => ?_) (fun s' first rest mv l1 g1 l2 g2 => ?_)))
    · obtain ⟨o, ho, hcl, _⟩ := st.1
      exact ⟨o, ho, hcl⟩
    · simp at hb
      rcases hb with rfl | rfl
      · obtain ⟨o, ho, _⟩ := st.1
        exact Heap.lt_size ho
      · obtain ⟨o, ho, _⟩ := st.2
        exact Heap.lt_size ho
    · exact ⟨⟨_, Heap.get?_push_size _ rfl, rfl, rfl⟩, ht.push _⟩
    · unfold notIterableAtAll
      exact wpAny_bind (wpAny_specialOf ht.typeIs PyProof.Rows.slot_tuple_iter.lookup (wpAny_pure q))
    · exact wpAny_pyIter_tuple ht q
    · refine fin its s' first rest rv hz (fun b o e => mv.heap b o ?_ (Heap.get?_push_of_some _ e)) mv.gens mv.drawn mv.os l1 (fun j u e => by simpa using g1 j u e) (by simpa using l2) (fun j u e => by simpa using g2 j u e)
      simp
      exact Nat.ne_of_lt (Heap.lt_size e)
  · obtain ⟨its, rv, ht, hz⟩ := I.list hq
    have ht : s.heap.IsList a its.toArray := by
      obtain ⟨o, n, h1, h2, h3, h4⟩ := ht
      exact ⟨o, h1, h2, n, h4⟩
    have lx := rv.length
    have hlt : a ≠ s.heap.objs.size := by obtain ⟨o, ho, _⟩ := ht; exact Nat.ne_of_lt (Heap.lt_size ho)
    refine wpAny_bind (wpAny_holding (star_S (T := "list_iterator") (n := its.toArray.size) (P := fun i v => its.toArray[i]? = some v) (s0 := { s with heap := s.heap.push { cls := .type "list_iterator", data := .fields #[.ref a, .int 0 0] } })
      (.inl rfl) (Walks.toS (Walks.list (A := X.A.in1) hh s.heap.objs.size a hlt its.toArray)) (fun i s st => ?_) (by simp; omega) (by simp; omega) (by simp) (fun i s st b hb => ?_) ?_ (fun Q q => ?_) (fun Q q => ?_) (fun s' first rest mv l1 g1 l2 g2 => ?_)))
    · obtain ⟨o, ho, hcl, _⟩ := st.1
      exact ⟨o, ho, hcl⟩
    · simp at hb
      rcases hb with rfl | rfl
      · obtain ⟨o, ho, _⟩ := st.1
        exact Heap.lt_size ho
      · obtain ⟨o, ho, _⟩ := st.2
        exact Heap.lt_size ho
    · exact ⟨⟨_, Heap.get?_push_size _ rfl, rfl, rfl⟩, ht.push _⟩
    · unfold notIterableAtAll
      exact wpAny_bind (wpAny_specialOf ht.typeIs slot_list_iter.lookup (wpAny_pure q))
    · exact wpAny_pyIter_list ht q
    · refine fin its s' first rest rv hz (fun b o e => mv.heap b o ?_ (Heap.get?_push_of_some _ e)) mv.gens mv.drawn mv.os l1 (fun j u e => by simpa using g1 j u e) (by simpa using l2) (fun j u e => by simpa using g2 j u e)
      simp
      exact Nat.ne_of_lt (Heap.lt_size e)
end
end Bw

namespace Bw
open PySem PySem.Spec PyProof.Rows L2 LamX
/-! list(x), tuple(x), xs.insert -/
section
variable {X : Cx}
def rListOf (K : PySem.W.Frag) : List V → Hp → VK → Prop := fun xs H Q => ∃ p ys, xs = [.ref p] ∧ (SqL K H p ys ∨ SqT K H p ys) ∧ ∀ l, H l = none → Q (.ref l) (upd H l (.lst ys))
theorem cl_list : CallR X (.type "list") (rListOf X.K) := call_list_of
def rTupOf (K : PySem.W.Frag) : List V → Hp → VK → Prop := fun xs H Q => ∃ p ys, xs = [.ref p] ∧ ((SqL K H p ys ∧ ∀ l, H l = none → Q (.ref l) (upd H l (.tup ys))) ∨ (SqT K H p ys ∧ Q (.ref p) H))
theorem cl_tuple : CallR X (.type "tuple") (rTupOf X.K) := call_tuple_of
def rInsert : V → List V → Hp → VK → Prop := fun x vs H Q => ∃ (l : Addr) (xs : List V) (i : Int) (y : V), x = .ref l ∧ vs = [.int i, y] ∧ H l = some (.lst xs) ∧ xs.length < sizeLine ∧ 0 ≤ i ∧ i < 2 ^ 63 ∧ Q .non (upd H l (.lst (xs.take i.toNat ++ [y] ++ xs.drop i.toNat)))
theorem mt_insertN : MtR X "list.insert" rInsert := mt_insert
end
section
variable {K : PySem.W.Frag} {H : Hp} {Q : VK}
theorem w_listOf {p : Addr} {ys : List V} (h : SqL K H p ys) (k : ∀ l H2, H l = none → Same H H2 → H2 l = some (.lst ys) → Q (.ref l) H2) : rListOf K [.ref p] H Q := ⟨p, ys, rfl, .inl h, fun l n => k l _ n (same_new n) upd_same⟩
theorem w_tupOf {p : Addr} {ys : List V} (h : SqL K H p ys) (k : ∀ l H2, H l = none → Same H H2 → H2 l = some (.tup ys) → Q (.ref l) H2) : rTupOf K [.ref p] H Q := ⟨p, ys, rfl, .inl ⟨h, fun l n => k l _ n (same_new n) upd_same⟩⟩
theorem w_tupT {p : Addr} {ys : List V} (h : SqT K H p ys) (q : Q (.ref p) H) : rTupOf K [.ref p] H Q := ⟨p, ys, rfl, .inr ⟨h, q⟩⟩
theorem w_insert {l : Addr} {xs : List V} {i : Int} {y : V} (h : H l = some (.lst xs)) (hl : xs.length ≤ 60000) (h0 : 0 ≤ i) (hi : i ≤ 60000) (k : ∀ H2, KB l H H2 → H2 l = some (.lst (xs.take i.toNat ++ [y] ++ xs.drop i.toNat)) → Q .non H2) : rInsert (.ref l) [.int i, y] H Q :=
  ⟨l, xs, i, y, rfl, rfl, h, Nat.lt_of_le_of_lt hl (by decide), h0, by omega, k _ kb_upd upd_same⟩
end
/-- an if without else, what is behind it once -/
theorem w_decR {c A : Prop} {dc : Decidable c} {D : Ends} {σ : L2.St} {H : Hp} (Inv : L2.St → Hp → Prop) (h2 : ¬ c → Inv σ H) (h1 : (∀ σ H, Inv σ H → D.nx σ H) → c → A) (hi : ∀ σ H, Inv σ H → D.nx σ H) : if decide c = true then A else tNext D σ H := by
  by_cases h : c
  · rw [if_pos (decide_eq_true h)]
    exact h1 hi h
  · rw [if_neg (fun e => h (of_decide_eq_true e))]
    exact hi _ _ (h2 h)
/-! what is a list stays one -/
def Kinds (H H' : Hp) : Prop := (∀ a xs, H a = some (.lst xs) → ∃ ys, H' a = some (.lst ys)) ∧ ∀ a xs, H a = some (.tup xs) → H' a = some (.tup xs)
theorem Kinds.of {H H' : Hp} (e : Same H H') : Kinds H H' := ⟨fun a xs h => ⟨xs, e _ _ h⟩, fun a xs h => e _ _ h⟩
theorem Kinds.kb {p : Addr} {H H' : Hp} {xs ys : List V} (e : KB p H H') (h0 : H p = some (.lst xs)) (h : H' p = some (.lst ys)) : Kinds H H' := by
  refine ⟨fun a zs ha => ?_, fun a zs ha => ?_⟩
  · by_cases ea : a = p
    · exact ⟨ys, ea ▸ h⟩
    · exact ⟨zs, e _ _ ha ea⟩
  · by_cases ea : a = p
    · rw [ea, h0] at ha
      cases ha
    · exact e _ _ ha ea
theorem Kinds.trans {H H1 H' : Hp} (a : Kinds H H1) (b : Kinds H1 H') : Kinds H H' := ⟨fun p xs h => by
  obtain ⟨ys, h1⟩ := a.1 p xs h
  exact b.1 p ys h1, fun p xs h => b.2 p xs (a.2 p xs h)⟩
theorem TxtV.kinds {H H' : Hp} {v : V} (h : TxtV H v) (e : Kinds H H') : TxtV H' v := h.imp id fun q => by
  cases q with
  | non => exact .non
  | int i => exact .int i
  | bl b => exact .bl b
  | lst q => obtain ⟨ys, h1⟩ := e.1 _ _ q; exact .lst h1
  | tup q => exact .tup (e.2 _ _ q)
end Bw

namespace Bw
open PySem PySem.Spec PyProof.Rows L2 LamX
/-! ### own exceptions: the handed value -/
abbrev MonoA (ta : TA) : Prop := ∀ σ H (Q Q' : List V → Hp → Prop), (∀ vs H, Q vs H → Q' vs H) → ta σ H Q → ta σ H Q'
theorem monoV {i : Nat} : MonoA (tCons (tVar i) tNil) := fun σ H Q Q' hq h => by
  obtain ⟨v, e, q⟩ := h
  exact ⟨v, e, hq _ _ q⟩
theorem monoF {K : PySem.W.Frag} {i : Nat} {f : Str} : MonoA (tCons (tFld K (tVar i) f) tNil) := fun σ H Q Q' hq h => by
  obtain ⟨v, e, a, C, dx, fs, u, h1, h2, h3, h4, h5, q⟩ := h
  exact ⟨v, e, a, C, dx, fs, u, h1, h2, h3, h4, h5, hq _ _ q⟩
section
variable {K : PySem.W.Frag} {H : Hp} {Q : VK} {σ : L2.St} {D : Ends}
theorem w_xmk {C : Addr} {f : Str} {dvs : List V} {ta : TA} {QX : XK} (h : ta σ H fun vs H1 => ∃ v, vs ++ dvs = [v] ∧ ∀ d H2, H1 d = none → Same H1 H2 → H2 d = some (.xd [(f, v)]) → QX (.ref C) (some d) H2) : tXmk C f dvs ta σ H QX := h
theorem w_xv {v : V} {R : V → Prop} (h : R v) : ∃ v', [v] ++ [] = [v'] ∧ R v' := ⟨v, rfl, h⟩
theorem w_xv0 {v : V} {R : V → Prop} (h : R v) : ∃ v', [] ++ [v] = [v'] ∧ R v' := ⟨v, rfl, h⟩
/-! ### augmented stores -/
theorem w_aug {i : Nat} {te : TE} {ti : TIp} {x : V} (hx : σ[i]? = some (some x)) (h : te σ H fun y H1 => ti x y H1 fun z H2 => D.nx (σ.set i (some z)) H2) : tAug i te ti D σ H := ⟨x, hx, h⟩
theorem w_ipI {f : Int → Int → Int} {i j : Int} (q : Q (.int (f i j)) H) : ipI f (.int i) (.int j) H Q := ⟨i, j, rfl, rfl, q⟩
theorem w_rAdd {i j : Int} (q : Q (.int (i + j)) H) : L2.rAdd (.int i) (.int j) H Q := ⟨i, j, rfl, rfl, q⟩
theorem w_faug {ta tv : TE} {rd : V → V → Hp → VK → Prop} {f : Str} (h : ta σ H fun x H1 => ∃ a C dx fs v, x = .ref a ∧ H1 a = some (.ins C dx fs) ∧ Cls K C ∧ NoAttr K C f ∧ fs.lookup f = some v ∧
  tv σ H1 fun y H2 => rd v y H2 fun z H3 => ∃ dx' fs', H3 a = some (.ins C dx' fs') ∧ fs'.length < 1000 ∧ D.nx σ (upd H3 a (.ins C dx' (putF f z fs')))) : sFldAug K ta tv rd f D σ H := h
theorem w_faug1 {a C dx : Addr} {fs : List (Str × V)} {f : Str} {v : V} {R : Addr → Addr → V → Prop} (ho : H a = some (.ins C dx fs)) (hc : Cls K C) (hn : NoAttr K C f) (hl : fs.lookup f = some v) (q : R a C v) :
    ∃ a' C dx fs v, V.ref a = .ref a' ∧ H a' = some (.ins C dx fs) ∧ Cls K C ∧ NoAttr K C f ∧ fs.lookup f = some v ∧ R a' C v := ⟨a, C, dx, fs, v, rfl, ho, hc, hn, hl, q⟩
theorem w_faug2 {a C dx : Addr} {fs : List (Str × V)} {R : Addr → List (Str × V) → Prop} (ho : H a = some (.ins C dx fs)) (hl : fs.length < 1000) (q : R dx fs) :
    ∃ dx' fs', H a = some (.ins C dx' fs') ∧ fs'.length < 1000 ∧ R dx' fs' := ⟨dx, fs, ho, hl, q⟩
theorem w_notInS {c : Nat} {z : Str} (q : Q (.bl (!decide (c ∈ z.cps.toList))) H) : rNotInS (.str ⟨#[c]⟩) (.str z) H Q := ⟨c, z, rfl, rfl, q⟩
end
section
variable {X : Cx}
theorem ip_addS : PIp X .Add Bw.rAddS := fun pins s σ H x y v u Q I rx ry h => iop_add_str pins s σ H x y v u Q I rx ry h
theorem iop_mulU : OpR X (inplaceOp .Mult) (rI CMulU fun i j => .int (i * j)) := opI fun _ _ _ _ _ _ _ hc q => imul_int q hc
theorem ip_mulU : PIp X .Mult (rI CMulU fun i j => .int (i * j)) := fun pins s σ H x y v u Q I rx ry h => iop_mulU pins s σ H x y v u Q I rx ry h
theorem ip_modU : PIp X .Mod (rI (fun _ j => 0 < j) fun i j => .int (i % j)) := fun pins s σ H x y v u Q I rx ry h => iop_mod pins s σ H x y v u Q I rx ry h
/-! ### divmod, str.index -/
def rDivmod : List V → Hp → VK → Prop := fun xs H Q => ∃ i j, xs = [.int i, .int j] ∧ CDivP i j ∧ ∀ p, H p = none → Q (.ref p) (upd H p (.tup [.int (i / j), .int (i % j)]))
theorem cl_divmod : CallR X (.builtin "divmod") rDivmod := call_divmodW
def rSIdx : V → List V → Hp → VK → Prop := fun x xs H Q => ∃ a b i rest, x = .str a ∧ xs = [.str b] ∧ Builtin.Str.occurrences a b 0 a.length 1 = i :: rest ∧ Q (.int (i : Nat)) H
theorem mt_sidx : MtR X "str.index" rSIdx := mt_sindex
end
section
variable {H : Hp} {Q : VK}
theorem w_divmod {i j : Int} (h0 : 0 < j) (hb : j.natAbs < 2 ^ 64) (k : ∀ p H2, H p = none → Same H H2 → H2 p = some (.tup [.int (i / j), .int (i % j)]) → Q (.ref p) H2) : rDivmod [.int i, .int j] H Q :=
  ⟨i, j, rfl, ⟨h0, PyProof.noPylong_of_log2 (Nat.lt_of_lt_of_le (PySem.Flt.log2_lt_of (by decide) hb) (by decide : 64 ≤ 9000))⟩, fun p n => k p _ n (same_new n) upd_same⟩
theorem w_sidx {a b : Str} {i : Nat} {rest : List Nat} (e : Builtin.Str.occurrences a b 0 a.length 1 = i :: rest) (q : Q (.int (i : Nat)) H) : rSIdx (.str a) [.str b] H Q := ⟨a, b, i, rest, rfl, rfl, e, q⟩
end
/-! ### any thing of the plain kinds -/
inductive Thg (H : Hp) : V → Prop
  | non : Thg H .non
  | int (i : Int) : Thg H (.int i)
  | bl (b : Bool) : Thg H (.bl b)
  | str (x : Str) : Thg H (.str x)
  | lst {a : Addr} {xs : List V} : H a = some (.lst xs) → Thg H (.ref a)
  | tup {a : Addr} {xs : List V} : H a = some (.tup xs) → Thg H (.ref a)
theorem Thg.ext {H H' : Hp} {v : V} (h : Thg H v) (e : ExtN H H') : Thg H' v := by
  cases h with
  | non => exact .non
  | int i => exact .int i
  | bl b => exact .bl b
  | str x => exact .str x
  | lst q => exact .lst (e _ _ q (fun _ z => by cases z))
  | tup q => exact .tup (e _ _ q (fun _ z => by cases z))
theorem Thg.same {H H' : Hp} {v : V} (h : Thg H v) (e : Same H H') : Thg H' v := h.ext (extn_same e)
theorem Thg.kinds {H H' : Hp} {v : V} (h : Thg H v) (e : Kinds H H') : Thg H' v := by
  cases h with
  | non => exact .non
  | int i => exact .int i
  | bl b => exact .bl b
  | str x => exact .str x
  | lst q => obtain ⟨ys, h1⟩ := e.1 _ _ q; exact .lst h1
  | tup q => exact .tup (e.2 _ _ q)
/-- no list -/
inductive NoL (H : Hp) : V → Prop
  | non : NoL H .non
  | int (i : Int) : NoL H (.int i)
  | bl (b : Bool) : NoL H (.bl b)
  | str (x : Str) : NoL H (.str x)
  | tup {a : Addr} {xs : List V} : H a = some (.tup xs) → NoL H (.ref a)
theorem NoL.ty {K : PySem.W.Frag} {H : Hp} {v : V} (h : NoL H v) : ∃ tv, TyX K H v (.type tv) ∧ kitB tv "list" = some false := by
  cases h with
  | non => exact ⟨_, tyx_non, kit_NoneType_list⟩
  | int i => exact ⟨_, tyx_int, kit_int_list⟩
  | bl b => exact ⟨_, tyx_bl, kit_bool_list⟩
  | str x => exact ⟨_, tyx_str, kit_str_list⟩
  | tup e => exact ⟨_, tyx_tup e, kit_tuple_list⟩
theorem NoL.ext {H H' : Hp} {v : V} (h : NoL H v) (e : ExtN H H') : NoL H' v := by
  cases h with
  | non => exact .non
  | int i => exact .int i
  | bl b => exact .bl b
  | str x => exact .str x
  | tup q => exact .tup (e _ _ q (fun _ z => by cases z))
theorem NoL.thg {H : Hp} {v : V} (h : NoL H v) : Thg H v := by
  cases h with
  | non => exact .non
  | int i => exact .int i
  | bl b => exact .bl b
  | str x => exact .str x
  | tup q => exact .tup q
/-- refused with C, the field is v -/
def Raz (E : XK) (H : Hp) (C : Addr) (v : V) : Prop := ∀ d H', H d = none → Same H H' → H' d = some (.xd [("at", v)]) → E (.ref C) (some d) H'
theorem Raz.same {E : XK} {H H1 : Hp} {C : Addr} {v : V} (h : Raz E H C v) (s : Same H H1) : Raz E H1 C v := fun d H' n s' e => h d H' (same_free s n) (s.trans s') e
theorem kb_newD {p q : Addr} {H H' : Hp} {o : HO} (k : KB p H H') (hp : H' p = some o) (n : H' q = none) : H q = none := by
  cases e : H q with
  | none => rfl
  | some u =>
    have ne : q ≠ p := fun z => by rw [z, hp] at n; cases n
    rw [k q u e ne] at n
    cases n
theorem kb2 {p D : Addr} {H H4 H5 : Hp} (a : KB p H H4) (b : KB D H4 H5) (n : H D = none) : KB p H H5 := fun c o h nc => b c o (a c o h nc) (ne_of_none h n)
/-! ### texts by their signs -/
theorem str_ext {x y : Str} (h : x.cps.toList = y.cps.toList) : x = y := by
  obtain ⟨⟨a⟩⟩ := x
  obtain ⟨⟨b⟩⟩ := y
  congr 2
theorem cps_append (x y : Str) : (x ++ y).cps.toList = x.cps.toList ++ y.cps.toList := TL.tl_append x y
def S (l : List Nat) : Str := ⟨l.toArray⟩
theorem cps_S (l : List Nat) : (S l).cps.toList = l := rfl
theorem len_S (l : List Nat) : (S l).length = l.length := by
  show l.toArray.size = l.length
  simp
theorem len_cps (x : Str) : x.cps.toList.length = x.length := Array.length_toList
/-! ### lists of ints -/
section
variable {K : PySem.W.Frag} {H : Hp}
theorem dpAll_int : ∀ bs : List Int, DpAll K H (bs.map V.int) (bs.map PyData.int)
  | [] => .nil
  | b :: r => .cons (.int b) (dpAll_int r)
theorem depth_int : ∀ bs : List Int, PyData.depthAll (bs.map PyData.int) = 0
  | [] => rfl
  | b :: r => by simp [PyData.depthAll, PyData.depth, depth_int r]
theorem lay_int : ∀ {bs : List Int}, PyData.canLayAll0 (bs.map PyData.int) = true
  | [] => by simp [PyData.canLayAll0]
  | b :: r => by simp [PyData.canLayAll0, PyData.canLay0, lay_int (bs := r)]
theorem shaped_int {bs : List Int} : SeqAt.shaped (.list (bs.map PyData.int)) = true := by
  simp [SeqAt.shaped, PyData.canLay0, lay_int, PyData.depth, depth_int]
theorem eqvAll_int : ∀ bs cs : List Int, PyData.eqvAll (bs.map PyData.int) (cs.map PyData.int) = decide (bs = cs)
  | [], [] => by simp [PyData.eqvAll]
  | [], c :: s => by simp [PyData.eqvAll]
  | b :: r, [] => by simp [PyData.eqvAll]
  | b :: r, c :: s => by
    simp only [List.map_cons, PyData.eqvAll, PyData.eqv, eqvAll_int r s, List.cons.injEq]
    by_cases h1 : b = c <;> by_cases h2 : r = s <;> simp [h1, h2]
theorem eqv_ints (bs cs : List Int) : PyData.eqv (.list (bs.map PyData.int)) (.list (cs.map PyData.int)) = decide (bs = cs) := by
  simp only [PyData.eqv, eqvAll_int]
end
end Bw

namespace Bw
open PySem PySem.Spec PyProof.Rows L2 LamX
abbrev selfAt : List Str := ["self", "at"]
/-- an own exception with the field at, from what K holds -/
theorem xcl_of {P : Program} {w : World} {K : PySem.W.Frag} {mg : Str → Option Value} {base : Heap} {x qual : Str} {C fI T : Addr} {st : Stmt} {oc ocT kV doc pm cd ct : Value} {od odT an : Option Addr} {sl slT : Array (Option Value)} {nT : Nat}
    (T0 : OexC K C) (no : PySem.W.findIn K (.ref C) "at" = some none) (hm : mg x = some (.ref C)) (iC : PySem.W.findIn K (.ref C) "__init__" = some (some (.ref fI))) (tI : PySem.W.typeIn K (.ref fI) = some (.type "function"))
    (l : K.lookup fI = some ⟨oc, od, .func (PySem.W.fnOf "__init__" qual (defArgs st) (defBody st) (defScope st) (.ref T) kV doc pm an cd ct), sl⟩) (hc : PySem.W.codeIn K cd qual = true) (kp : PySem.W.keepIn K (.ref fI) = true)
    (lT : K.lookup T = some ⟨ocT, odT, .seq (List.toArray [.none]) nT, slT⟩)
    (F0 : ∀ fd, FunD K "__init__" qual (defArgs st) (defBody st) (defScope st) [.non] [] fI fd → FnOk P w K mg base CX0 1 fI fd selfAt (spXi K "at"))
    (b0 : ∀ (T : Addr) (kV doc pm : Value) (an : Option Addr) (cdv ct : Value) (us its : List Value), us.length = 1 → its.length = 1 →
      ∃ k, bindArgs (PySem.W.fnOf "__init__" qual (defArgs st) (defBody st) (defScope st) (.ref T) kV doc pm an cdv ct) ⟨us, []⟩ = seqItems? (.ref T) >>= k ∧ k (some its.toArray) = pure (selfAt.zip (us ++ its.drop 0)))
    (b1 : ∀ (T : Addr) (kV doc pm : Value) (an : Option Addr) (cdv ct : Value) (us its : List Value), us.length = 2 → its.length = 1 →
      ∃ k, bindArgs (PySem.W.fnOf "__init__" qual (defArgs st) (defBody st) (defScope st) (.ref T) kV doc pm an cdv ct) ⟨us, []⟩ = seqItems? (.ref T) >>= k ∧ k (some its.toArray) = pure (selfAt.zip (us ++ its.drop 1))) :
    Xcl P w K mg base x C 1 "at" [.non] ∧ Xcl P w K mg base x C 1 "at" [] := by
  have F : FunD K "__init__" qual (defArgs st) (defBody st) (defScope st) [.non] [] fI _ := ⟨⟨_, _, _, _, _, _, _, _, _, _, rfl, l, hc, .inr ⟨by simp, _, _, _, _, rfl, lT, rfl, .cons rfl .nil⟩, .inl rfl⟩, kp⟩
  obtain ⟨d0, h0, e0⟩ := F.binds1 (ps := selfAt) 1 0 (by simp) rfl b0
  obtain ⟨d1, h1, e1⟩ := F.binds1 (ps := selfAt) 2 1 (by simp) rfl b1
  exact ⟨⟨T0, no, hm, fI, _, d0, _, iC, tI, F0 _ F, e0, h0⟩, ⟨T0, no, hm, fI, _, d1, _, iC, tI, F0 _ F, e1, h1⟩⟩
theorem oex_mk {K : PySem.W.Frag} {C : Addr} {nm q : Str} {N : Addr} {bs bm : List Value} {sn : List Str} {sub : List Value} {ab : Bool} {col : Option Bool} {dd : Option Addr} {k0 k1 k2 k3 k5 : Option Value}
    (l : K.lookup C = some (excClassObj nm q C N bs bm true sn sub ab col dd k0 k1 k2 k3 k5 "ValueError.__new__")) (r : PySem.HandSPX.refsVE bm = true) (sa : PySem.W.findIn K (.ref C) "__setattr__" = some (some (.builtin "object.__setattr__")))
    (exC : PySem.W.subIn K (.ref C) (.type "BaseException") = some true) (tyC : PySem.W.typeIn K (.ref C) = some (.type "type")) (kC : PySem.W.keepIn K (.ref C) = true) : OexC K C := ⟨⟨nm, q, N, bs, bm, sn, sub, ab, col, dd, k0, k1, k2, k3, k5, l, r⟩, sa, exC, tyC, kC⟩
/-! ### data that can be compared -/
structure GoodD (d : PyData) (n : Nat) : Prop where
  lay : PyData.canLay0 d = true
  dep : PyData.depth d ≤ n
  refl : PyData.eqv d d = true
theorem GoodD.shaped {d : PyData} {n : Nat} (h : GoodD d n) (hn : n ≤ 64) : SeqAt.shaped d = true := by
  unfold SeqAt.shaped
  rw [h.lay, decide_eq_true (Nat.le_trans h.dep hn)]
  rfl
theorem GoodD.mono {d : PyData} {n m : Nat} (h : GoodD d n) (l : n ≤ m) : GoodD d m := ⟨h.lay, Nat.le_trans h.dep l, h.refl⟩
theorem good_int {i : Int} {n : Nat} : GoodD (.int i) n := ⟨by simp [PyData.canLay0], by simp [PyData.depth], by simp [PyData.eqv]⟩
theorem good_bool {b : Bool} {n : Nat} : GoodD (.bool b) n := ⟨by simp [PyData.canLay0], by simp [PyData.depth], by simp [PyData.eqv]⟩
theorem good_none {n : Nat} : GoodD .none n := ⟨by simp [PyData.canLay0], by simp [PyData.depth], by simp [PyData.eqv]⟩
theorem good_str {x : Str} {n : Nat} (h : PyData.strOk x = true) : GoodD (.str x) n := ⟨by simp [PyData.canLay0, h], by simp [PyData.depth], by simp [PyData.eqv]⟩
theorem good_all {n : Nat} : ∀ {ds : List PyData}, (∀ d ∈ ds, GoodD d n) → PyData.canLayAll0 ds = true ∧ PyData.depthAll ds ≤ n ∧ PyData.eqvAll ds ds = true
  | [], _ => by simp [PyData.canLayAll0, PyData.depthAll, PyData.eqvAll]
  | d :: r, h => by
    obtain ⟨h1, h2, h3⟩ := good_all (ds := r) (fun x hx => h x (List.mem_cons_of_mem _ hx))
    have h0 := h d List.mem_cons_self
    refine ⟨by simp [PyData.canLayAll0, h0.lay, h1], ?_, by simp [PyData.eqvAll, h0.refl, h3]⟩
    have := h0.dep
    simp only [PyData.depthAll]
    omega
theorem good_list {n : Nat} {ds : List PyData} (h : ∀ d ∈ ds, GoodD d n) : GoodD (.list ds) (n + 1) := by
  obtain ⟨h1, h2, h3⟩ := good_all h
  exact ⟨by simp [PyData.canLay0, h1], by simp only [PyData.depth]; omega, by simp [PyData.eqv, h3]⟩
theorem good_tuple {n : Nat} {ds : List PyData} (h : ∀ d ∈ ds, GoodD d n) : GoodD (.tuple ds) (n + 1) := by
  obtain ⟨h1, h2, h3⟩ := good_all h
  exact ⟨by simp [PyData.canLay0, h1], by simp only [PyData.depth]; omega, by simp [PyData.eqv, h3]⟩
section
variable {K : PySem.W.Frag} {H : Hp} {Q : VK}
/-- one thing equals the like -/
theorem w_eqG {x y : V} {d : PyData} {n : Nat} (hx : Dp K H x d) (hy : Dp K H y d) (g : GoodD d n) (hn : n ≤ 64) (q : Q (.bl true) H) : rEqD K x y H Q := w_eqD hx hy (g.shaped hn) (g.shaped hn) g.refl q
theorem w_neG {x y : V} {d : PyData} {n : Nat} (hx : Dp K H x d) (hy : Dp K H y d) (g : GoodD d n) (hn : n ≤ 64) (q : Q (.bl false) H) : rNeD K x y H Q := w_neD hx hy (g.shaped hn) (g.shaped hn) g.refl q
theorem DpAll.append : ∀ {xs ys : List V} {ds es : List PyData}, DpAll K H xs ds → DpAll K H ys es → DpAll K H (xs ++ ys) (ds ++ es)
  | _, _, _, _, .nil, h => h
  | _, _, _, _, .cons h r, h2 => .cons h (DpAll.append r h2)
def nD (n : Nat) : PyData := .int n
theorem dpAll_nat {f : Nat → V} (hf : ∀ n, f n = .int n) : ∀ ns : List Nat, DpAll K H (ns.map f) (ns.map nD)
  | [] => .nil
  | n :: r => .cons (by rw [hf n]; exact .int _) (dpAll_nat hf r)
theorem good_nats (ns : List Nat) : ∀ d ∈ ns.map nD, GoodD d 0 := fun d hd => by
  obtain ⟨n, _, rfl⟩ := List.mem_map.mp hd
  exact good_int
theorem same_dp {H' : Hp} {v : V} {d : PyData} (s : Same H H') (h : Dp K H v d) : Dp K H' v d := Dp.extn (extn_same s) h
theorem same_dpAll {H' : Hp} {vs : List V} {ds : List PyData} (s : Same H H') (h : DpAll K H vs ds) : DpAll K H' vs ds := DpAll.extn (extn_same s) h
end
end Bw

namespace Bw
open PySem PySem.Spec PyProof.Rows L2 LamX
section
variable {K : PySem.W.Frag} {H : Hp} {Q : VK} {σ : L2.St}
theorem w_revE {te : TE} (h : te σ H fun x H1 => ∃ a xs, x = .ref a ∧ SqL K H1 a xs ∧ ∀ p, H1 p = none → Q (.ref p) (upd H1 p (.lst xs.reverse))) : tRevL K te σ H Q := h
theorem w_rev {a : Addr} {xs : List V} (h : SqL K H a xs) (k : ∀ p H2, H p = none → Same H H2 → H2 p = some (.lst xs.reverse) → Q (.ref p) H2) : ∃ a' xs, V.ref a = .ref a' ∧ SqL K H a' xs ∧ ∀ p, H p = none → Q (.ref p) (upd H p (.lst xs.reverse)) := ⟨a, xs, rfl, h, fun p n => k p _ n (same_new n) upd_same⟩
end
end Bw

namespace Bw
open PySem PySem.Spec PyProof.Rows L2 LamX
/-! ### enumerate(text) -/
def IteS (x : Str) : It :=
  ⟨fun i _ => i < x.cps.size, fun i H v H' => ∃ T c, v = .ref T ∧ H T = none ∧ H' = upd H T (.tup [.int (i : Nat), .str ⟨#[c]⟩]) ∧ x.cps[i]? = some c, fun i _ => i = x.cps.size⟩
theorem turn_enumS {P : Program} {w : World} {K : PySem.W.Frag} {elts : List Expr} {kk : Nat} {tpos : Pos} (x : Str) (t : Tok) (e it : Addr) :
    Turn P w K (.Tuple elts kk tpos) (IteS x) [e, it] e (fun i h => (∃ old, IsEnum h e it ((i : Nat) : Int) old) ∧ h.IsStrIter it (strIterType x) x t i ∧ e ≠ it) where
  mem := by simp
  obj := fun i h st b hb => by
    obtain ⟨⟨old, he⟩, ⟨o, ho, hc, hd⟩, _⟩ := st
    have e' : b = e ∨ b = it := by simpa using hb
    rcases e' with z | z
    · rw [z]; exact ⟨_, he, fun v q => nomatch q⟩
    · rw [z]; exact ⟨o, ho, fun v q => by rw [hd] at q; cases q⟩
  keep := fun i h h' st k => let ⟨⟨old, he⟩, ⟨o, ho, hc, hd⟩, hne⟩ := st; ⟨⟨old, k e (by simp) _ he⟩, ⟨o, k it (by simp) o ho, hc, hd⟩, hne⟩
  item := by
    intro X hP hw hK hc i pins s σ H E I hf st hg
    subst hP hw hK
    obtain ⟨⟨old, he⟩, hit, hne⟩ := st
    have hel : e < s.heap.objs.size := Heap.lt_size he
    have hil : it < s.heap.objs.size := by obtain ⟨_, q, _⟩ := hit; exact Heap.lt_size q
    refine wpAny_pyNext_enum_itemD (Draws.text (A := X.A.in1) (I.ok.hd hc) it x t) he hit hg hne (by simp [hne]) fun u h' tk hu ho hit' hT hsz hk => ?_
    obtain ⟨c, tc, hcx, rfl⟩ := hu
    refine ⟨_, rfl, wpAny_letOwnedTupleGo_enum (s := { s with heap := h', toks := tk + 1 }) ho fun h'' he' sb => ?_⟩
    have hT2 : h''.get? s.heap.objs.size = some { cls := .type "tuple", data := .seq #[.int i tk, .str ⟨#[c]⟩ tc] } := (sb.2 _ (Nat.ne_of_gt hel)).trans hT
    have new : ObjOk X.prog X.w (upd H s.heap.objs.size (.tup [.int (i : Nat), .str ⟨#[c]⟩])) h'' s.heap.objs.size (.tup [.int (i : Nat), .str ⟨#[c]⟩]) :=
      ⟨by show 2 ≤ sizeLine; decide, [.int i tk, .str ⟨#[c]⟩ tc], .cons ⟨_, rfl⟩ (.cons ⟨_, rfl⟩ .nil), ⟨_, hT2, rfl, _, rfl⟩⟩
    have I1 : Inv X pins σ (upd H s.heap.objs.size (.tup [.int (i : Nat), .str ⟨#[c]⟩])) { s with heap := h'', toks := tk + 1 } :=
      I.turnedNew (ch := [e, it]) (fun b ob hb q => (sb.2 b (fun z => hb (by simp [z]))).trans (hk b ob (fun z => hb (by simp [z])) (fun z => hb (by simp [z])) q)) hf (Nat.le_refl _) new
    refine ⟨.ref s.heap.objs.size, _, I1, rfl, ⟨_, c, rfl, I.hok.fresh (Nat.le_refl _), rfl, hcx⟩, ⟨⟨.str ⟨#[c]⟩ tc, ?_⟩, ?_, hne⟩, fun b hb => ?_⟩
    · have e1 : ((i + 1 : Nat) : Int) = (i : Int) + 1 := by omega
      rw [e1]; exact he'
    · obtain ⟨o, q1, q2, q3⟩ := hit'
      exact ⟨o, (sb.2 it (Ne.symm hne)).trans q1, q2, q3⟩
    · have hb' : b < s.heap.objs.size := by
        have e' : b = e ∨ b = it := by simpa using hb
        rcases e' with z | z
        · rw [z]; exact hel
        · rw [z]; exact hil
      rw [upd_ne (Nat.ne_of_lt hb')]
      exact (hf b hb).1
  done := by
    intro X hP hw hK hc i pins s σ H E I hf st hg
    subst hP hw hK
    obtain ⟨⟨old, he⟩, hit, hne⟩ := st
    have hg' : i = x.cps.size := hg
    subst hg'
    obtain ⟨f0, f1, f2, f3, f4, f5⟩ := hf it (by simp)
    exact wpAny_pyNext_enum_endD (Draws.text (A := X.A.in1) (I.ok.hd hc) it x t) he hit fun h' eb => ⟨rfl, I.turned (t' := s.toks) (fun b o hb q => eb b o hb q) f0 f1 f3 f4 f5⟩
  self := fun A i s Q E st h => let ⟨⟨_, he⟩, _⟩ := st; wpAny_pyIter_enum he h
def iEnumS (ta : TA) : TI := fun σ H R => ta σ H fun vs H1 => ∃ x, vs = [.str x] ∧ R (IteS x) H1
theorem pi_enumS {X : Cx} {e : Expr} {ta : TA} {p pos tpos : Pos} {elts : List Expr} {kk : Nat} (hg : Gl X "enumerate") (hm : X.mg "enumerate" = none) (ha : PA X [e] ta) (hs : starEach [e] X.env = [(false, eval e X.env)] := by rfl) :
    PI X (.Tuple elts kk tpos) (.Call (.Name "enumerate" p) [e] [] pos) (iEnumS ta) := by
  refine ⟨fun pins s σ H R I h => ?_⟩
  refine Call_ (ld_blt I hg hm boot_enumerate (PyProof.Rows.callWith_type1 (thn (ha.run pos pins s σ H _ I h) fun us s1 ⟨vs, H1, I1, r1, q1⟩ => ?_) hs rfl))
  obtain ⟨x, ex, q⟩ := q1
  subst ex
  cases r1 with
  | cons r rr =>
    cases rr
    obtain ⟨t, rfl⟩ := r
    refine call_enumerate_str fun h' he hit hsz hk => wpAny_pyIter_enum he ?_
    have I2 : Inv X pins σ H1 { s1 with heap := h' } := I1.kept (t' := s1.toks) hk
    refine ⟨s1.heap.objs.size + 1, [s1.heap.objs.size + 1, s1.heap.objs.size], _, _, H1, rfl, I2, turn_enumS x t (s1.heap.objs.size + 1) s1.heap.objs.size, ⟨⟨.none, he⟩, hit, Nat.succ_ne_self _⟩, fun b hb => ?_, q⟩
    have e' : b = s1.heap.objs.size + 1 ∨ b = s1.heap.objs.size := by simpa using hb
    have hle : s1.heap.objs.size ≤ b := by
      rcases e' with z | z
      · rw [z]; exact Nat.le_add_right _ _
      · rw [z]; exact Nat.le_refl _
    exact I1.fpOk hle (I1.hok.fresh hle)
theorem fin_enumS {x : Str} : Fini (IteS x) x.cps.size (fun _ => True) (fun i v H H' => ∃ T c, v = .ref T ∧ H T = none ∧ Same H H' ∧ H' T = some (.tup [.int (i : Nat), .str ⟨#[c]⟩]) ∧ x.cps[i]? = some c) :=
  ⟨fun i H h o => h, fun i H v H' h o y => by
    obtain ⟨T, c, e, n, e', q⟩ := y
    subst e'
    exact ⟨T, c, e, n, same_new n, upd_same, q⟩, fun H o => rfl⟩
/-! ### text[::-1] -/
section
variable {X : Cx}
def revS (x : Str) : Str := S x.cps.toList.reverse
theorem sliceBy_rev (x : Str) (u : Tok) : Txt.sliceBy x none none (-1, u) = revS x := by
  refine str_ext ?_
  rw [step_rev_list]
  show _ = x.cps.toList.reverse
  apply List.ext_getElem
  · rw [List.length_map, List.length_range, List.length_reverse, len_cps]
  · intro i h1 h2
    rw [List.length_map, List.length_range] at h1
    rw [List.getElem_map, List.getElem_range, List.getElem_reverse]
    have hl : x.cps.size = x.length := rfl
    have hlt : x.length - 1 - i < x.cps.size := by omega
    rw [Array.getD_eq_getD_getElem?, Array.getElem?_eq_getElem hlt]
    simp only [Option.getD_some, Array.getElem_toList]
    congr 1
def tRevS (te : TE) : TE := fun σ H Q => te σ H fun x H1 => ∃ z, x = .str z ∧ z.length ≤ sizeLine ∧ Q (.str (revS z)) H1
theorem pe_revS {e : Expr} {te : TE} {k : Nat} {p1 p2 p3 pos : Pos} (he : PE X e te) : PE X (.Subscript e (.Slice none none (some (.UnaryOp .USub (.Constant (.int 1) k p1) p2)) p3) pos) (tRevS te) := by
  refine ⟨fun pins s σ H Q I h => ?_⟩
  refine Subscript_ (thn (he.run pins s σ H _ I h) fun v s1 ⟨x, H1, I1, r1, q1⟩ => ?_)
  obtain ⟨z, ex, hz, q⟩ := q1
  subst ex
  obtain ⟨tz, rfl⟩ := r1
  have hst : PO X (some (.UnaryOp .USub (.Constant (.int 1) k p1) p2)) (tPart (tUn (rU fun i => .int (-i)) (tC (.int 1)))) := po_some (pe_un un_neg pe_int)
  refine wpAny_Slice (thn (po_none.run pins s1 σ H1 (fun o H2 => o = none ∧ H2 = H1) I1 ⟨rfl, rfl⟩) fun vl s2 ⟨l, H2, I2, pl, el, e2⟩ => ?_)
  subst el e2
  refine thn (po_none.run pins s2 σ H2 (fun o H3 => o = none ∧ H3 = H2) I2 ⟨rfl, rfl⟩) fun vu s3 ⟨u, H3, I3, pu, eu, e3⟩ => ?_
  subst eu e3
  refine thn (hst.run pins s3 σ H3 (fun o H4 => o = some (-1) ∧ H4 = H3) I3 ⟨1, rfl, -1, rfl, rfl, rfl⟩) fun vs s4 ⟨o, H4, I4, ps, eo, e4⟩ => ?_
  subst eo e4
  have I5 : Inv X pins σ H4 { s4 with heap := s4.heap.push { cls := .type "slice", data := .fields #[vl, vu, vs] } } := I4.kept (t' := s4.toks) fun b ob q => Heap.get?_push_of_some _ q
  cases pl
  cases pu
  cases ps with
  | int i ti =>
    show wpAny (model X.prog X.w) X.A (subscriptTail e (.Slice none none (some (.UnaryOp .USub (.Constant (.int 1) k p1) p2)) p3) (.str z tz) (.ref s4.heap.objs.size)) (EP X pins σ Q) X.xe { s4 with heap := s4.heap.push { cls := .type "slice", data := .fields #[.none, .none, .int (-1) ti] } }
    refine tail_any (ops := [.str z tz, .ref s4.heap.objs.size]) (typeIs_str _ _ _) (F.slot_str_getitem.lookup) ?_ (by with_unfolding_all rfl)
    refine wpAny_getItem_str_slice (l := none) (u := none) (st := some (-1, ti)) ⟨_, Heap.get?_push_size _ rfl, rfl, rfl⟩ rfl ?_
    have e0 : (sliceMade z tz none none (some (-1, ti))) = Made.str (Txt.sliceBy z none none (-1, ti)) := rfl
    rw [e0, sliceBy_rev]
    have hl : (revS z).length ≤ sizeLine := by
      unfold revS
      rw [len_S, List.length_reverse, len_cps]
      exact hz
    exact ⟨hl, .str (revS z), _, I5.tok _, ⟨_, rfl⟩, q⟩
theorem w_revS {te : TE} {σ : L2.St} {H : Hp} {Q : VK} (h : te σ H fun x H1 => ∃ z, x = .str z ∧ z.length ≤ sizeLine ∧ Q (.str (revS z)) H1) : tRevS te σ H Q := h
end
end Bw

namespace Bw
open PySem PySem.Spec PyProof.Rows L2 LamX
/-! ### d.setdefault(k, v); classes made by keywords -/
section
variable {H : Hp} {Q : VK} {σ : L2.St}
theorem w_dsetd {td ty tx : TE} (h : td σ H fun x H1 => ∃ a, x = .ref a ∧ IsD H1 a ∧ ty σ H1 fun y H2 => tx σ H2 fun z H3 => ∃ (kvs : List (Key × V)) (k : Key), H3 a = some (.dK kvs) ∧ y = kV k ∧ kvs.length < sizeLine ∧
  (∀ v, valV kvs k = some v → Q v H3) ∧ (valV kvs k = none → Q z (upd H3 a (.dK (putK kvs k z))))) : tDSetd td ty tx σ H Q := h
theorem w_dset1 {a : Addr} {kvs : List (Key × V)} {R : Addr → Prop} (h : H a = some (.dK kvs)) (q : R a) : ∃ a', V.ref a = .ref a' ∧ IsD H a' ∧ R a' := ⟨a, rfl, .inl ⟨kvs, .inl h⟩, q⟩
theorem w_dnewK (k : ∀ p H2, H p = none → Same H H2 → H2 p = some (.dK []) → Q (.ref p) H2) : tDNewK σ H Q := fun p n => k p _ n (same_new n) upd_same
end
def rRepS : R2 := fun x y H Q => ∃ z n, x = .str z ∧ y = .int n ∧ MulOk z n ∧ Q (.str (Txt.mul z n)) H
theorem op_repS {X : Cx} : OpR X (binaryOp .Mult) rRepS := by
  intro pins s σ H x y v u Q I rx ry h
  obtain ⟨i, j, rfl, rfl, hz, q⟩ := h
  obtain ⟨t, rfl⟩ := rx
  obtain ⟨t', rfl⟩ := ry
  exact SB.mul hz fun t' tk => ⟨.str _, H, I.tok _, ⟨_, rfl⟩, q⟩
theorem w_repS {z : Str} {n : Int} {H : Hp} {Q : VK} (h : MulOk z n) (q : Q (.str (Txt.mul z n)) H) : rRepS (.str z) (.int n) H Q := ⟨z, n, rfl, rfl, h, q⟩
theorem ip_fdivU {X : Cx} : PIp X .FloorDiv (rI CDiv fun i j => .int (i / j)) := fun pins s σ H x y v u Q I rx ry h => iop_fdiv pins s σ H x y v u Q I rx ry h
theorem w_fdivI {i j : Int} {H : Hp} {Q : VK} (h : CDiv i j) (q : Q (.int (i / j)) H) : rI CDiv (fun i j => .int (i / j)) (.int i) (.int j) H Q := ⟨i, j, rfl, rfl, h, q⟩
structure MkrXK (P : Program) (w : World) (K : PySem.W.Frag) (mg : Str → Option Value) (base : Heap) (x : Str) (C : Addr) (k : Nat) (ps : List Str) (ks : List Str) (gV : List V → List V → List V) (sp : Sp) : Prop where
  ex : ∃ (f : Addr) (fd : FuncData) (g : List Value → List Value → List Value), Mk K C f ∧ FnOk P w K mg base (L2.CX P w) k f fd ps sp ∧ mg x = some (.ref C) ∧ KBn K fd ps 1 ks g gV
section
variable {X : Cx}
theorem pe_mkxk {E : XK} {x : Str} {C : Addr} {k : Nat} {ps ks : List Str} {gV : List V → List V → List V} {sp : Sp} {kws : List Keyword} {tk : TA} {p pos : Pos} (M : MkrXK X.prog X.w X.K X.mg X.base x C k ps ks gV sp) (hx : Lets X E) (hr : Room (k + 1) X.A) (hg : Gl X x) (hkw : PK X kws tk)
    (hall : (backToKw pos (keywordEach kws X.env)).all (·.1.isSome) = true := by rfl) (hks : (backToKw pos (keywordEach kws X.env)).filterMap (·.1) = ks := by rfl) (hdb : (x == ("__debug__" : Str)) = false := by decide)
    (hpl : ((backTo pos (starEach [] X.env)).any (·.1) || (backToKw pos (keywordEach kws X.env)).any (·.1.isNone)) = false := by rfl) :
    PE X (.Call (.Name x p) [] kws pos) (tMakeK C 0 ks.length sp gV E tNil tk) := by
  obtain ⟨f, fd, g, M, G, hm, hb⟩ := M.ex
  exact pe_makeK0 M G hr hg hm hb hx hkw hall hks hdb hpl
end
end Bw

namespace CM
/-! codes of numbers, as lists of signs -/
def eIx (c : Nat) : Option Nat := if 97 ≤ c ∧ c ≤ 112 then some (c - 97) else none
def fIx (c : Nat) : Option Nat := if 65 ≤ c ∧ c ≤ 80 then some (c - 65) else none
theorem eIx_end {d : Nat} (h : d < 16) : eIx (97 + d) = some d := by
  unfold eIx
  rw [if_pos ⟨by omega, by omega⟩]
  congr 1
  omega
theorem eIx_fur {d : Nat} (h : d < 16) : eIx (65 + d) = none := by
  unfold eIx
  rw [if_neg (fun z => by omega)]
theorem fIx_fur {d : Nat} (h : d < 16) : fIx (65 + d) = some d := by
  unfold fIx
  rw [if_pos ⟨by omega, by omega⟩]
  congr 1
  omega
theorem eIx_some {c d : Nat} (h : eIx c = some d) : c = 97 + d ∧ d < 16 := by
  unfold eIx at h
  split at h
  · cases h
    omega
  · cases h
theorem fIx_some {c d : Nat} (h : fIx c = some d) : c = 65 + d ∧ d < 16 := by
  unfold fIx at h
  split at h
  · cases h
    omega
  · cases h
def codeL (n : Nat) : List Nat := if n < 16 then [97 + n] else (65 + n % 16) :: codeL (n / 16)
termination_by n
decreasing_by omega
theorem codeL_lt {n : Nat} (h : n < 16) : codeL n = [97 + n] := by rw [codeL, if_pos h]
theorem codeL_ge {n : Nat} (h : 16 ≤ n) : codeL n = (65 + n % 16) :: codeL (n / 16) := by rw [codeL, if_neg (by omega)]
theorem codeL_len {k : Nat} : ∀ {n : Nat}, n < 16 ^ (k + 1) → (codeL n).length ≤ k + 1 := by
  induction k with
  | zero => intro n h; rw [codeL_lt (by simpa using h)]; simp
  | succ k ih =>
    intro n h
    rcases Nat.lt_or_ge n 16 with h1 | h1
    · rw [codeL_lt h1]; simp
    · rw [codeL_ge h1, List.length_cons]
      have : n / 16 < 16 ^ (k + 1) := by
        rw [Nat.div_lt_iff_lt_mul (by decide)]
        rw [Nat.pow_succ] at h
        exact h
      have := ih this
      omega
theorem codeL_ne {n : Nat} : codeL n ≠ [] := by
  rw [codeL]
  split <;> simp
theorem codeL_signs : ∀ {n : Nat}, ∀ c ∈ codeL n, c < 128 := by
  intro n
  induction n using Nat.strongRecOn with
  | ind n ih =>
    intro c hc
    rcases Nat.lt_or_ge n 16 with h1 | h1
    · rw [codeL_lt h1] at hc
      simp at hc
      omega
    · rw [codeL_ge h1] at hc
      rcases List.mem_cons.mp hc with h | h
      · omega
      · exact ih _ (by omega) c h
/-- the digits, the least one first -/
def digs (n : Nat) : List Nat := if n < 16 then [n] else (n % 16) :: digs (n / 16)
termination_by n
decreasing_by omega
theorem digs_lt {n : Nat} (h : n < 16) : digs n = [n] := by rw [digs, if_pos h]
theorem digs_ge {n : Nat} (h : 16 ≤ n) : digs n = (n % 16) :: digs (n / 16) := by rw [digs, if_neg (by omega)]
theorem digs_ne {n : Nat} : digs n ≠ [] := by
  rw [digs]
  split <;> simp
theorem digs_16 : ∀ {n : Nat}, ∀ d ∈ digs n, d < 16 := by
  intro n
  induction n using Nat.strongRecOn with
  | ind n ih =>
    intro c hc
    rcases Nat.lt_or_ge n 16 with h1 | h1
    · rw [digs_lt h1] at hc
      simp at hc
      omega
    · rw [digs_ge h1] at hc
      rcases List.mem_cons.mp hc with h | h
      · omega
      · exact ih _ (by omega) c h
def finL : List Nat → List Nat
  | [] => []
  | [d] => [97 + d]
  | d :: e :: r => (65 + d) :: finL (e :: r)
theorem codeL_fin : ∀ {n : Nat}, codeL n = finL (digs n) := by
  intro n
  induction n using Nat.strongRecOn with
  | ind n ih =>
    rcases Nat.lt_or_ge n 16 with h1 | h1
    · rw [codeL_lt h1, digs_lt h1]
      rfl
    · rw [codeL_ge h1, digs_ge h1, ih _ (by omega)]
      cases h : digs (n / 16) with
      | nil => exact absurd h digs_ne
      | cons d r => rfl
theorem digs_len {n : Nat} : (digs n).length = (codeL n).length := by
  rw [codeL_fin]
  generalize digs n = l
  induction l with
  | nil => rfl
  | cons d r ih =>
    cases r with
    | nil => rfl
    | cons e s => simpa [finL] using ih
theorem finL_last : ∀ {ds : List Nat} {i d : Nat}, ds[i]? = some d → i + 1 = ds.length → finL ds = (ds.take i).map (65 + ·) ++ [97 + d]
  | [], i, d, h, _ => by simp at h
  | [x], i, d, h, hl => by
    have : i = 0 := by simp at hl; omega
    subst this
    simp at h
    subst h
    rfl
  | x :: y :: r, 0, d, h, hl => by simp at hl
  | x :: y :: r, i + 1, d, h, hl => by
    have := finL_last (ds := y :: r) (i := i) (d := d) (by simpa using h) (by simpa using hl)
    simp only [finL, this, List.take_succ_cons, List.map_cons, List.cons_append]
/-- a number's code is read; i: the place -/
def rdNum : List Nat → Nat → Nat → Nat → Bool → Except Nat (Nat × Nat)
  | [], i, _, _, _ => .error i
  | c :: r, i, told, scale, fst => match eIx c with
    | some d => if d = 0 ∧ fst = false then .error i else .ok (told + scale * d, i + 1)
    | none => match fIx c with
      | some d => rdNum r (i + 1) (told + scale * d) (scale * 16) false
      | none => .error i
/-- all codes of a text are read -/
def sc : List Nat → Nat → Nat → Nat → List Nat → Except Nat (List Nat)
  | [], i, _, scale, acc => if scale = 1 then .ok acc else .error i
  | c :: r, i, num, scale, acc => match eIx c with
    | some d => if d = 0 ∧ scale ≠ 1 then .error i else sc r (i + 1) 0 1 (acc ++ [num + scale * d])
    | none => match fIx c with
      | some d => sc r (i + 1) (num + scale * d) (scale * 16) acc
      | none => .error i
theorem sc_cons (c : Nat) (r : List Nat) (i num scale : Nat) (acc : List Nat) : sc (c :: r) i num scale acc = match eIx c with
    | some d => if d = 0 ∧ scale ≠ 1 then .error i else sc r (i + 1) 0 1 (acc ++ [num + scale * d])
    | none => match fIx c with
      | some d => sc r (i + 1) (num + scale * d) (scale * 16) acc
      | none => .error i := rfl
theorem rd_cons (c : Nat) (r : List Nat) (i told scale : Nat) (fst : Bool) : rdNum (c :: r) i told scale fst = match eIx c with
    | some d => if d = 0 ∧ fst = false then .error i else .ok (told + scale * d, i + 1)
    | none => match fIx c with
      | some d => rdNum r (i + 1) (told + scale * d) (scale * 16) false
      | none => .error i := rfl
theorem rd_le : ∀ {cs : List Nat} {i told scale : Nat} {fst : Bool} {n j : Nat}, rdNum cs i told scale fst = .ok (n, j) → i < j ∧ j ≤ i + cs.length
  | [], i, told, scale, fst, n, j, h => by simp [rdNum] at h
  | c :: r, i, told, scale, fst, n, j, h => by
    unfold rdNum at h
    split at h
    · split at h
      · cases h
      · cases h
        simp
    · split at h
      · have := rd_le h
        simp only [List.length_cons]
        omega
      · cases h
theorem drop_next {t : List Nat} {i : Nat} {c : Nat} {r : List Nat} (h : t.drop i = c :: r) : t.drop (i + 1) = r := by
  rw [← List.drop_drop, h]
  rfl
theorem sc_rd {t : List Nat} : ∀ {cs : List Nat} {i num scale : Nat} {fst : Bool} {acc : List Nat}, t.drop i = cs → 0 < scale → (fst = true ↔ scale = 1) → (cs ≠ [] ∨ fst = false) →
    sc cs i num scale acc = match rdNum cs i num scale fst with
      | .error k => .error k
      | .ok (n, j) => sc (t.drop j) j 0 1 (acc ++ [n])
  | [], i, num, scale, fst, acc, ht, hs, hf, hn => by
    have h : ¬ scale = 1 := fun z => by
      have := hf.mpr z
      rcases hn with h | h
      · exact h rfl
      · rw [h] at this
        cases this
    simp [sc, rdNum, h]
  | c :: r, i, num, scale, fst, acc, ht, hs, hf, hn => by
    rw [sc_cons, rd_cons]
    cases he : eIx c with
    | some d =>
      have e : (d = 0 ∧ scale ≠ 1) ↔ (d = 0 ∧ fst = false) := by
        constructor
        · intro ⟨a, b⟩
          refine ⟨a, ?_⟩
          cases fst with
          | true => exact absurd (hf.mp rfl) b
          | false => rfl
        · intro ⟨a, b⟩
          exact ⟨a, fun z => by rw [b] at hf; exact absurd (hf.mpr z) Bool.noConfusion⟩
      by_cases hd : d = 0 ∧ fst = false
      · simp only [if_pos hd, if_pos (e.mpr hd)]
      · simp only [if_neg hd, if_neg (fun z => hd (e.mp z)), drop_next ht]
    | none =>
      cases hfx : fIx c with
      | some d =>
        simp only
        exact sc_rd (drop_next ht) (by omega) ⟨fun h => Bool.noConfusion h, fun h => by omega⟩ (.inr rfl)
      | none => rfl
theorem sc_step {t : List Nat} {i : Nat} {acc : List Nat} (h : i < t.length) : sc (t.drop i) i 0 1 acc = match rdNum (t.drop i) i 0 1 true with
      | .error k => .error k
      | .ok (n, j) => sc (t.drop j) j 0 1 (acc ++ [n]) :=
  sc_rd rfl (by omega) (by simp) (.inl (fun z => by
    have := congrArg List.length z
    simp at this
    omega))
theorem sc_end {t : List Nat} {i : Nat} {acc : List Nat} (h : t.length ≤ i) : sc (t.drop i) i 0 1 acc = .ok acc := by
  rw [List.drop_eq_nil_of_le h]
  rfl
/-- a code ahead -/
theorem sc_code {rest : List Nat} : ∀ {n i num scale : Nat} {acc : List Nat}, 0 < scale → (scale = 1 ∨ 0 < n) → sc (codeL n ++ rest) i num scale acc = sc rest (i + (codeL n).length) 0 1 (acc ++ [num + scale * n]) := by
  intro n
  induction n using Nat.strongRecOn with
  | ind n ih =>
    intro i num scale acc hs hn
    rcases Nat.lt_or_ge n 16 with h1 | h1
    · rw [codeL_lt h1]
      show sc ((97 + n) :: rest) i num scale acc = _
      rw [sc_cons, eIx_end h1]
      have : ¬ (n = 0 ∧ scale ≠ 1) := fun z => by omega
      simp only [if_neg this]
      rfl
    · rw [codeL_ge h1]
      show sc ((65 + n % 16) :: (codeL (n / 16) ++ rest)) i num scale acc = _
      rw [sc_cons, eIx_fur (by omega), fIx_fur (by omega)]
      simp only
      rw [ih (n / 16) (by omega) (by omega) (.inr (by omega)), List.length_cons]
      have e1 : i + 1 + (codeL (n / 16)).length = i + ((codeL (n / 16)).length + 1) := by omega
      have e2 : num + scale * (n % 16) + scale * 16 * (n / 16) = num + scale * n := by
        have : scale * n = scale * (16 * (n / 16) + n % 16) := by rw [Nat.div_add_mod]
        rw [this, Nat.mul_add, Nat.mul_assoc]
        omega
      rw [e1, e2]
theorem sc_all : ∀ {ns : List Nat} {i : Nat} {acc : List Nat}, sc (ns.map codeL).flatten i 0 1 acc = .ok (acc ++ ns)
  | [], i, acc => by simp [sc]
  | n :: r, i, acc => by
    rw [List.map_cons, List.flatten_cons, sc_code (by decide) (.inl rfl), sc_all]
    simp
/-- what is read is the code of what was told: pre, the signs of the number under way -/
theorem sc_only : ∀ {cs : List Nat} {i num k : Nat} {pre acc ns : List Nat}, num < 16 ^ k → (∀ m, codeL (num + 16 ^ k * m) = pre ++ codeL m ∨ (m = 0 ∧ k ≠ 0)) → sc cs i num (16 ^ k) acc = .ok ns →
    (acc.map codeL).flatten ++ pre ++ cs = (ns.map codeL).flatten
  | [], i, num, k, pre, acc, ns, hk, hp, h => by
    unfold sc at h
    split at h
    · rename_i hs
      have k0 : k = 0 := by
        rcases Nat.eq_zero_or_pos k with h | h
        · exact h
        · have : 16 ^ 1 ≤ 16 ^ k := Nat.pow_le_pow_right (by decide) h
          omega
      subst k0
      have n0 : num = 0 := by simpa using hk
      subst n0
      cases h
      have := hp 1
      rcases this with h | h
      · simp at h
        have : pre = [] := by
          have := congrArg List.length h
          simp at this
          exact this
        simp [this]
      · omega
    · cases h
  | c :: r, i, num, k, pre, acc, ns, hk, hp, h => by
    rw [sc_cons] at h
    cases he : eIx c with
    | some d =>
      rw [he] at h
      obtain ⟨hc, hd⟩ := eIx_some he
      simp only at h
      split at h
      · cases h
      · rename_i hn
        have := sc_only (num := 0) (k := 0) (pre := []) (by simp) (fun m => .inl (by simp)) (by simpa using h)
        rw [← this]
        have hcode : codeL (num + 16 ^ k * d) = pre ++ [c] := by
          rcases hp d with h | h
          · rw [h, codeL_lt hd, hc]
          · exfalso
            refine hn ⟨h.1, fun z => ?_⟩
            have : 16 ^ 1 ≤ 16 ^ k := Nat.pow_le_pow_right (by decide) (by omega)
            omega
        simp [hcode]
    | none =>
      rw [he] at h
      cases hfx : fIx c with
      | none => rw [hfx] at h; cases h
      | some d =>
        rw [hfx] at h
        obtain ⟨hc, hd⟩ := fIx_some hfx
        simp only at h
        have e : 16 ^ k * 16 = 16 ^ (k + 1) := (Nat.pow_succ ..).symm
        rw [e] at h
        have hb : num + 16 ^ k * d < 16 ^ (k + 1) := by
          rw [← e]
          have : 16 ^ k * d ≤ 16 ^ k * 15 := Nat.mul_le_mul_left _ (by omega)
          omega
        have := sc_only (pre := pre ++ [c]) hb (fun m => ?_) h
        · rw [← this]
          simp
        · rcases Nat.eq_zero_or_pos m with h0 | h0
          · exact .inr ⟨h0, by omega⟩
          · refine .inl ?_
            have e2 : num + 16 ^ k * d + 16 ^ (k + 1) * m = num + 16 ^ k * (d + 16 * m) := by
              rw [← e, Nat.mul_add, Nat.mul_assoc]
              omega
            rw [e2]
            rcases hp (d + 16 * m) with h | h
            · rw [h, codeL_ge (by omega), hc]
              have e3 : (d + 16 * m) % 16 = d := by omega
              have e4 : (d + 16 * m) / 16 = m := by omega
              rw [e3, e4]
              simp
            · omega
theorem sc_unique {cs ns : List Nat} (h : sc cs 0 0 1 [] = .ok ns) : cs = (ns.map codeL).flatten := by
  have := sc_only (num := 0) (k := 0) (pre := []) (by simp) (fun m => .inl (by simp)) (by simpa using h)
  simpa using this
end CM

namespace CM
/-! rising lists and their gaps; b: the least number that may come -/
def gapsN : Nat → List Nat → List Nat
  | _, [] => []
  | b, n :: r => (n - b) :: gapsN (n + 1) r
def unGap : Nat → List Nat → List Nat
  | _, [] => []
  | b, g :: r => (b + g) :: unGap (b + g + 1) r
def Rising : Nat → List Nat → Prop
  | _, [] => True
  | b, n :: r => b ≤ n ∧ Rising (n + 1) r
theorem un_gaps : ∀ {b : Nat} {ns : List Nat}, Rising b ns → unGap b (gapsN b ns) = ns
  | _, [], _ => rfl
  | b, n :: r, h => by
    have e : b + (n - b) = n := by have := h.1; omega
    simp only [gapsN, unGap, e, un_gaps h.2]
theorem gaps_un : ∀ {b : Nat} {gs : List Nat}, gapsN b (unGap b gs) = gs
  | _, [] => rfl
  | b, g :: r => by
    have e : b + g - b = g := by omega
    simp only [unGap, gapsN, e, gaps_un]
theorem rising_un : ∀ {b : Nat} {gs : List Nat}, Rising b (unGap b gs)
  | _, [] => trivial
  | b, g :: r => ⟨by omega, rising_un⟩
theorem gaps_le : ∀ {b : Nat} {ns : List Nat} {c : Nat}, (∀ n ∈ ns, n < c) → ∀ g ∈ gapsN b ns, g < c
  | _, [], c, _, g, hg => by simp [gapsN] at hg
  | b, n :: r, c, h, g, hg => by
    rcases List.mem_cons.mp hg with rfl | hg
    · have := h n List.mem_cons_self
      omega
    · exact gaps_le (fun m hm => h m (List.mem_cons_of_mem _ hm)) g hg
theorem gaps_len : ∀ {b : Nat} {ns : List Nat}, (gapsN b ns).length = ns.length
  | _, [] => rfl
  | b, n :: r => by simp [gapsN, gaps_len]
theorem un_len : ∀ {b : Nat} {ns : List Nat}, (unGap b ns).length = ns.length
  | _, [] => rfl
  | b, n :: r => by simp [unGap, un_len]
/-- where the next one begins -/
def nextB (b : Nat) (l : List Nat) : Nat := match l.getLast? with
  | none => b
  | some n => n + 1
theorem nextB_snoc {b : Nat} {l : List Nat} {n : Nat} : nextB b (l ++ [n]) = n + 1 := by
  unfold nextB
  rw [List.getLast?_concat]
theorem nextB_cons {b n : Nat} {l : List Nat} : nextB b (n :: l) = nextB (n + 1) l := by
  unfold nextB
  cases l with
  | nil => rfl
  | cons m r => rw [List.getLast?_cons_cons]; cases h : (m :: r).getLast? with
    | none => simp at h
    | some x => rfl
theorem un_snoc : ∀ {b : Nat} {gs : List Nat} {g : Nat}, unGap b (gs ++ [g]) = unGap b gs ++ [nextB b (unGap b gs) + g]
  | b, [], g => by simp [unGap, nextB]
  | b, h :: r, g => by
    simp only [List.cons_append, unGap, un_snoc (gs := r), nextB_cons]
theorem gaps_snoc : ∀ {b : Nat} {ns : List Nat} {n : Nat}, gapsN b (ns ++ [n]) = gapsN b ns ++ [n - nextB b ns]
  | b, [], n => by simp [gapsN, nextB]
  | b, m :: r, n => by
    simp only [List.cons_append, gapsN, gaps_snoc (ns := r), nextB_cons]
theorem rising_snoc : ∀ {b : Nat} {ns : List Nat} {n : Nat}, Rising b ns → nextB b ns ≤ n → Rising b (ns ++ [n])
  | b, [], n, _, h => ⟨by simpa [nextB] using h, trivial⟩
  | b, m :: r, n, h, h2 => ⟨h.1, rising_snoc h.2 (by rwa [nextB_cons] at h2)⟩
theorem rising_take {b : Nat} : ∀ {ns : List Nat} {i : Nat}, Rising b ns → Rising b (ns.take i) := by
  intro ns
  induction ns generalizing b with
  | nil => intro i _; simp [Rising]
  | cons m r ih =>
    intro i h
    cases i with
    | zero => exact trivial
    | succ i => exact ⟨h.1, ih h.2⟩
theorem rising_at {b : Nat} : ∀ {ns : List Nat} {i n : Nat}, Rising b ns → ns[i]? = some n → nextB b (ns.take i) ≤ n := by
  intro ns
  induction ns generalizing b with
  | nil => intro i n _ h; simp at h
  | cons m r ih =>
    intro i n h hn
    cases i with
    | zero =>
      simp at hn
      subst hn
      exact h.1
    | succ i =>
      rw [List.take_succ_cons, nextB_cons]
      exact ih h.2 (by simpa using hn)
theorem nextB_at {b : Nat} {ns : List Nat} {j n : Nat} (h : ns[j]? = some n) : nextB b (ns.take (j + 1)) = n + 1 := by
  rw [List.take_add_one, h]
  exact nextB_snoc
theorem codeL_bound : ∀ {n : Nat}, n < 16 ^ (codeL n).length := by
  intro n
  induction n using Nat.strongRecOn with
  | ind n ih =>
    rcases Nat.lt_or_ge n 16 with h | h
    · rw [codeL_lt h]
      simpa using h
    · rw [codeL_ge h, List.length_cons, Nat.pow_succ]
      have := ih (n / 16) (by omega)
      omega
theorem len_flat {ns : List Nat} {n : Nat} (h : n ∈ ns) : (codeL n).length ≤ (ns.map codeL).flatten.length := by
  induction ns with
  | nil => cases h
  | cons m r ih =>
    simp only [List.map_cons, List.flatten_cons, List.length_append]
    rcases List.mem_cons.mp h with rfl | h
    · omega
    · have := ih h
      omega
theorem count_flat (ns : List Nat) : ns.length ≤ (ns.map codeL).flatten.length := by
  induction ns with
  | nil => simp
  | cons m r ih =>
    simp only [List.map_cons, List.flatten_cons, List.length_append, List.length_cons]
    have : 0 < (codeL m).length := List.length_pos_iff.mpr codeL_ne
    omega
end CM

namespace Bw
open PySem PySem.Spec PyProof.Rows L2 LamX
/-! ### rpartition, zfill, count, int(x, 16), pop; defs with defaults, called by keywords -/
section
variable {X : Cx}
def rRpart : V → List V → Hp → VK → Prop := fun x xs H Q => ∃ a b, x = .str a ∧ xs = [.str b] ∧ (b.length == 0) = false ∧ a.length ≤ sizeLine ∧
    ∀ p, H p = none → Q (.ref p) (upd H p (.tup [.str (Txt.rpartition a b).1, .str (Txt.rpartition a b).2.1, .str (Txt.rpartition a b).2.2]))
theorem mt_rpartition : MtR X "str.rpartition" rRpart := by
  intro pins s σ H x xs v us Q I rx rs h
  obtain ⟨a, b, rfl, rfl, hb, hz, h⟩ := h
  obtain ⟨t, rfl⟩ := rx
  cases rs with
  | cons r1 rs =>
    cases rs
    obtain ⟨u, rfl⟩ := r1
    refine call_meets F.slot_str_rpartition (typeIs_str _ _ _) F.entry_str_rpartition (F.args_str_rpartition_2 _ _) (meets_str_rpartition a b t u hb hz) ?_
    unfold Txt.rpartition at h
    revert h
    cases Builtin.Str.lastOccurrence a b 0 a.length with
    | none => intro h; exact laid_parts I h
    | some i => intro h; exact laid_parts I h
def rCountS : V → List V → Hp → VK → Prop := fun x xs H Q => ∃ a b, x = .str a ∧ xs = [.str b] ∧ Q (.int (Txt.count a b)) H
theorem mt_countS : MtR X "str.count" rCountS := mt_count
def rZfill : V → List V → Hp → VK → Prop := fun x xs H Q => ∃ (a : Str) (i : Int), x = .str a ∧ xs = [.int i] ∧ PadOk i = true ∧ Q (.str (Txt.zfill a i)) H
theorem mt_zfillS : MtR X "str.zfill" rZfill := mt_zfill
theorem cl_intHex : CallR X (.type "int") rIntHex := call_int_hex
end
section
variable {K : PySem.W.Frag} {H : Hp} {Q : VK}
theorem w_rpart {x y : Str} (hy : (y.length == 0) = false) (hx : x.length ≤ sizeLine) (k : ∀ p H2, H p = none → Same H H2 → H2 p = some (.tup [.str (Txt.rpartition x y).1, .str (Txt.rpartition x y).2.1, .str (Txt.rpartition x y).2.2]) → Q (.ref p) H2) : rRpart (.str x) [.str y] H Q :=
  ⟨x, y, rfl, rfl, hy, hx, fun p n => k p _ n (same_new n) upd_same⟩
theorem w_countS {x y : Str} (q : Q (.int (Txt.count x y)) H) : rCountS (.str x) [.str y] H Q := ⟨x, y, rfl, rfl, q⟩
theorem w_zfill {x : Str} {i : Int} (h : PadOk i = true) (q : Q (.str (Txt.zfill x i)) H) : rZfill (.str x) [.int i] H Q := ⟨x, i, rfl, rfl, h, q⟩
theorem w_intHex {l : List Nat} (h0 : l ≠ []) (hl : l.length ≤ 640) (hx : ∀ c ∈ l, Hx.IsHex c) (q : Q (.int ((Hx.hexNum l : Nat) : Int)) H) : rIntHex [.str (S l), .int 16] H Q := ⟨l, rfl, h0, hl, hx, q⟩
theorem w_pop {l : Addr} {xs : List V} {y : V} (h : H l = some (.lst xs)) (hy : xs[xs.length - 1]? = some y) (k : ∀ H2, KB l H H2 → H2 l = some (.lst xs.dropLast) → Q y H2) : rPop (.ref l) [] H Q := ⟨l, xs, y, rfl, rfl, h, hy, k _ kb_upd upd_same⟩
theorem w_reverse {l : Addr} {xs : List V} (h : H l = some (.lst xs)) (k : ∀ H2, KB l H H2 → H2 l = some (.lst xs.reverse) → Q .non H2) : rReverse (.ref l) [] H Q := ⟨l, xs, rfl, rfl, h, k _ kb_upd upd_same⟩
/-- str(a number) -/
theorem w_strI {i : Int} (h : i.natAbs < 2 ^ 1919) (q : Q (.str (toString i)) H) : rStrI [.int i] H Q := ⟨i, rfl, PySem.Flt.log2_lt_of (by decide) (Nat.lt_of_lt_of_le h (Nat.pow_le_pow_right (by decide) (by decide))), q⟩
end
/-! ### rpartition by one sign -/
theorem at_one {x : Str} {c : Nat} {i : Nat} : StrLaws.At x ⟨#[c]⟩ x.length i ↔ x.cps.toList[i]? = some c := by
  rw [TL.at_iff (y := ⟨#[c]⟩) (by show ([c] : List Nat) ≠ []; simp)]
  show ((x.cps.toList.drop i).take 1 == [c]) = true ↔ _
  rw [beq_iff_eq]
  rcases Nat.lt_or_ge i x.cps.toList.length with h | h
  · rw [List.drop_eq_getElem_cons h, List.getElem?_eq_getElem h]
    simp
  · rw [List.drop_eq_nil_of_le h, List.getElem?_eq_none h]
    simp
theorem rpart_app {a b : List Nat} {c : Nat} (h : c ∉ b) : Txt.rpartition (S (a ++ c :: b)) ⟨#[c]⟩ = (S a, ⟨#[c]⟩, S b) := by
  have hA : ∀ k, a.length < k → ¬ StrLaws.At (S (a ++ c :: b)) ⟨#[c]⟩ (S (a ++ c :: b)).length k := fun k hk z => by
    rw [at_one, cps_S, List.getElem?_append_right (Nat.le_of_lt hk)] at z
    obtain ⟨m, hm⟩ : ∃ m, k - a.length = m + 1 := ⟨k - a.length - 1, by omega⟩
    rw [hm, List.getElem?_cons_succ] at z
    exact h (List.mem_of_getElem? z)
  have hB : StrLaws.At (S (a ++ c :: b)) ⟨#[c]⟩ (S (a ++ c :: b)).length a.length := by
    rw [at_one, cps_S]
    simp
  unfold Txt.rpartition
  rcases StrLaws.last_spec (S (a ++ c :: b)) ⟨#[c]⟩ with ⟨_, hn⟩ | ⟨i, e, hi, hn⟩
  · exact absurd hB (hn _)
  · have hia : i = a.length := by
      rcases Nat.lt_trichotomy i a.length with h1 | h1 | h1
      · exact absurd hB (hn _ h1)
      · exact h1
      · exact absurd hi (hA _ h1)
    subst hia
    rw [e]
    have e1 : Builtin.Str.strSub (S (a ++ c :: b)) 0 a.length = S a := str_ext (by
      show TL.tl _ = _
      rw [TL.tl_strSub]
      show ((a ++ c :: b).drop 0).take _ = a
      simp)
    have e2 : Builtin.Str.strSub (S (a ++ c :: b)) (a.length + 1) (S (a ++ c :: b)).length = S b := str_ext (by
      show TL.tl _ = _
      rw [TL.tl_strSub_end]
      show (a ++ c :: b).drop _ = b
      simp)
    show (_, _, Builtin.Str.strSub (S (a ++ c :: b)) (a.length + 1) (S (a ++ c :: b)).length) = _
    rw [e1, e2]
theorem rpart_none {a : List Nat} {c : Nat} (h : c ∉ a) : Txt.rpartition (S a) ⟨#[c]⟩ = (Str.empty, Str.empty, S a) := by
  unfold Txt.rpartition
  rcases StrLaws.last_spec (S a) ⟨#[c]⟩ with ⟨e, hn⟩ | ⟨i, e, hi, hn⟩
  · rw [e]
  · rw [at_one, cps_S] at hi
    exact absurd (List.mem_of_getElem? hi) h
theorem cnt_ge (c : Nat) : ∀ l : List Nat, 0 ≤ cnt c l
  | [] => Int.le_refl 0
  | n :: r => by
    rw [cnt_cons]
    have := cnt_ge c r
    split <;> omega
theorem cnt_mem {c : Nat} : ∀ {l : List Nat}, c ∈ l → 0 < cnt c l
  | n :: r, h => by
    rw [cnt_cons]
    have := cnt_ge c r
    rcases List.mem_cons.mp h with e | h
    · rw [if_pos e.symm]
      omega
    · have := cnt_mem h
      split <;> omega
/-! ### defs with defaults -/
/-- called by places: dvs are what is told by default behind them -/
structure FnD (P : Program) (w : World) (K : PySem.W.Frag) (mg : Str → Option Value) (base : Heap) (CX : CXT) (x : Str) (k : Nat) (ps : List Str) (dvs : List V) (sp : Sp) : Prop where
  ex : ∃ (f : Addr) (fd : FuncData) (ds : List Value), FnOk P w K mg base CX k f fd ps sp ∧ mg x = some (.ref f) ∧ PySem.W.keepIn K (.ref f) = true ∧ Binds K fd ps ds ∧ Vals dvs ds
/-- n by places, the others by the names ks -/
structure FnK (P : Program) (w : World) (K : PySem.W.Frag) (mg : Str → Option Value) (base : Heap) (CX : CXT) (x : Str) (k : Nat) (ps : List Str) (n : Nat) (ks : List Str) (gV : List V → List V → List V) (sp : Sp) : Prop where
  ex : ∃ (f : Addr) (fd : FuncData) (g : List Value → List Value → List Value), FnOk P w K mg base CX k f fd ps sp ∧ mg x = some (.ref f) ∧ PySem.W.keepIn K (.ref f) = true ∧ KBn K fd ps n ks g gV
section
variable {X : Cx}
theorem pe_fnd {CX : CXT} {E : XK} {x : Str} {k : Nat} {ps : List Str} {dvs : List V} {sp : Sp} {e : Expr} {es : List Expr} {t : TA} {p pos : Pos} (F : FnD X.prog X.w X.K X.mg X.base CX x k ps dvs sp) (hx : Passes CX X E) (hr : Room k X.A) (hg : Gl X x) (ha : PA X (e :: es) t)
    (hdb : (x == ("__debug__" : Str)) = false := by decide) (he : starEach (e :: es) X.env = (false, eval e X.env) :: starEach es X.env := by rfl) (hpl : (backTo pos (starEach es X.env)).any (·.1) = false := by rfl) :
    PE X (.Call (.Name x p) (e :: es) [] pos) (tCall sp dvs E t) := by
  obtain ⟨f, fd, ds, G, hm, hk, hb, hd⟩ := F.ex
  exact pe_call G hr hg hm hk hb hd hx ha hdb he hpl
theorem pe_fnk {CX : CXT} {E : XK} {x : Str} {k n : Nat} {ps ks : List Str} {gV : List V → List V → List V} {sp : Sp} {e : Expr} {es : List Expr} {kws : List Keyword} {t tk : TA} {p pos : Pos} (F : FnK X.prog X.w X.K X.mg X.base CX x k ps n ks gV sp) (hx : Passes CX X E) (hr : Room k X.A) (hg : Gl X x) (ha : PA X (e :: es) t) (hkw : PK X kws tk)
    (hall : (backToKw pos (keywordEach kws X.env)).all (·.1.isSome) = true := by rfl) (hks : (backToKw pos (keywordEach kws X.env)).filterMap (·.1) = ks := by rfl)
    (hdb : (x == ("__debug__" : Str)) = false := by decide) (he : starEach (e :: es) X.env = (false, eval e X.env) :: starEach es X.env := by rfl)
    (hpl : ((backTo pos (starEach (e :: es) X.env)).any (·.1) || (backToKw pos (keywordEach kws X.env)).any (·.1.isNone)) = false := by rfl) :
    PE X (.Call (.Name x p) (e :: es) kws pos) (tCallN n ks.length sp gV E t tk) := by
  obtain ⟨f, fd, g, G, hm, hk, hb⟩ := F.ex
  exact pe_callN G hr hg hm hk hb hx ha hkw hall hks hdb he hpl
end
section
variable {σ : L2.St} {H : Hp} {Q : VK}
theorem w_callD {sp : Sp} {dvs : List V} {tA : TA} {E : XK} (h : tA σ H fun vs H1 => sp (vs ++ dvs) H1 Q E) : tCall sp dvs E tA σ H Q := h
theorem w_callN {n m : Nat} {sp : Sp} {gV : List V → List V → List V} {E : XK} {t tk : TA} (h : t σ H fun vs H1 => tk σ H1 fun zs H2 => vs.length = n ∧ zs.length = m ∧ sp (gV vs zs) H2 Q E) : tCallN n m sp gV E t tk σ H Q := h
theorem w_nlen {xs ys : List V} {n m : Nat} {R : Prop} (h1 : xs.length = n) (h2 : ys.length = m) (q : R) : xs.length = n ∧ ys.length = m ∧ R := ⟨h1, h2, q⟩
end
end Bw

namespace Bw
open PySem PySem.Spec PyProof.Rows L2 LamX
/-! ### texts of whole files, plainly -/
theorem strOk_of {x : Str} (h : ∀ c ∈ x.cps.toList, c < 1114112) : PyData.strOk x = true := by
  unfold PyData.strOk
  rw [Array.all_eq_true']
  intro c hc
  exact decide_eq_true (h c (Array.mem_toList_iff.mpr hc))
/-- four figures -/
def zf (n : Nat) : List Nat := List.replicate (4 - (TL.numL n).length) 48 ++ TL.numL n
theorem num_S (n : Nat) : (Str.ofString (toString ((n : Nat) : Int))) = S (TL.numL n) := str_ext (TL.tl_num n)
theorem numL_len4 {n : Nat} (h : n ≤ 9999) : (TL.numL n).length ≤ 4 := TL.numL_len (by decide) (by omega)
theorem zf_len {n : Nat} (h : n ≤ 9999) : (zf n).length = 4 := by
  have := numL_len4 h
  unfold zf
  rw [List.length_append, List.length_replicate]
  omega
theorem zf_dig {n : Nat} : ∀ c ∈ zf n, 48 ≤ c ∧ c ≤ 57 := fun c hc => by
  unfold zf at hc
  rcases List.mem_append.mp hc with h | h
  · have := (List.mem_replicate.mp h).2
    omega
  · have := TL.numL_digits n c h
    omega
theorem zfill_num {n : Nat} : Txt.zfill (S (TL.numL n)) 4 = S (zf n) := by
  unfold Txt.zfill
  rw [len_S]
  split
  · rename_i h
    unfold zf
    rw [show 4 - (TL.numL n).length = 0 by omega]
    rfl
  · rename_i h
    unfold zfilled
    have key : Builtin.Str.padded (S (TL.numL n)) ((4 : Int).toNat - (TL.numL n).length) 0 48 = S (zf n) := str_ext (by
      show (Array.replicate _ 48 ++ (TL.numL n).toArray ++ Array.replicate 0 48).toList = zf n
      unfold zf
      simp)
    have hne := TL.numL_ne n
    have hd := TL.numL_digits n
    generalize hl : TL.numL n = l at *
    cases l with
    | nil => exact absurd rfl hne
    | cons c r =>
      have hc := hd c List.mem_cons_self
      have e : (S (c :: r)).cps[0]? = some c := rfl
      rw [e]
      split
      · rename_i z
        cases z
        exact absurd hc (by decide)
      · rename_i z
        cases z
        exact absurd hc (by decide)
      · exact key
theorem mul_zero_ok {n : Int} (h : n ≤ 4) (h0 : -10 ≤ n) : MulOk "0" n := by
  have e : ("0" : Str).length = 1 := rfl
  have hn : n = -10 ∨ n = -9 ∨ n = -8 ∨ n = -7 ∨ n = -6 ∨ n = -5 ∨ n = -4 ∨ n = -3 ∨ n = -2 ∨ n = -1 ∨ n = 0 ∨ n = 1 ∨ n = 2 ∨ n = 3 ∨ n = 4 := by omega
  rcases hn with rfl | rfl | rfl | rfl | rfl | rfl | rfl | rfl | rfl | rfl | rfl | rfl | rfl | rfl | rfl <;> (unfold MulOk; decide +kernel)
theorem mul_zero {k : Nat} (h : k ≤ 4) : Txt.mul "0" (k : Int) = S (List.replicate k 48) := by
  have hk : k = 0 ∨ k = 1 ∨ k = 2 ∨ k = 3 ∨ k = 4 := by omega
  rcases hk with rfl | rfl | rfl | rfl | rfl <;> decide +kernel
/-- rows with their ends -/
def sgn (rows : List Str) : List Nat := (rows.map fun r => r.cps.toList ++ [10]).flatten
theorem join_lines (h : Str) : ∀ rows : List Str, (Str.join ("\n" : Str) (h :: rows)).cps.toList ++ [10] = h.cps.toList ++ [10] ++ sgn rows
  | [] => by
    show h.cps.toList ++ [10] = _
    simp [sgn]
  | r :: rs => by
    have e : (Str.join ("\n" : Str) (h :: r :: rs)) = h ++ ("\n" : Str) ++ Str.join ("\n" : Str) (r :: rs) := rfl
    rw [e, cps_append, cps_append, List.append_assoc, join_lines r rs]
    have e2 : ("\n" : Str).cps.toList = [10] := rfl
    rw [e2]
    simp [sgn]
theorem sgn_len {rows : List Str} {m : Nat} (h : ∀ r ∈ rows, r.length ≤ m) : (sgn rows).length ≤ rows.length * (m + 1) := by
  induction rows with
  | nil => simp [sgn]
  | cons r rs ih =>
    have h1 := ih (fun x hx => h x (List.mem_cons_of_mem _ hx))
    have h2 := h r List.mem_cons_self
    have e : sgn (r :: rs) = r.cps.toList ++ [10] ++ sgn rs := by simp [sgn]
    rw [e, List.length_append, List.length_append, len_cps, List.length_cons (a := r), Nat.add_mul]
    simp
    omega
/-- signs ended by line feeds, split -/
theorem split_lines {hd : List Nat} {rows : List Str} (h0 : 10 ∉ hd) (hr : ∀ r ∈ rows, 10 ∉ r.cps.toList) : Txt.split (S (hd ++ [10] ++ sgn rows)) "\n" = S hd :: (rows ++ [("" : Str)]) := by
  have e : S (hd ++ [10] ++ sgn rows) = Txt.join ("\n" : Str) (S hd :: (rows ++ [("" : Str)])) := by
    refine str_ext ?_
    rw [txt_join, cps_S]
    have h1 : ∀ (a : Str) (rs : List Str), (Str.join ("\n" : Str) (a :: (rs ++ [("" : Str)]))).cps.toList = a.cps.toList ++ [10] ++ sgn rs := by
      intro a rs
      induction rs generalizing a with
      | nil =>
        show (a ++ ("\n" : Str) ++ ("" : Str)).cps.toList = _
        rw [cps_append, cps_append]
        show a.cps.toList ++ [10] ++ [] = _
        simp [sgn]
      | cons r rs ih =>
        show (a ++ ("\n" : Str) ++ Str.join ("\n" : Str) (r :: (rs ++ [("" : Str)]))).cps.toList = _
        rw [cps_append, cps_append, ih r]
        show a.cps.toList ++ [10] ++ _ = _
        simp [sgn]
    rw [h1]
    rfl
  rw [e]
  refine TL.split_join (s := 10) (S := []) rfl (by decide +kernel) (by simp) (fun p hp z => ?_)
  rcases List.mem_cons.mp hp with rfl | hp
  · exact h0 z
  · rcases List.mem_append.mp hp with hp | hp
    · exact hr p hp z
    · rw [List.mem_singleton.mp hp] at z
      exact absurd z (by show ¬ 10 ∈ ([] : List Nat); simp)
theorem sum_le {c : Nat} : ∀ {l : List Nat}, (∀ x ∈ l, x ≤ c) → l.sum ≤ l.length * c
  | [], _ => by simp
  | y :: r, h => by
    have h1 := h y List.mem_cons_self
    have h2 := sum_le (l := r) (fun x hx => h x (List.mem_cons_of_mem _ hx))
    simp only [List.sum_cons, List.length_cons, Nat.add_mul, Nat.one_mul]
    omega
theorem join_empty : ∀ rows : List Str, (Str.join ("" : Str) rows).cps.toList = (rows.map fun r => r.cps.toList).flatten
  | [] => rfl
  | [r] => by show r.cps.toList = _; simp
  | r :: s :: rs => by
    show (r ++ ("" : Str) ++ Str.join ("" : Str) (s :: rs)).cps.toList = _
    rw [cps_append, cps_append, join_empty (s :: rs)]
    show r.cps.toList ++ [] ++ _ = _
    simp
theorem sum_ones : ∀ cs : List Nat, ((cs.map fun c => (⟨#[c]⟩ : Str)).map (·.length)).sum = cs.length
  | [] => rfl
  | c :: r => by
    rw [List.map_cons, List.map_cons, List.sum_cons, sum_ones r, List.length_cons]
    show 1 + _ = _
    omega
theorem join_ones (cs : List Nat) : (Txt.join "" (cs.map fun c => (⟨#[c]⟩ : Str))).cps.toList = cs := by
  rw [txt_join, join_empty, List.map_map]
  induction cs with
  | nil => rfl
  | cons c r ih =>
    rw [List.map_cons, List.flatten_cons, ih]
    rfl
end Bw

namespace Bw
open PySem PySem.Spec PyProof.Rows L2 LamX
/-! ### x == y by an own __eq__ that lets nothing out -/
structure EqO (P : Program) (w : World) (K : PySem.W.Frag) (mg : Str → Option Value) (base : Heap) (C : Addr) (k : Nat) (ps : List Str) (sp : Sp) : Prop where
  ex : ∃ (f : Addr) (fd : FuncData), FnOk P w K mg base CX0 k f fd ps sp ∧ PySem.W.findIn K (.ref C) "__eq__" = some (some (.ref f)) ∧ PySem.W.isFn K (.ref f) = true ∧ Binds K fd ps []
/-- what may stand on the other side -/
inductive Side (K : PySem.W.Frag) (H : Hp) (C : Addr) : V → Prop
  | int (i : Int) : PySem.W.notFirst K C (.type "int") = true → Side K H C (.int i)
  | bl (b : Bool) : PySem.W.notFirst K C (.type "bool") = true → Side K H C (.bl b)
  | str (x : Str) : PySem.W.notFirst K C (.type "str") = true → Side K H C (.str x)
  | non : PySem.W.notFirst K C (.type "NoneType") = true → Side K H C .non
  | lst {a : Addr} {xs : List V} : H a = some (.lst xs) → PySem.W.notFirst K C (.type "list") = true → Side K H C (.ref a)
  | tup {a : Addr} {xs : List V} : H a = some (.tup xs) → PySem.W.notFirst K C (.type "tuple") = true → Side K H C (.ref a)
  | own {a dx : Addr} {fs : List (Str × V)} : H a = some (.ins C dx fs) → Side K H C (.ref a)
section
variable {X : Cx}
theorem side_looks {pins : List (Addr × Obj)} {σ : L2.St} {H : Hp} {s : Shared} {C : Addr} {y : V} {u : Value} (I : L2.Inv X pins σ H s) (r : RelV y u) (d : Side X.K H C y) : ∃ tb, PySem.W.Looks (model X.prog X.w) s.heap (typeOf u) tb ∧ PySem.W.notFirst X.K C tb = true := by
  cases d with
  | int i h => obtain ⟨t, rfl⟩ := r; exact ⟨_, PySem.W.Looks.of_pure rfl, h⟩
  | bl b h => cases r; exact ⟨_, PySem.W.Looks.of_pure rfl, h⟩
  | str x h => obtain ⟨t, rfl⟩ := r; exact ⟨_, PySem.W.Looks.of_pure rfl, h⟩
  | non h => cases r; exact ⟨_, PySem.W.Looks.of_pure rfl, h⟩
  | @lst a xs ea h =>
    cases (show u = Value.ref a from r)
    obtain ⟨_, _, n, _, h1⟩ := (show ObjOk X.prog X.w H s.heap a (.lst xs) from I.hok a _ ea)
    exact ⟨.type "list", fun A Q E s k q => wpAny_typeOf_ref (k _ _ h1) q, h⟩
  | @tup a xs ea h =>
    cases (show u = Value.ref a from r)
    obtain ⟨_, _, _, o, h1, h2, _⟩ := (show ObjOk X.prog X.w H s.heap a (.tup xs) from I.hok a _ ea)
    exact ⟨.type "tuple", fun A Q E s k q => wpAny_typeOf_ref (k _ _ h1) (h2 ▸ q), h⟩
  | @own a dx fs ea =>
    cases (show u = Value.ref a from r)
    obtain ⟨mB, J', _⟩ := ins_get I.hok ea
    obtain ⟨od', J', _⟩ := J'.look
    exact ⟨_, J'.type, by simp [PySem.W.notFirst]⟩
def rEqO (K : PySem.W.Frag) (C : Addr) (sp : Sp) : R2 := fun x y H Q => ∃ a dx fs, x = .ref a ∧ H a = some (.ins C dx fs) ∧ Side K H C y ∧ sp [x, y] H (fun v H' => (∃ b, v = .bl b) ∧ Q v H') C8.E0
theorem op_eqO {C : Addr} {k : Nat} {ps : List Str} {sp : Sp} (O : EqO X.prog X.w X.K X.mg X.base C k ps sp) (hr : Room k X.A) : OpR X (compareOp .Eq) (rEqO X.K C sp) := by
  intro pins s σ H x y v u Q I rx ry h
  obtain ⟨a, dx, fs, rfl, ha, hy, hsp⟩ := h
  obtain ⟨f, fd, F, hs, hf, hb⟩ := O.ex
  cases rx
  obtain ⟨tb, lk, nf⟩ := side_looks I ry hy
  obtain ⟨mA, J, _⟩ := ins_get I.hok ha
  obtain ⟨od, J, _⟩ := J.look
  obtain ⟨m, hF⟩ := I.fr
  show wpAny (model X.prog X.w) X.A (richCompare .Eq (.ref a) u) (EP X pins σ Q) X.xe s
  refine PySem.W.cmp_K (op := .Eq) hr.units0 hF I.ok.mod.kin J lk nf hs hf ?_
  have hl := F.len _ _ _ _ hsp
  have r2 : Vals [V.ref a, y] [Value.ref a, u] := .cons rfl (.cons ry .nil)
  refine wpAny_call (codeAny_mono (F.run X.A X.stack s H ⟨[.ref a, u], []⟩ [.ref a, u] [.ref a, y] _ _ hr I.env0 (by
    have := hb s [.ref a, u] I.kIn (by simpa using hl)
    simpa using this) r2 hsp) fun r s' hq => ?_)
  cases r with
  | error e => exact pass0 pins σ H s e s' I hq
  | ok fl =>
    cases fl with
    | ret w =>
      obtain ⟨z, H', I', rz, ⟨b, ez⟩, q⟩ := I.after hq
      subst ez
      cases rz
      exact ⟨.bl b, H', I', rfl, q⟩
    | next => exact False.elim hq
    | brk => exact False.elim hq
    | cont => exact False.elim hq
end
end Bw

namespace Bw
open PySem PySem.Spec PyProof.Rows L2 LamX
open PySem.W (Frag findIn subIn looks_findIn looks_subIn)
section
variable {prog : Program} {w : World} {A : Around} {E : Value → Shared → Prop} {s : Shared} {K : Frag} {x C : Addr} {ox : Obj} {od : Option Obj} {b tb : Value}
theorem ifBound_B {M : Model} {args : List Value} {name : Str} {id B : String} {Q : Option Value → Shared → Prop} (X : K.In s.heap) (I : PySem.W.InstAt s.heap x ox C od) (hs : findIn K (.ref C) name = some (some (.builtin id))) (S : Slot B name id)
    (h : wpAny M A (call (.builtin id) (.ref x :: args)) (fun v => Q (some v)) E s) : wpAny M A (callSpecialIfBound? (.ref x) name args) Q E s := by
  simp only [callSpecialIfBound?, bindSpecialIfBound?]
  refine wpAny_holding (wpAny_bind (wpAny_bind (wpAny_bind (I.type.here ((looks_findIn X hs).here ?_)))))
  simp only [S.bind]
  refine wpAny_bind (wpAny_askSetting (wpAny_ite ?_))
  have fin : wpAny M A (call (.builtin id) ([.ref x] ++ args) >>= fun v => pure (some v)) Q E s := wpAny_bind (wpAny_mono h (fun v s' h' => wpAny_pure h') fun _ _ h' => h')
  split
  · exact wpAny_bind (wpAny_pure (wpAny_pure fin))
  · exact wpAny_tryCatch (wpAny_bind (wpAny_pure (wpAny_pure fin)))
theorem check_B {M : Model} {id owner n : String} {rest : List Value} {Q : Unit → Shared → Prop} (X : K.In s.heap) (I : PySem.W.InstAt s.heap x ox C od) (hk : builtinKind id = some .slot) (hs : splitId id = some (owner, n))
    (ha : argsOk id ⟨.ref x :: rest, []⟩) (hso : subIn K (.ref C) (.type owner) = some true) (hq : Q () s) :
    wpAny M A (checkBuiltinCall id ⟨.ref x :: rest, []⟩) Q E s := by
  simp only [checkBuiltinCall, hk, hs]
  refine wpAny_bind ?_
  unfold isInstance
  refine wpAny_bind (I.type.here ?_)
  refine (looks_subIn X hso).here ?_
  cases hsig : Manifest.signature? id with
  | none => exact wpAny_pure hq
  | some sig =>
    simp only [argsOk, hsig] at ha
    have h2 : Bind.checkArgs id sig ⟨.ref x :: rest, []⟩ = pure () := ha
    show wpAny M A (Bind.checkArgs id sig ⟨.ref x :: rest, []⟩) Q E _
    rw [h2]
    exact wpAny_pure hq
/-- x != y by an own __eq__ -/
theorem ne_entry {Q : Fin → Shared → Prop} {f : Addr} (hu : A.units < cLine) (X : K.In s.heap) (I : PySem.W.InstAt s.heap x ox C od) (hs : findIn K (.ref C) "__eq__" = some (some (.ref f))) (hf : PySem.W.isFn K (.ref f) = true)
    (h : wpAny (model prog w) A (call (.ref f) [.ref x, b]) (fun v s' => ∃ k, v = .bool k ∧ Q (.done (.ret (.bool (!k)))) s') E s) : wpAny (model prog w) A (Builtin.«object.__ne__» ⟨[.ref x, b], []⟩) Q E s := by
  unfold Builtin.«object.__ne__»
  refine wpAny_bind (wpAny_pure ?_)
  refine wpAny_bind (wpAny_cRoomFor hu ?_)
  refine wpAny_bind (PySem.W.ifBound_K X I hs hf ?_)
  refine wpAny_mono h (fun v s' hv => ?_) (fun _ _ e => e)
  obtain ⟨k, rfl, q⟩ := hv
  refine wpAny_bind (wpAny_truthy_bool ?_)
  exact wpAny_pure q
theorem cmp_ne {Q : Value → Shared → Prop} {f : Addr} {m : Str → Option Value} {L : Addr} {h₀ : Heap} (hu : A.units + 1 < cLine) (G : Fr h₀ L s.heap m) (X₀ : K.In h₀) (I : PySem.W.InstAt s.heap x ox C od) (hb : PySem.W.Looks (model prog w) s.heap (typeOf b) tb) (hn : PySem.W.notFirst K C tb = true)
    (hne : findIn K (.ref C) "__ne__" = some (some (.builtin "object.__ne__"))) (hso : subIn K (.ref C) (.type "object") = some true) (hs : findIn K (.ref C) "__eq__" = some (some (.ref f))) (hf : PySem.W.isFn K (.ref f) = true)
    (h : wpAny (model prog w) A.in1 (call (.ref f) [.ref x, b]) (fun v s' => ∃ k, v = .bool k ∧ Q (.bool (!k)) s') E s) : wpAny (model prog w) A (richCompare .NotEq (.ref x) b) Q E s := by
  have X := X₀.keeps G.keep
  have hu0 : A.units < cLine := by omega
  have one : wpAny (model prog w) A (tryCompare (.ref x) (cmpInfo .NotEq).2.1 b) (fun r s' => ∃ v, r = some v ∧ Q v s') E s := by
    unfold tryCompare
    refine wpAny_bind (ifBound_B X I hne PySem.F.slot_object_ne (wpAny_call (codeAny_call_builtin PySem.F.slot_object_ne.plain PySem.F.cmpEntry_ne (check_B X I PySem.F.cmpKind_ne PySem.F.cmpSplit_ne (PySem.F.cmpArgs_ne _ _) hso (ne_entry (A := A.in1) hu X I hs hf ?_)))))
    refine wpAny_mono h (fun v s' hv => ?_) fun _ _ e => e
    obtain ⟨k, rfl, q⟩ := hv
    exact ⟨k, rfl, wpAny_pure ⟨_, rfl, q⟩⟩
  unfold richCompare
  simp only [oneThing_ref]
  refine wpAny_holding (wpAny_bind (wpAny_cRoomFor hu0 ?_))
  refine wpAny_bind (I.type.here (wpAny_bind (hb.here ?_)))
  split
  · rename_i q
    have e : subIn K tb (.ref C) = some false := by
      rcases Bool.or_eq_true_iff.mp hn with e | e
      · rw [beq_iff_eq.mp e] at q; simp at q
      · exact beq_iff_eq.mp e
    refine wpAny_bind ((looks_subIn X e).here ?_)
    simp only [Bool.false_eq_true, if_false]
    refine wpAny_bind (wpAny_mono one (fun r s' z => ?_) fun _ _ e => e)
    obtain ⟨v, rfl, hq⟩ := z
    exact wpAny_pure hq
  · refine wpAny_bind (wpAny_pure ?_)
    simp only [Bool.false_eq_true, if_false]
    refine wpAny_bind (wpAny_mono one (fun r s' z => ?_) fun _ _ e => e)
    obtain ⟨v, rfl, hq⟩ := z
    exact wpAny_pure hq
end
end Bw

/-! == of own objects, and of lists of such: either answer -/
namespace Bw
open PySem PySem.Spec PySem.SeqAt PyProof.Rows L2 LamX
open AutoSeq1 (wpAny_loadPart')
open MeetsSeq MeetsSeq2 MeetsSeq3 SeqRoads2
section
variable {prog : Program} {w : World} {A : Around} {R : Result → Shared → Prop}
/-- at each turn the two lists are read anew -/
def ListB (prog : Program) (w : World) (A : Around) (E : Value → Shared → Prop) (l b : Addr) (N : Nat) (bs : Nat → Bool) (I : Shared → Prop) : Prop :=
  ∀ s, I s → ∃ (items items2 : Array Value) (n n2 : Nat), s.heap.get? l = some { cls := .type "list", data := .seq items n } ∧ s.heap.get? b = some { cls := .type "list", data := .seq items2 n2 } ∧ items.size = N ∧ items2.size = N ∧
    ∀ i (h1 : i < items.size) (h2 : i < items2.size), wpAny (model prog w) A.in1 (eqBool items[i] items2[i]) (fun r s' => r = bs i ∧ I s') E s
theorem eq_loopB (l b : Addr) (N : Nat) (bs : Nat → Bool) (I : Shared → Prop) (hl : ListB prog w A (fun e s' => R (.error e) s') l b N bs I)
    (fin : ∀ s, I s → R (.ok (.ret (.bool ((List.range N).all bs)))) s) (k : Nat) :
    ∀ i : Nat, N - i = k → i ≤ N → (∀ j, j < i → bs j = true) → ∀ s, I s →
      wpAny (model prog w) A.in1 (Builtin.«list.__eq__.loop» ⟨[.ref l, .ref b, rawInt i, rawInt 2], []⟩) (GQ.FinOf prog w A R) (fun e s' => R (.error e) s') s := by
  induction k with
  | zero =>
    intro i hk hi hbs s h
    obtain ⟨items, items2, n, n2, hl1, hb1, hs1, hs2, _⟩ := hl _ h
    have hi' : i = N := by omega
    have hall : (List.range N).all bs = true := by
      rw [List.all_eq_true]
      intro x hx
      exact hbs x (by rw [hi']; exact List.mem_range.mp hx)
    have hR : R (.ok (.ret (.bool true))) s := hall ▸ fin s h
    obtain ⟨hp, g, d, tk, os⟩ := s
    wp_walk using wpAny_loadPart' hl1, wpAny_loadPart' hb1
    have hi1 : items[((i : Nat) : Int).toNat]? = none := by simp; omega
    have hi2 : items2[((i : Nat) : Int).toNat]? = none := by simp; omega
    rw [hi1, hi2]
    wp_walk using wpAny_loadPart' hl1, wpAny_loadPart' hb1
    show R (.ok (.ret (.bool (items.size == items2.size)))) _
    rw [hs1, hs2]
    simpa using hR
  | succ k ih =>
    intro i hk hi hbs s h
    obtain ⟨items, items2, n, n2, hl1, hb1, hs1, hs2, turn⟩ := hl _ h
    have hlt : i < items.size := by omega
    have hlt2 : i < items2.size := by omega
    have ht := turn i hlt hlt2
    obtain ⟨hp, g, d, tk, os⟩ := s
    wp_walk using wpAny_loadPart' hl1, wpAny_loadPart' hb1
    have hi1 : items[((i : Nat) : Int).toNat]? = some items[i] := by simp [hlt]
    have hi2 : items2[((i : Nat) : Int).toNat]? = some items2[i] := by simp [hlt2]
    have hc : ((i : Int) + 1) = ((i + 1 : Nat) : Int) := by omega
    rw [hi1, hi2]
    refine wpAny_bind (wpAny_mono ht (fun r s2 h2 => ?_) fun _ _ x => x)
    obtain ⟨hr, h2⟩ := h2
    cases hb : bs i with
    | true =>
      rw [hb] at hr
      subst hr
      have hrec := ih (i + 1) (by omega) (by omega) (fun j hj => by
        rcases Nat.lt_or_eq_of_le (Nat.le_of_lt_succ hj) with h | h
        · exact hbs j h
        · exact h ▸ hb) s2 h2
      obtain ⟨hp2, g2, d2, tk2, os2⟩ := s2
      wp_walk
      rw [hc]
      exact ⟨plainId_quiet plain_eq_loop _, codeAny_builtin entry_eq_loop (by
        rw [Around.under_plainId plain_eq_loop _]
        exact hrec)⟩
    | false =>
      rw [hb] at hr
      subst hr
      obtain ⟨itemsB, items2B, nB, n2B, hl1B, hb1B, hs1B, hs2B, _⟩ := hl _ h2
      have hi1B : itemsB[((i : Nat) : Int).toNat]? = some (itemsB[i]'(by omega)) := by
        have : i < itemsB.size := by omega
        simp [this]
      have hi2B : items2B[((i : Nat) : Int).toNat]? = some (items2B[i]'(by omega)) := by
        have : i < items2B.size := by omega
        simp [this]
      have hall : (List.range N).all bs = false := by
        rw [Bool.eq_false_iff]
        intro z
        rw [List.all_eq_true] at z
        have := z i (List.mem_range.mpr (by omega))
        rw [hb] at this
        cases this
      have hR : R (.ok (.ret (.bool false))) s2 := hall ▸ fin s2 h2
      obtain ⟨hp2, g2, d2, tk2, os2⟩ := s2
      wp_walk using wpAny_loadPart' hl1B, wpAny_loadPart' hb1B
      rw [hi1B, hi2B]
      wp_walk
      exact hR
theorem list_eqB (l b : Addr) (N : Nat) (bs : Nat → Bool) (I : Shared → Prop) (hl : ListB prog w A (fun e s' => R (.error e) s') l b N bs I)
    (fin : ∀ s, I s → R (.ok (.ret (.bool ((List.range N).all bs)))) s) {s : Shared} (h : I s) :
    wpAny (model prog w) A.in1 (Builtin.«list.__eq__» ⟨[.ref l, .ref b], []⟩) (GQ.FinOf prog w A R) (fun e s' => R (.error e) s') s := by
  obtain ⟨items, items2, n, n2, hl1, hb1, hs1, hs2, _⟩ := hl _ h
  have hrec := eq_loopB (A := A) (R := R) l b N bs I hl fin _ 0 rfl (Nat.zero_le _) (fun j hj => absurd hj (Nat.not_lt_zero _)) s h
  obtain ⟨hp, g, d, tk, os⟩ := s
  have f3 := AutoSeq1.sub_list_list
  have hne : ¬ (items.size != items2.size) = true := by simp [hs1, hs2]
  wp_walk using wpAny_loadPart' hl1, wpAny_loadPart' hb1
  exact ⟨plainId_quiet plain_eq_loop _, codeAny_builtin entry_eq_loop (by
    rw [Around.under_plainId plain_eq_loop _]
    exact hrec)⟩
/-- x in l -/
def ContB (prog : Program) (w : World) (A : Around) (E : Value → Shared → Prop) (l : Addr) (x : Value) (N : Nat) (bs : Nat → Bool) (I : Shared → Prop) : Prop :=
  ∀ s, I s → ∃ (items : Array Value) (n : Nat), s.heap.get? l = some { cls := .type "list", data := .seq items n } ∧ items.size = N ∧
    ∀ i (h1 : i < items.size), wpAny (model prog w) A.in1 (eqBool items[i] x) (fun r s' => r = bs i ∧ I s') E s
theorem cont_loopB (l : Addr) (x : Value) (N : Nat) (bs : Nat → Bool) (I : Shared → Prop) (hl : ContB prog w A (fun e s' => R (.error e) s') l x N bs I)
    (fin : ∀ s, I s → R (.ok (.ret (.bool ((List.range N).any bs)))) s) (k : Nat) :
    ∀ i : Nat, N - i = k → i ≤ N → (∀ j, j < i → bs j = false) → ∀ s, I s →
      wpAny (model prog w) A.in1 (Builtin.«list.__contains__.loop» ⟨[.ref l, x, rawInt i], []⟩) (GQ.FinOf prog w A R) (fun e s' => R (.error e) s') s := by
  induction k with
  | zero =>
    intro i hk hi hbs s h
    obtain ⟨items, n, hl1, hs1, _⟩ := hl _ h
    have hi' : i = N := by omega
    have hall : (List.range N).any bs = false := by
      rw [List.any_eq_false]
      intro x hx
      rw [hbs x (by rw [hi']; exact List.mem_range.mp hx)]
      exact Bool.false_ne_true
    have hR : R (.ok (.ret (.bool false))) s := hall ▸ fin s h
    obtain ⟨hp, g, d, tk, os⟩ := s
    wp_walk using wpAny_loadPart' hl1
    have hi1 : items[((i : Nat) : Int).toNat]? = none := by simp; omega
    rw [hi1]
    wp_walk
    exact hR
  | succ k ih =>
    intro i hk hi hbs s h
    obtain ⟨items, n, hl1, hs1, turn⟩ := hl _ h
    have hlt : i < items.size := by omega
    have ht := turn i hlt
    obtain ⟨hp, g, d, tk, os⟩ := s
    wp_walk using wpAny_loadPart' hl1
    have hi1 : items[((i : Nat) : Int).toNat]? = some items[i] := by simp [hlt]
    have hc : ((i : Int) + 1) = ((i + 1 : Nat) : Int) := by omega
    rw [hi1]
    refine wpAny_bind (wpAny_mono ht (fun r s2 h2 => ?_) fun _ _ x => x)
    obtain ⟨hr, h2⟩ := h2
    cases hb : bs i with
    | true =>
      rw [hb] at hr
      subst hr
      have hall : (List.range N).any bs = true := by
        rw [List.any_eq_true]
        exact ⟨i, List.mem_range.mpr (by omega), hb⟩
      have hR : R (.ok (.ret (.bool true))) s2 := hall ▸ fin s2 h2
      obtain ⟨hp2, g2, d2, tk2, os2⟩ := s2
      wp_walk
      exact hR
    | false =>
      rw [hb] at hr
      subst hr
      have hrec := ih (i + 1) (by omega) (by omega) (fun j hj => by
        rcases Nat.lt_or_eq_of_le (Nat.le_of_lt_succ hj) with h | h
        · exact hbs j h
        · exact h ▸ hb) s2 h2
      obtain ⟨hp2, g2, d2, tk2, os2⟩ := s2
      wp_walk
      rw [hc]
      exact ⟨plainId_quiet plain_contains_loop _, codeAny_builtin entry_contains_loop (by
        rw [Around.under_plainId plain_contains_loop _]
        exact hrec)⟩
theorem list_contB (l : Addr) (x : Value) (N : Nat) (bs : Nat → Bool) (I : Shared → Prop) (hl : ContB prog w A (fun e s' => R (.error e) s') l x N bs I)
    (fin : ∀ s, I s → R (.ok (.ret (.bool ((List.range N).any bs)))) s) {s : Shared} (h : I s) :
    wpAny (model prog w) A.in1 (Builtin.«list.__contains__» ⟨[.ref l, x], []⟩) (GQ.FinOf prog w A R) (fun e s' => R (.error e) s') s := by
  obtain ⟨items, n, hl1, hs1, _⟩ := hl _ h
  have hrec := cont_loopB (A := A) (R := R) l x N bs I hl fin _ 0 rfl (Nat.zero_le _) (fun j hj => absurd hj (Nat.not_lt_zero _)) s h
  obtain ⟨hp, g, d, tk, os⟩ := s
  wp_walk using wpAny_loadPart' hl1
  exact ⟨plainId_quiet plain_contains_loop _, codeAny_builtin entry_contains_loop (by
    rw [Around.under_plainId plain_contains_loop _]
    exact hrec)⟩
end
section
variable {prog : Program} {w : World} {A : Around} {E : Value → Shared → Prop} {s : Shared}
theorem rc_listB {l b : Addr} {N : Nat} {bs : Nat → Bool} {Q : Value → Shared → Prop} (hu : A.units < cLine) (I : Shared → Prop) (hl : ListB prog w A E l b N bs I)
    (fin : ∀ s, I s → Q (.bool ((List.range N).all bs)) s) (h : I s) : wpAny (model prog w) A (richCompare .Eq (.ref l) (.ref b)) Q E s := by
  obtain ⟨items, items2, n, n2, hl1, hb1, _, _, _⟩ := hl _ h
  refine wpAny_richCompare_same_room (op := .Eq) ⟨_, hl1, rfl⟩ ⟨_, hb1, rfl⟩ F.slot_list_eq (GQ.call_here F.slot_list_eq ⟨_, hl1, rfl⟩ F.entry_list_eq (F.args_list_eq_2 _ _) ?_) hu
  exact list_eqB (R := wants (fun v s' => v ≠ .notImplemented ∧ Q v s') E) l b N bs I hl (fun s' q => ⟨(fun x => nomatch x), fin s' q⟩) h
theorem rc_listD {l b : Addr} {items items2 : Array Value} {n n2 : Nat} {Q : Value → Shared → Prop} (hu : A.units < cLine) (hl : s.heap.get? l = some { cls := .type "list", data := .seq items n }) (hb : s.heap.get? b = some { cls := .type "list", data := .seq items2 n2 }) (hne : items.size ≠ items2.size)
    (fin : Q (.bool false) s) : wpAny (model prog w) A (richCompare .Eq (.ref l) (.ref b)) Q E s := by
  refine wpAny_richCompare_same_room (op := .Eq) ⟨_, hl, rfl⟩ ⟨_, hb, rfl⟩ F.slot_list_eq ?_ hu
  exact call_meets F.slot_list_eq ⟨_, hl, rfl⟩ F.entry_list_eq (F.args_list_eq_2 _ _) (list_eq_lengthsAt l b items items2 n n2 none none #[] #[] (by simp [hne])) ⟨hl, hb, (fun x => nomatch x), fin⟩
end
end Bw

/-! == by own __eq__ over the layer: either answer; !=, in, lists of own objects -/
namespace Bw
open PySem PySem.Spec PyProof.Rows L2 LamX
/-- x == y answers b, by the abstract heap -/
abbrev Eqb := V → V → Hp → Bool → Prop
def MonB (D : Eqb) : Prop := ∀ x y H H' b, Same H H' → D x y H b → D x y H' b
def EqbX (X : Cx) (n : Nat) (D : Eqb) : Prop :=
  ∀ (A : Around) (pins : List (Addr × Obj)) (s : Shared) (σ : L2.St) (H : Hp) (x y : V) (u v : Value) (b : Bool), Sub X n A → Inv X pins σ H s → RelV x u → RelV y v → D x y H b →
    wpAny (model X.prog X.w) A (eqBool u v) (fun r s' => r = b ∧ ∃ H', Inv X pins σ H' s' ∧ Same H H') X.xe s
def RcbX (X : Cx) (n : Nat) (D : Eqb) : Prop :=
  ∀ (A : Around) (pins : List (Addr × Obj)) (s : Shared) (σ : L2.St) (H : Hp) (x y : V) (u v : Value) (b : Bool), Sub X n A → Inv X pins σ H s → RelV x u → RelV y v → D x y H b →
    wpAny (model X.prog X.w) A (richCompare .Eq u v) (fun r s' => r = .bool b ∧ ∃ H', Inv X pins σ H' s' ∧ Same H H') X.xe s
section
variable {X : Cx} {n m : Nat} {D D' : Eqb}
theorem EqbX.mono (h : EqbX X n D) (hn : n ≤ m) : EqbX X m D := fun A pins s σ H x y u v b sb => h A pins s σ H x y u v b (sb.mono hn)
theorem RcbX.mono (h : RcbX X n D) (hn : n ≤ m) : RcbX X m D := fun A pins s σ H x y u v b sb => h A pins s σ H x y u v b (sb.mono hn)
theorem RcbX.or (h : RcbX X n D) (h' : RcbX X n D') : RcbX X n (fun x y H b => D x y H b ∨ D' x y H b) := fun A pins s σ H x y u v b sb I rx ry d =>
  d.elim (h A pins s σ H x y u v b sb I rx ry) (h' A pins s σ H x y u v b sb I rx ry)
theorem EqbX.or (h : EqbX X n D) (h' : EqbX X n D') : EqbX X n (fun x y H b => D x y H b ∨ D' x y H b) := fun A pins s σ H x y u v b sb I rx ry d =>
  d.elim (h A pins s σ H x y u v b sb I rx ry) (h' A pins s σ H x y u v b sb I rx ry)
/-- data -/
def BData (K : PySem.W.Frag) : Eqb := fun x y H b => ∃ d e, Dp K H x d ∧ Dp K H y e ∧ SeqAt.shaped d = true ∧ SeqAt.shaped e = true ∧ PyData.eqv d e = b
theorem rcb_data : RcbX X 1 (BData X.K) := by
  intro A pins s σ H x y u v b sb I rx ry hd
  obtain ⟨d, e, hx, hy, sd, se, rfl⟩ := hd
  obtain ⟨as, r1⟩ := Dp.reads I d x u hx rx
  obtain ⟨bs, r2⟩ := Dp.reads I e y v hy ry
  exact SeqAt.compareEq_shaped r1 r2 sd se sb.room.units ⟨rfl, H, I, fun _ _ h => h⟩
theorem mon_data {K : PySem.W.Frag} : MonB (BData K) := fun x y H H' b s h => by
  obtain ⟨d, e, hx, hy, r⟩ := h
  exact ⟨d, e, same_dp s hx, same_dp s hy, r⟩
/-- the same object equals itself within lists; other ones as by == -/
def BSame (D : Eqb) : Eqb := fun x y H b => (∃ a, x = .ref a ∧ y = .ref a ∧ b = true) ∨ ((∃ a c, x = .ref a ∧ y = .ref c ∧ a ≠ c) ∧ D x y H b)
theorem RcbX.eqb (h : RcbX X n D) : EqbX X n (BSame D) := by
  intro A pins s σ H x y u v b sb I rx ry d
  rcases d with ⟨a, rfl, rfl, rfl⟩ | ⟨⟨a, c, rfl, rfl, hne⟩, d⟩
  · cases rx
    cases ry
    exact SeqAt.EqAt.same (A := A) (s := s) (.ref a) X.prog X.w X.xe _ ⟨rfl, H, I, fun _ _ h => h⟩
  · cases rx
    cases ry
    refine GQ.eqBool_refG hne (wpAny_mono (h A pins s σ H (.ref a) (.ref c) _ _ b sb I rfl rfl d) (fun r s' q => ?_) fun _ _ x => x)
    obtain ⟨hr', q⟩ := q
    exact ⟨b, hr', rfl, q⟩
theorem mon_same (h : MonB D) : MonB (BSame D) := fun x y H H' b s d => d.imp id fun ⟨e, d⟩ => ⟨e, h x y H H' b s d⟩
/-- own objects of the class C -/
def BIns (K : PySem.W.Frag) (C : Addr) (R : Addr → V → Hp → Bool → Prop) : Eqb := fun x y H b => ∃ a dx fs, x = .ref a ∧ H a = some (.ins C dx fs) ∧ Side K H C y ∧ R a y H b
def spEqb (R : Addr → V → Hp → Bool → Prop) : Sp := fun vs H Q _ => ∃ a y b, vs = [.ref a, y] ∧ R a y H b ∧ ∀ H', Same H H' → Q (.bl b) H'
theorem Side.same {K : PySem.W.Frag} {H H' : Hp} {C : Addr} {y : V} (h : Side K H C y) (s : Same H H') : Side K H' C y := by
  cases h with
  | int i h => exact .int i h
  | bl b h => exact .bl b h
  | str x h => exact .str x h
  | non h => exact .non h
  | lst e h => exact .lst (s _ _ e) h
  | tup e h => exact .tup (s _ _ e) h
  | own e => exact .own (s _ _ e)
theorem mon_ins' {K : PySem.W.Frag} {C : Addr} {R : Addr → V → Hp → Bool → Prop} (hR : ∀ a y H H' b, Same H H' → R a y H b → R a y H' b) : MonB (BIns K C R) := fun x y H H' b s d => by
  obtain ⟨a, dx, fs, e, h, sd, r⟩ := d
  exact ⟨a, dx, fs, e, s _ _ h, sd.same s, hR a y H H' b s r⟩
theorem rcb_ins {C : Addr} {ps : List Str} {R : Addr → V → Hp → Bool → Prop} (O : EqO X.prog X.w X.K X.mg X.base C n ps (spEqb R)) : RcbX X n (BIns X.K C R) := by
  intro A pins s σ H x y u v b sb I rx ry d
  obtain ⟨a, dx, fs, rfl, ha, hy, hR⟩ := d
  obtain ⟨f, fd, F, hs, hf, hb⟩ := O.ex
  cases rx
  obtain ⟨tb, lk, nf⟩ := side_looks I ry hy
  obtain ⟨mA, J, _⟩ := ins_get I.hok ha
  obtain ⟨od, J, _⟩ := J.look
  obtain ⟨m, hF⟩ := I.fr
  refine PySem.W.cmp_K (op := .Eq) sb.room.units0 hF I.ok.mod.kin J lk nf hs hf ?_
  have hsp : spEqb R [.ref a, y] H (fun v H' => v = .bl b ∧ Same H H') C8.E0 := ⟨a, y, b, rfl, hR, fun H' e => ⟨rfl, e⟩⟩
  have e0 : Env0 X.prog X.w X.K X.mg X.base A X.stack s H := by
    have e := I.env0
    exact ⟨by rw [sb.fr]; exact e.frames, e.mod, e.bs, e.bsz, e.funs, e.frf, e.hok, e.bare⟩
  have hl := F.len _ _ _ _ hsp
  have r2 : Vals [V.ref a, y] [Value.ref a, v] := .cons rfl (.cons ry .nil)
  refine wpAny_call (codeAny_mono (F.run A X.stack s H ⟨[.ref a, v], []⟩ [.ref a, v] [.ref a, y] _ _ sb.room e0 (by
    have := hb s [.ref a, v] I.kIn (by simpa using hl)
    simpa using this) r2 hsp) fun r s' hq => ?_)
  cases r with
  | error e => exact pass0 pins σ H s e s' I hq
  | ok fl =>
    cases fl with
    | ret w =>
      obtain ⟨z, H', I', rz, ez, ex⟩ := I.after hq
      subst ez
      cases rz
      exact ⟨rfl, H', I', ex⟩
    | next => exact False.elim hq
    | brk => exact False.elim hq
    | cont => exact False.elim hq
/-- lists -/
def BList (D : Eqb) : Eqb := fun x y H b => ∃ a c xs ys, x = .ref a ∧ y = .ref c ∧ H a = some (.lst xs) ∧ H c = some (.lst ys) ∧
  ((xs.length ≠ ys.length ∧ b = false) ∨ (xs.length = ys.length ∧ ∃ bs : Nat → Bool, (∀ i x y, xs[i]? = some x → ys[i]? = some y → D x y H (bs i)) ∧ b = (List.range xs.length).all bs))
theorem mon_list' (h : MonB D) : MonB (BList D) := fun x y H H' b s d => by
  obtain ⟨a, c, xs, ys, e1, e2, h1, h2, d⟩ := d
  refine ⟨a, c, xs, ys, e1, e2, s _ _ h1, s _ _ h2, d.imp id fun ⟨l, bs, hb, e⟩ => ⟨l, bs, fun i x y k1 k2 => h x y H H' _ s (hb i x y k1 k2), e⟩⟩
def LoopB (X : Cx) (pins : List (Addr × Obj)) (σ : L2.St) (H : Hp) (s' : Shared) : Prop := ∃ H', Inv X pins σ H' s' ∧ Same H H'
theorem turnB (hD : MonB D) (h : EqbX X n D) {A : Around} (sb : Sub X (n + 1) A) {pins : List (Addr × Obj)} {σ : L2.St} {H : Hp} {xs ys : List V} {its its2 : List Value} {bs : Nat → Bool}
    (p : ∀ i x y, xs[i]? = some x → ys[i]? = some y → D x y H (bs i)) (r : Vals xs its) (r2 : Vals ys its2)
    (i : Nat) (h1 : i < its.toArray.size) (h2 : i < its2.toArray.size) (s' : Shared) (l : LoopB X pins σ H s') :
    wpAny (model X.prog X.w) A.in1 (eqBool its.toArray[i] its2.toArray[i]) (fun r s2 => r = bs i ∧ LoopB X pins σ H s2) X.xe s' := by
  obtain ⟨H1, I1, e1⟩ := l
  have g1 : its[i]? = some its.toArray[i] := by
    have h1' : i < its.length := by simpa using h1
    rw [List.getElem?_eq_getElem h1'] <;> simp
  have g2 : its2[i]? = some its2.toArray[i] := by
    have h2' : i < its2.length := by simpa using h2
    rw [List.getElem?_eq_getElem h2'] <;> simp
  have k1 : i < xs.length := by rw [r.length]; simpa using h1
  have k2 : i < ys.length := by rw [r2.length]; simpa using h2
  obtain ⟨u, hu, ru⟩ := r.get (List.getElem?_eq_getElem k1)
  obtain ⟨v, hv, rv⟩ := r2.get (List.getElem?_eq_getElem k2)
  rw [g1] at hu
  rw [g2] at hv
  rw [Option.some.inj hu, Option.some.inj hv]
  refine wpAny_mono (h A.in1 pins s' σ H1 _ _ u v (bs i) sb.in1 I1 ru rv (hD _ _ _ _ _ e1 (p i _ _ (List.getElem?_eq_getElem k1) (List.getElem?_eq_getElem k2)))) (fun r s2 q => ?_) fun _ _ x => x
  obtain ⟨hr, H2, I2, e2⟩ := q
  exact ⟨hr, H2, I2, e1.trans e2⟩
theorem rcb_list (hD : MonB D) (h : EqbX X n D) : RcbX X (n + 1) (BList D) := by
  intro A pins s σ H x y u v b sb I rx ry d
  obtain ⟨a, c, xs, ys, rfl, rfl, ha, hc, d⟩ := d
  cases rx
  cases ry
  rcases d with ⟨hne, rfl⟩ | ⟨hl, bs, hb, rfl⟩
  · obtain ⟨z, its, k, r, e⟩ := I.hok a _ ha
    obtain ⟨z2, its2, k2, r2, e2⟩ := I.hok c _ hc
    exact rc_listD sb.room.units0 e e2 (by rw [List.size_toArray, List.size_toArray, ← r.length, ← r2.length]; exact hne) ⟨rfl, H, I, fun _ _ h => h⟩
  · refine rc_listB (N := xs.length) (bs := bs) sb.room.units0 (fun s' => LoopB X pins σ H s') (fun s' q => ?_) (fun s' q => ⟨rfl, q⟩) ⟨H, I, fun _ _ h => h⟩
    obtain ⟨H1, I1, e1⟩ := id q
    obtain ⟨z, its, k, r, e⟩ := I1.hok a _ (e1 _ _ ha)
    obtain ⟨z2, its2, k2, r2, e2⟩ := I1.hok c _ (e1 _ _ hc)
    refine ⟨its.toArray, its2.toArray, k, k2, e, e2, by rw [List.size_toArray, ← r.length], by rw [List.size_toArray, ← r2.length, hl], fun i h1 h2 => ?_⟩
    exact turnB hD h sb hb r r2 i h1 h2 s' q
/-- x == y as an expression -/
def rEqb (D : Eqb) : R2 := fun x y H Q => ∃ b, D x y H b ∧ ∀ H', Same H H' → Q (.bl b) H'
theorem op_eqb (h : RcbX X n D) (hr : Room n X.A) : OpR X (compareOp .Eq) (rEqb D) := by
  intro pins s σ H x y v u Q I rx ry hq
  obtain ⟨b, d, q⟩ := hq
  show wpAny (model X.prog X.w) X.A (richCompare .Eq v u) (EP X pins σ Q) X.xe s
  refine wpAny_mono (h X.A pins s σ H x y v u b ⟨hr, rfl⟩ I rx ry d) (fun r s' z => ?_) fun _ _ x => x
  obtain ⟨hr', H', I', e⟩ := z
  subst hr'
  exact ⟨.bl b, H', I', rfl, q H' e⟩
/-- the class's != is that of object -/
structure NeO (K : PySem.W.Frag) (C : Addr) : Prop where
  ne : PySem.W.findIn K (.ref C) "__ne__" = some (some (.builtin "object.__ne__"))
  so : PySem.W.subIn K (.ref C) (.type "object") = some true
/-- x != y by an own __eq__ -/
def rNeO (K : PySem.W.Frag) (C : Addr) (R : Addr → V → Hp → Bool → Prop) : R2 := fun x y H Q => ∃ b, BIns K C R x y H b ∧ ∀ H', Same H H' → Q (.bl (!b)) H'
theorem op_neO {C : Addr} {ps : List Str} {R : Addr → V → Hp → Bool → Prop} (O : EqO X.prog X.w X.K X.mg X.base C n ps (spEqb R)) (N : NeO X.K C) (hr : Room (n + 1) X.A) : OpR X (compareOp .NotEq) (rNeO X.K C R) := by
  intro pins s σ H x y v u Q I rx ry h
  obtain ⟨b, ⟨a, dx, fs, rfl, ha, hy, hR⟩, q⟩ := h
  obtain ⟨f, fd, F, hs, hf, hb⟩ := O.ex
  cases rx
  obtain ⟨tb, lk, nf⟩ := side_looks I ry hy
  obtain ⟨mA, J, _⟩ := ins_get I.hok ha
  obtain ⟨od, J, _⟩ := J.look
  obtain ⟨m, hF⟩ := I.fr
  show wpAny (model X.prog X.w) X.A (richCompare .NotEq (.ref a) u) (EP X pins σ Q) X.xe s
  have hu1 : X.A.units + 1 < cLine := by have := hr.units; omega
  refine cmp_ne hu1 hF I.ok.mod.kin J lk nf N.ne N.so hs hf ?_
  have hsp : spEqb R [.ref a, y] H (fun v H' => v = .bl b ∧ Same H H') C8.E0 := ⟨a, y, b, rfl, hR, fun H' e => ⟨rfl, e⟩⟩
  have sb : Sub X n X.A.in1 := Sub.in1 ⟨hr, rfl⟩
  have e0 : Env0 X.prog X.w X.K X.mg X.base X.A.in1 X.stack s H := by
    have e := I.env0
    exact ⟨by rw [sb.fr]; exact e.frames, e.mod, e.bs, e.bsz, e.funs, e.frf, e.hok, e.bare⟩
  have hl := F.len _ _ _ _ hsp
  have r2 : Vals [V.ref a, y] [Value.ref a, u] := .cons rfl (.cons ry .nil)
  refine wpAny_call (codeAny_mono (F.run X.A.in1 X.stack s H ⟨[.ref a, u], []⟩ [.ref a, u] [.ref a, y] _ _ sb.room e0 (by
    have := hb s [.ref a, u] I.kIn (by simpa using hl)
    simpa using this) r2 hsp) fun r s' hq => ?_)
  cases r with
  | error e => exact pass0 pins σ H s e s' I hq
  | ok fl =>
    cases fl with
    | ret w =>
      obtain ⟨z, H', I', rz, ez, ex⟩ := I.after hq
      subst ez
      cases rz
      exact ⟨b, rfl, .bl (!b), H', I', rfl, q H' ex⟩
    | next => exact False.elim hq
    | brk => exact False.elim hq
    | cont => exact False.elim hq
/-- x in a list -/
def rInB (D : Eqb) : R2 := fun x y H Q => ∃ l xs, y = .ref l ∧ H l = some (.lst xs) ∧ ∃ bs : Nat → Bool, (∀ i z, xs[i]? = some z → D z x H (bs i)) ∧ ∀ H', Same H H' → Q (.bl ((List.range xs.length).any bs)) H'
theorem op_inB (hD : MonB D) (h : EqbX X n D) (hr : Room (n + 1) X.A) : OpR X (compareOp .In) (rInB D) := by
  intro pins s σ H x y v u Q I rx ry hq
  obtain ⟨l, xs, rfl, hl, bs, hb, q⟩ := hq
  cases ry
  have key : ContB X.prog X.w X.A (fun e s' => wants (fun v s' => ∃ b, v = .bool b ∧ EP X pins σ Q (.bool b) s') X.xe (.error e) s') l v xs.length bs (fun s' => LoopB X pins σ H s') := by
    intro s' hI
    obtain ⟨H1, I1, e1⟩ := id hI
    obtain ⟨z, its, k, r, e⟩ := I1.hok l _ (e1 _ _ hl)
    refine ⟨its.toArray, k, e, by rw [List.size_toArray, ← r.length], fun i h1 => ?_⟩
    have h1' : i < its.length := by simpa using h1
    have g1 : its[i]? = some its.toArray[i] := by rw [List.getElem?_eq_getElem h1'] <;> simp
    have k1 : i < xs.length := by rw [r.length]; simpa using h1
    obtain ⟨u, hu, ru⟩ := r.get (List.getElem?_eq_getElem k1)
    rw [g1] at hu
    rw [Option.some.inj hu]
    refine wpAny_mono (h X.A.in1 pins s' σ H1 _ x u v (bs i) (Sub.in1 ⟨hr, rfl⟩) I1 ru rx (hD _ _ _ _ _ e1 (hb i _ (List.getElem?_eq_getElem k1)))) (fun r s2 q => ?_) fun _ _ x => x
    obtain ⟨hr, H2, I2, e2⟩ := q
    exact ⟨hr, H2, I2, e1.trans e2⟩
  obtain ⟨z, its, k, r, e⟩ := I.hok l _ hl
  show wpAny (model X.prog X.w) X.A (do return Value.bool (← contains (.ref l) v)) (EP X pins σ Q) X.xe s
  refine wpAny_bind (wpAny_contains_slot ⟨_, e, rfl⟩ F.slot_list_contains (wpAny_mono (Q := fun v s' => ∃ b, v = .bool b ∧ EP X pins σ Q (.bool b) s') (GQ.call_here F.slot_list_contains ⟨_, e, rfl⟩ F.entry_list_contains (F.args_list_contains_2 _ _)
    (list_contB (R := wants (fun v s' => ∃ b, v = .bool b ∧ EP X pins σ Q (.bool b) s') X.xe) l v xs.length bs (fun s' => LoopB X pins σ H s') key (fun s' hI => ?_) ⟨H, I, fun _ _ h => h⟩)) (fun v s' hv => ?_) fun _ _ e => e))
  · obtain ⟨H', I', e'⟩ := hI
    exact ⟨_, rfl, .bl _, H', I', rfl, q H' e'⟩
  · obtain ⟨b, rfl, hq⟩ := hv
    exact wpAny_truthy_bool (wpAny_pure hq)
end
/-! ### steps -/
section
variable {H : Hp} {Q : VK} {D : Eqb} {K : PySem.W.Frag} {x y : V}
theorem w_eqb {b : Bool} (d : D x y H b) (k : ∀ H', Same H H' → Q (.bl b) H') : rEqb D x y H Q := ⟨b, d, k⟩
theorem w_neO {C : Addr} {R : Addr → V → Hp → Bool → Prop} {b : Bool} (d : BIns K C R x y H b) (k : ∀ H', Same H H' → Q (.bl (!b)) H') : rNeO K C R x y H Q := ⟨b, d, k⟩
end
/-- either reading of an operator -/
def rOr (r r' : R2) : R2 := fun x y H Q => r x y H Q ∨ r' x y H Q
theorem op_or {X : Cx} {f : Value → Value → Sem Value} {r r' : R2} (h : OpR X f r) (h' : OpR X f r') : OpR X f (rOr r r') := fun pins s σ H x y v u Q I rx ry q =>
  q.elim (h pins s σ H x y v u Q I rx ry) (h' pins s σ H x y v u Q I rx ry)
/-- a class whose instances isinstance knows -/
structure Kls (K : PySem.W.Frag) (C : Addr) : Prop where
  cl : Cls K C
  ha : PySem.W.findIn K (.ref C) "__class__" = some (some (.builtin "object.__class__"))
  hn : PySem.W.specialIn K (.builtin "object.__class__") "__get__" = some (some (.builtin "getset_descriptor.__get__"))
  htk : PySem.W.takesIn K (.builtin "object.__class__") = some true
  hm : PySem.W.mroIn K C (.type "object") = some true
theorem Kls.ty {K : PySem.W.Frag} {H : Hp} {C a dx : Addr} {fs : List (Str × V)} (k : Kls K C) (h : H a = some (.ins C dx fs)) : TyX K H (.ref a) (.ref C) := .base (.ins h k.cl k.ha k.hn k.htk k.hm)
theorem kit_self {K : PySem.W.Frag} {C : Addr} : PySem.W.kitOne K (.ref C) (.ref C) = some true := by
  unfold PySem.W.kitOne
  rw [if_pos (beq_self_eq_true _)]
/-- no instance of C -/
def NotC (K : PySem.W.Frag) (H : Hp) (C : Addr) (y : V) : Prop := ∃ tv, TyX K H y tv ∧ PySem.W.kitOne K tv (.ref C) = some false
/-- what isinstance(x, C) says of the plain kinds -/
structure PlainNot (K : PySem.W.Frag) (C : Addr) : Prop where
  k : ∀ tv ∈ (["int", "bool", "str", "NoneType", "list", "tuple"] : List String), PySem.W.kitOne K (.type tv) (.ref C) = some false ∧ PySem.W.notFirst K C (.type tv) = true
def plainNotB (K : PySem.W.Frag) (C : Addr) : Bool := (["int", "bool", "str", "NoneType", "list", "tuple"] : List String).all fun tv => decide (PySem.W.kitOne K (.type tv) (.ref C) = some false) && PySem.W.notFirst K C (.type tv)
theorem plainNotB_ok {K : PySem.W.Frag} {C : Addr} (h : plainNotB K C = true) : PlainNot K C := ⟨fun tv ht => by
  unfold plainNotB at h
  rw [List.all_eq_true] at h
  have := h tv ht
  simp only [Bool.and_eq_true, decide_eq_true_eq] at this
  exact this⟩
theorem PlainNot.of {K : PySem.W.Frag} {H : Hp} {C : Addr} {y : V} (p : PlainNot K C) (h : Thg H y) : NotC K H C y ∧ Side K H C y := by
  cases h with
  | non => exact ⟨⟨_, tyx_non, (p.k _ (by simp)).1⟩, .non (p.k _ (by simp)).2⟩
  | int i => exact ⟨⟨_, tyx_int, (p.k _ (by simp)).1⟩, .int _ (p.k _ (by simp)).2⟩
  | bl b => exact ⟨⟨_, tyx_bl, (p.k _ (by simp)).1⟩, .bl _ (p.k _ (by simp)).2⟩
  | str x => exact ⟨⟨_, tyx_str, (p.k _ (by simp)).1⟩, .str _ (p.k _ (by simp)).2⟩
  | lst e => exact ⟨⟨_, tyx_lst e, (p.k _ (by simp)).1⟩, .lst e (p.k _ (by simp)).2⟩
  | tup e => exact ⟨⟨_, tyx_tup e, (p.k _ (by simp)).1⟩, .tup e (p.k _ (by simp)).2⟩
theorem w_isiO {K : PySem.W.Frag} {H : Hp} {C : Addr} {y : V} {tv : Value} {k : Bool} {Q : VK} (h : TyX K H y tv) (hk : PySem.W.kitOne K tv (.ref C) = some k) (q : Q (.bl k) H) : rIsi K [y, .ref C] H Q := w_isi (.own C) h hk q
end Bw

namespace Bw
open PySem PySem.Spec PyProof.Rows L2 LamX
section
variable {K : PySem.W.Frag} {H : Hp} {Q : VK}
theorem dpAll_ix : ∀ {xs : List V} {ds : List PyData}, xs.length = ds.length → (∀ (i : Nat) x d, xs[i]? = some x → ds[i]? = some d → Dp K H x d) → DpAll K H xs ds
  | [], [], _, _ => .nil
  | [], _ :: _, h, _ => by cases h
  | _ :: _, [], h, _ => by cases h
  | x :: xs, d :: ds, h, k => .cons (k 0 x d rfl rfl) (dpAll_ix (by simpa using h) fun i y e h1 h2 => k (i + 1) y e h1 h2)
theorem w_rep {l : Addr} {xs : List V} {n : Int} (h : H l = some (.lst xs)) (h0 : -1000 ≤ n) (h1 : n ≤ 100000) (hl : xs.length * n.toNat ≤ 100000) (k : ∀ p H2, H p = none → Same H H2 → H2 p = some (.lst (List.replicate n.toNat xs).flatten) → Q (.ref p) H2) : rRep (.ref l) (.int n) H Q :=
  ⟨l, n, xs, rfl, rfl, h, by omega, by omega, Nat.le_trans hl (by decide), fun p np => k p _ np (same_new np) upd_same⟩
/-- a list is the empty one -/
theorem w_eqNil {x y : V} {ds : List PyData} {n : Nat} (hx : Dp K H x (.list ds)) (hy : Dp K H y (.list [])) (g : GoodD (.list ds) n) (hn : n ≤ 64) (q : Q (.bl ds.isEmpty) H) : rEqD K x y H Q := by
  refine w_eqD hx hy (g.shaped hn) (by simp [SeqAt.shaped, PyData.canLay0, PyData.canLayAll0, PyData.depth, PyData.depthAll]) (k := ds.isEmpty) ?_ q
  cases ds <;> simp [PyData.eqv, PyData.eqvAll]
theorem w_neNil {x y : V} {ds : List PyData} {n : Nat} (hx : Dp K H x (.list ds)) (hy : Dp K H y (.list [])) (g : GoodD (.list ds) n) (hn : n ≤ 64) (q : Q (.bl (!ds.isEmpty)) H) : rNeD K x y H Q := by
  refine w_neD hx hy (g.shaped hn) (by simp [SeqAt.shaped, PyData.canLay0, PyData.canLayAll0, PyData.depth, PyData.depthAll]) (k := ds.isEmpty) ?_ q
  cases ds <;> simp [PyData.eqv, PyData.eqvAll]
/-- a reading whose answer is known, what is behind it once -/
theorem w_val {te : TE} {σ : L2.St} {v : V} {H' : Hp} (h : ∀ Q' : VK, Q' v H' → te σ H Q') (k : Q v H') : te σ H Q := h Q k
theorem tyx_same {H' : Hp} {v : V} {t : Value} (h : TyX K H v t) (s : Same H H') : TyX K H' v t := by
  cases h with
  | base h =>
    refine .base ?_
    cases h with
    | non => exact .non
    | bl x => exact .bl x
    | int i => exact .int i
    | str x => exact .str x
    | flt x => exact .flt x
    | lst e => exact .lst (s _ _ e)
    | frz e => exact .frz (s _ _ e)
    | tup e => exact .tup (s _ _ e)
    | dK e => exact .dK (s _ _ e)
    | dT e => exact .dT (s _ _ e)
    | ins e cl ha hn htk hm => exact .ins (s _ _ e) cl ha hn htk hm
  | byt b => exact .byt b
  | set e => exact .set (s _ _ e)
  | kList e c => exact .kList e c
  | kTuple e c => exact .kTuple e c
  | kDict e c => exact .kDict e c
  | fTuple e => exact .fTuple (s _ _ e)
  | fDict e => exact .fDict (s _ _ e)
end
end Bw

/-! len, str, repr by own methods -/
namespace Bw
open PySem PySem.Spec PyProof.Rows L2 LamX
/-- a class's own special method m -/
structure Spc (P : Program) (w : World) (K : PySem.W.Frag) (mg : Str → Option Value) (base : Heap) (C : Addr) (m : Str) (k : Nat) (ps : List Str) (sp : Sp) : Prop where
  ex : ∃ (f : Addr) (fd : FuncData), FnOk P w K mg base CX0 k f fd ps sp ∧ PySem.W.findIn K (.ref C) m = some (some (.ref f)) ∧ PySem.W.isFn K (.ref f) = true ∧ Binds K fd ps []
section
variable {X : Cx}
theorem run_spc {k : Nat} {f : Addr} {fd : FuncData} {ps : List Str} {sp : Sp} {A : Around} {pins : List (Addr × Obj)} {σ : L2.St} {H : Hp} {s : Shared} {a : Addr} {Q : VK} (F : FnOk X.prog X.w X.K X.mg X.base CX0 k f fd ps sp) (hb : Binds X.K fd ps []) (sb : Sub X k A) (I : L2.Inv X pins σ H s) (h : sp [.ref a] H Q C8.E0) :
    wpAny (model X.prog X.w) A (call (.ref f) [.ref a]) (EP X pins σ Q) X.xe s := by
  have e0 : Env0 X.prog X.w X.K X.mg X.base A X.stack s H := by
    have e := I.env0
    exact ⟨by rw [sb.fr]; exact e.frames, e.mod, e.bs, e.bsz, e.funs, e.frf, e.hok, e.bare⟩
  have hl := F.len _ _ _ _ h
  have r2 : Vals [V.ref a] [Value.ref a] := .cons rfl .nil
  refine wpAny_call (codeAny_mono (F.run A X.stack s H ⟨[.ref a], []⟩ [.ref a] [.ref a] _ _ sb.room e0 (by
    have := hb s [.ref a] I.kIn (by simpa using hl)
    simpa using this) r2 h) fun r s' hq => ?_)
  cases r with
  | error e => exact pass0 pins σ H s e s' I hq
  | ok fl =>
    cases fl with
    | ret w => exact I.after hq
    | next => exact False.elim hq
    | brk => exact False.elim hq
    | cont => exact False.elim hq
/-- len(o) -/
def rLenO (C : Addr) (sp : Sp) : List V → Hp → VK → Prop := fun xs H Q => ∃ a dx fs, xs = [.ref a] ∧ H a = some (.ins C dx fs) ∧ sp [.ref a] H (fun v H' => ∃ n : Nat, v = .int n ∧ n < 2 ^ 63 ∧ Q (.int n) H') C8.E0
theorem cl_lenO {C : Addr} {k : Nat} {ps : List Str} {sp : Sp} (O : Spc X.prog X.w X.K X.mg X.base C "__len__" k ps sp) (hr : Room (k + 1) X.A) : CallR X (.builtin "len") (rLenO C sp) := by
  intro pins s σ H xs us Q I rv h
  obtain ⟨a, dx, fs, rfl, ha, hsp⟩ := h
  obtain ⟨f, fd, F, hs, hf, hb⟩ := O.ex
  cases rv with
  | cons r0 rt =>
    cases rt
    cases r0
    obtain ⟨mA, J, _⟩ := ins_get I.hok ha
    obtain ⟨od, J, _⟩ := J.look
    obtain ⟨m, hF⟩ := I.fr
    refine PySem.W.len_K hF I.ok.mod.kin J hs hf (wpAny_mono (run_spc F hb (Sub.in1 ⟨hr, rfl⟩) I hsp) (fun u s' hq => ?_) fun _ _ e => e)
    obtain ⟨v, H', I', rz, n, rfl, hn, q⟩ := hq
    obtain ⟨t, rfl⟩ := rz
    exact ⟨⟨by omega, by omega⟩, .int n, H', I'.tok _, ⟨_, rfl⟩, q⟩
/-- repr(o), str(o) -/
def rTxtO (C : Addr) (sp : Sp) : List V → Hp → VK → Prop := fun xs H Q => ∃ a dx fs, xs = [.ref a] ∧ H a = some (.ins C dx fs) ∧ sp [.ref a] H (fun v H' => ∃ x : Str, v = .str x ∧ Q (.str x) H') C8.E0
theorem cl_reprO {C : Addr} {k : Nat} {ps : List Str} {sp : Sp} (O : Spc X.prog X.w X.K X.mg X.base C "__repr__" k ps sp) (hr : Room (k + 1) X.A) : CallR X (.builtin "repr") (rTxtO C sp) := by
  intro pins s σ H xs us Q I rv h
  obtain ⟨a, dx, fs, rfl, ha, hsp⟩ := h
  obtain ⟨f, fd, F, hs, hf, hb⟩ := O.ex
  cases rv with
  | cons r0 rt =>
    cases rt
    cases r0
    obtain ⟨mA, J, _⟩ := ins_get I.hok ha
    obtain ⟨od, J, _⟩ := J.look
    obtain ⟨m, hF⟩ := I.fr
    refine PySem.W.repr_K (Sub.in1 (X := X) ⟨hr, rfl⟩).room.units0 hF I.ok.mod.kin J hs hf (wpAny_mono (run_spc F hb (Sub.in1 ⟨hr, rfl⟩) I hsp) (fun u s' hq => ?_) fun _ _ e => e)
    obtain ⟨v, H', I', rz, x, rfl, q⟩ := hq
    obtain ⟨t, rfl⟩ := rz
    exact ⟨.str x, H', I', ⟨_, rfl⟩, q⟩
theorem cl_strO {C : Addr} {k : Nat} {ps : List Str} {sp : Sp} (O : Spc X.prog X.w X.K X.mg X.base C "__str__" k ps sp) (hr : Room (k + 2) X.A) : CallR X (.type "str") (rTxtO C sp) := by
  intro pins s σ H xs us Q I rv h
  obtain ⟨a, dx, fs, rfl, ha, hsp⟩ := h
  obtain ⟨f, fd, F, hs, hf, hb⟩ := O.ex
  cases rv with
  | cons r0 rt =>
    cases rt
    cases r0
    obtain ⟨mA, J, _⟩ := ins_get I.hok ha
    obtain ⟨od, J, _⟩ := J.look
    have sb : Sub X k X.A.in1.in1 := Sub.in1 (Sub.in1 ⟨hr, rfl⟩)
    refine PySem.W.kso_call sb.room.units0 I.kIn J hs hf (wpAny_mono (run_spc F hb sb I hsp) (fun u s' hq => ?_) fun _ _ e => e)
    obtain ⟨v, H', I', rz, x, rfl, q⟩ := hq
    obtain ⟨t, rfl⟩ := rz
    exact ⟨.str x, H', I', ⟨_, rfl⟩, q⟩
/-- either reading of a call -/
def rOrC (r r' : List V → Hp → VK → Prop) : List V → Hp → VK → Prop := fun xs H Q => r xs H Q ∨ r' xs H Q
theorem cl_or {f : Value} {r r' : List V → Hp → VK → Prop} (h : CallR X f r) (h' : CallR X f r') : CallR X f (rOrC r r') := fun pins s σ H xs us Q I rv q =>
  q.elim (h pins s σ H xs us Q I rv) (h' pins s σ H xs us Q I rv)
def tJoin (ts : List TE) : TE := fun σ H Q => tJs ts Str.empty σ H fun out H1 => Q (.str out) H1
theorem pe_fj {v1 v2 : Expr} {rest : List Expr} {ts : List TE} {pos : Pos} (h : PJ X (v1 :: v2 :: rest) ts) : PE X (.JoinedStr (v1 :: v2 :: rest) pos) (tJoin ts) := pe_joined h
end
theorem u1_of {k : Nat} {A : Around} (r : Room k A) : A.units + 1 < cLine := by have := r.un; omega
section
variable {σ : L2.St} {H : Hp} {Q : VK} {te : TE}
theorem w_lenO {C a dx : Addr} {fs : List (Str × V)} {sp : Sp} (h : H a = some (.ins C dx fs)) (k : sp [.ref a] H (fun v H' => ∃ n : Nat, v = .int n ∧ n < 2 ^ 63 ∧ Q (.int n) H') C8.E0) : rLenO C sp [.ref a] H Q := ⟨a, dx, fs, rfl, h, k⟩
theorem w_txtO {C a dx : Addr} {fs : List (Str × V)} {sp : Sp} (h : H a = some (.ins C dx fs)) (k : sp [.ref a] H (fun v H' => ∃ x : Str, v = .str x ∧ Q (.str x) H') C8.E0) : rTxtO C sp [.ref a] H Q := ⟨a, dx, fs, rfl, h, k⟩
theorem w_fmtE (h : te σ H fun x H1 => (∃ y : Str, x = .str y ∧ y.length ≤ sizeLine ∧ Q (.str y) H1) ∨ ∃ i : Int, x = .int i ∧ i.natAbs.log2 < 1920 ∧ Q (.str (toString i)) H1) : tFmt te σ H Q := h
theorem w_fmtS {y : Str} {R : V → Prop} (hl : y.length ≤ sizeLine) (q : R (.str y)) : (∃ z : Str, V.str y = .str z ∧ z.length ≤ sizeLine ∧ R (.str z)) ∨ ∃ i : Int, V.str y = .int i ∧ i.natAbs.log2 < 1920 ∧ R (.str (toString i)) := .inl ⟨y, rfl, hl, q⟩
theorem w_fmtI {i : Int} {R : V → Prop} (h : i.natAbs < 2 ^ 1919) (q : R (.str (toString i))) : (∃ z : Str, V.int i = .str z ∧ z.length ≤ sizeLine ∧ R (.str z)) ∨ ∃ j : Int, V.int i = .int j ∧ j.natAbs.log2 < 1920 ∧ R (.str (toString j)) :=
  .inr ⟨i, rfl, PySem.Flt.log2_lt_of (by decide) (Nat.lt_of_lt_of_le h (Nat.pow_le_pow_right (by decide) (by decide))), q⟩
theorem w_fmtRE (h : te σ H fun x H1 => (∃ y : Str, x = .str y ∧ (reprText y).length ≤ sizeLine ∧ Q (.str (reprText y)) H1) ∨ ∃ i : Int, x = .int i ∧ i.natAbs.log2 < 1920 ∧ Q (.str (toString i)) H1) : tFmtR te σ H Q := h
theorem w_isB {a b : Bool} (q : Q (.bl (decide (a = b))) H) : rIsB (.bl a) (.bl b) H Q := ⟨a, b, rfl, rfl, q⟩
theorem w_isnB {a b : Bool} (q : Q (.bl (!decide (a = b))) H) : rNotB (.bl a) (.bl b) H Q := ⟨a, b, rfl, rfl, q⟩
theorem w_dget2 {td ty tx : TE} (h : td σ H fun x H1 => ∃ a, x = .ref a ∧ IsD H1 a ∧ ty σ H1 fun y H2 => tx σ H2 fun z H3 => ∃ o, DGet H3 a y o ∧ Q (o.getD z) H3) : tDGet2 td ty tx σ H Q := h
theorem w_dgetK {a : Addr} {kvs : List (Key × V)} {k : Key} {y z : V} {R : V → Prop} (h : H a = some (.dK kvs)) (hy : y = kV k) (q : R ((valV kvs k).getD z)) : ∃ o, DGet H a y o ∧ R (o.getD z) := ⟨valV kvs k, .inl ⟨kvs, k, .inl h, hy, rfl⟩, q⟩
theorem w_joinE {ts : List TE} (h : tJs ts Str.empty σ H fun out H1 => Q (.str out) H1) : tJoin ts σ H Q := h
theorem w_js {t : TE} {ts : List TE} {acc : Str} {QS : Str → Hp → Prop} (h : t σ H fun x H1 => ∃ y : Str, x = .str y ∧ (acc ++ y).length ≤ sizeLine ∧ tJs ts (acc ++ y) σ H1 QS) : tJs (t :: ts) acc σ H QS := h
theorem w_jn {acc : Str} {QS : Str → Hp → Prop} (h : QS acc H) : tJs [] acc σ H QS := h
theorem w_jt {acc y : Str} {R : Str → Prop} (hl : acc.length + y.length ≤ sizeLine) (h : R y) : ∃ z : Str, V.str y = .str z ∧ (acc ++ z).length ≤ sizeLine ∧ R z := ⟨y, rfl, by rw [Str.length_append]; exact hl, h⟩
end
end Bw

/-! words and texts of words, plainly -/
namespace Bw
open PySem PySem.Spec PyProof.Rows L2 LamX
def abc : Str := "abcdefghijklmnopqrstuvwxyz"
def isW (x : Str) : Bool := decide (1 ≤ x.length ∧ x.length ≤ 12) && x.cps.toList.all fun c => decide (c ∈ abc.cps.toList)
def isWV : V → Bool
  | .str x => isW x
  | _ => false
def okWs (ws : List Str) : Bool := decide (ws.length ≤ 120) && ws.all isW
def okVs (xs : List V) : Bool := decide (xs.length ≤ 120) && xs.all isWV
theorem okVs_str (ws : List Str) : okVs (ws.map V.str) = okWs ws := by
  unfold okVs okWs
  rw [List.length_map, List.all_map]
  rfl
theorem strs_of : ∀ {xs : List V}, xs.all isWV = true → ∃ ws : List Str, xs = ws.map V.str
  | [], _ => ⟨[], rfl⟩
  | x :: r, h => by
    rw [List.all_cons, Bool.and_eq_true] at h
    obtain ⟨ws, rfl⟩ := strs_of h.2
    cases x with
    | str y => exact ⟨y :: ws, rfl⟩
    | _ => exact absurd h.1 (by unfold isWV; exact Bool.noConfusion)
theorem okVs_of {xs : List V} (h : okVs xs = true) : ∃ ws : List Str, xs = ws.map V.str ∧ okWs ws = true := by
  have h2 := h
  unfold okVs at h2
  rw [Bool.and_eq_true] at h2
  obtain ⟨ws, rfl⟩ := strs_of h2.2
  exact ⟨ws, rfl, (okVs_str ws) ▸ h⟩
def wsOf (x : Str) : List Str := if x = "" then [] else Txt.split x " "
theorem split_bounds (x : Str) (h : x.length ≤ 40000) : (wsOf x).length ≤ 50000 ∧ ∀ y ∈ wsOf x, y.length ≤ 100000 := by
  unfold wsOf
  split
  · simp
  · have h1 := PyProof.Rows.split_weight x " " (Nat.le_refl 1)
    refine ⟨by omega, fun y hy => ?_⟩
    have h2 := le_sum (List.mem_map.mpr ⟨y, hy, rfl⟩ : y.length ∈ (Txt.split x " ").map (·.length))
    omega
theorem txtv_strs {H : Hp} {ws : List Str} (h : ∀ y ∈ ws, y.length ≤ 100000) : ∀ x ∈ ws.map V.str, TxtV H x := fun x hx => by
  obtain ⟨y, hy, rfl⟩ := List.mem_map.mp hx
  exact .inl ⟨y, rfl, h y hy⟩
theorem isW_len {x : Str} (h : isW x = true) : x.length ≤ 12 := by
  unfold isW at h
  simp only [Bool.and_eq_true, decide_eq_true_eq] at h
  exact h.1.2
theorem ok_bounds {ws : List Str} (h : okWs ws = true) : ws.length ≤ 120 ∧ (∀ y ∈ ws, y.length ≤ 12) ∧ (ws.map (·.length)).sum ≤ 1440 := by
  unfold okWs at h
  simp only [Bool.and_eq_true, decide_eq_true_eq, List.all_eq_true] at h
  have h2 : ∀ y ∈ ws, y.length ≤ 12 := fun y hy => isW_len (h.2 y hy)
  refine ⟨h.1, h2, ?_⟩
  have h3 := sum_le (l := ws.map (·.length)) (c := 12) (fun x hx => by
    obtain ⟨y, hy, rfl⟩ := List.mem_map.mp hx
    exact h2 y hy)
  rw [List.length_map] at h3
  omega
theorem isW_strOk {x : Str} (h : isW x = true) : PyData.strOk x = true := by
  unfold isW at h
  simp only [Bool.and_eq_true, decide_eq_true_eq, List.all_eq_true] at h
  unfold PyData.strOk
  rw [Array.all_eq_true']
  intro c hc
  have h1 := h.2 c (Array.mem_toList_iff.mpr hc)
  have h2 : ∀ c ∈ abc.cps.toList, c < 0x110000 := by decide +kernel
  exact decide_eq_true (h2 c h1)
theorem okWs_all {ws : List Str} (h : okWs ws = true) : ∀ b ∈ ws, isW b = true := by
  unfold okWs at h
  simp only [Bool.and_eq_true, decide_eq_true_eq, List.all_eq_true] at h
  exact h.2
theorem ok_strs {ws : List Str} (h : okWs ws = true) : ∀ b ∈ ws, PyData.strOk b = true := fun b hb => isW_strOk (okWs_all h b hb)
theorem join_ws (x : Str) : Txt.join " " (wsOf x) = x := by
  unfold wsOf
  split
  · rename_i h
    rw [h]
    rfl
  · rw [txt_join]
    exact StrLaws.join_split x " "
theorem join_ne {ws : List Str} (h : ∀ b ∈ ws, isW b = true) (hn : ws ≠ []) : Txt.join " " ws ≠ "" := by
  intro e
  rw [txt_join] at e
  cases ws with
  | nil => exact hn rfl
  | cons b r =>
    have h1 := PyProof.Rows.len_join_cons " " b r
    rw [e] at h1
    have h2 := h b List.mem_cons_self
    unfold isW at h2
    simp only [Bool.and_eq_true, decide_eq_true_eq] at h2
    have h3 : ("" : Str).length = 0 := rfl
    rw [h3] at h1
    simp only [List.map_cons, List.sum_cons] at h1
    omega
theorem ws_join {ws : List Str} (h : ∀ b ∈ ws, isW b = true) : wsOf (Txt.join " " ws) = ws := by
  unfold wsOf
  cases hw : ws with
  | nil => rfl
  | cons b r =>
    rw [← hw, if_neg (join_ne h (by rw [hw]; simp))]
    refine TL.split_join (s := 32) (S := []) rfl (by decide +kernel) (by rw [hw]; simp) (fun p hp z => ?_)
    have h2 := h p hp
    unfold isW at h2
    simp only [Bool.and_eq_true, decide_eq_true_eq, List.all_eq_true] at h2
    have h3 := h2.2 32 z
    revert h3
    decide +kernel
theorem isW_signs {x : Str} (h : isW x = true) : ∀ c ∈ x.cps.toList, 97 ≤ c ∧ c ≤ 122 := by
  unfold isW at h
  simp only [Bool.and_eq_true, decide_eq_true_eq, List.all_eq_true] at h
  have key : ∀ c ∈ abc.cps.toList, 97 ≤ c ∧ c ≤ 122 := by decide +kernel
  exact fun c hc => key c (h.2 c hc)
/-- the places of a word -/
def plc (ws : List Str) (w : Str) : List Nat := (List.range ws.length).filter fun i => decide (ws[i]? = some w)
theorem plc_snoc (ws : List Str) (u w : Str) : plc (ws ++ [u]) w = plc ws w ++ (if u = w then [ws.length] else []) := by
  unfold plc
  rw [List.length_append, List.length_singleton, List.range_succ, List.filter_append]
  congr 1
  · refine List.filter_congr fun i hi => ?_
    rw [List.mem_range] at hi
    rw [List.getElem?_append_left hi]
  · rw [List.filter_cons, List.filter_nil, List.getElem?_append_right (Nat.le_refl _), Nat.sub_self]
    by_cases h : u = w
    · simp [h]
    · simp [h]
theorem plc_nil (w : Str) : plc [] w = [] := rfl
theorem plc_len (ws : List Str) (w : Str) : (plc ws w).length ≤ ws.length := by
  have := List.length_filter_le (fun i => decide (ws[i]? = some w)) (List.range ws.length)
  rwa [List.length_range] at this
theorem plc_none {ws : List Str} {w : Str} (h : w ∉ ws) : plc ws w = [] := by
  unfold plc
  rw [List.filter_eq_nil_iff]
  intro i _ hi
  exact h (List.mem_of_getElem? (of_decide_eq_true hi))
/-- repr of a text of letters and blanks -/
theorem repr_plain {x : Str} (h : ∀ c ∈ x.cps.toList, c = 32 ∨ (97 ≤ c ∧ c ≤ 122)) : reprText x = S (39 :: (x.cps.toList ++ [39])) := by
  have hq : PySem.reprQuote x = 39 := by
    have h39 : ¬ 39 ∈ x.cps.toList := fun z => by
      have := h 39 z
      omega
    have : x.cps.contains 39 = false := by
      rw [Bool.eq_false_iff]
      intro z
      exact h39 (by simpa using z)
    unfold PySem.reprQuote
    rw [this]
    rfl
  have hc : ∀ c ∈ x.cps.toList, Builtin.Str.reprChar 39 c = [c] := by
    have key : ∀ c, c < 128 → (c = 32 ∨ (97 ≤ c ∧ c ≤ 122)) → Builtin.Str.reprChar 39 c = [c] := by decide +kernel
    intro c hc
    have := h c hc
    exact key c (by omega) this
  refine str_ext ?_
  unfold reprText
  rw [hq]
  show ((x.cps.foldl (fun out c => out ++ (Builtin.Str.reprChar 39 c).toArray) #[39]).push 39).toList = _
  rw [Array.toList_push, ← Array.foldl_toList]
  have key : ∀ (l : List Nat) (acc : Array Nat), (∀ c ∈ l, Builtin.Str.reprChar 39 c = [c]) → (l.foldl (fun out c => out ++ (Builtin.Str.reprChar 39 c).toArray) acc).toList = acc.toList ++ l := by
    intro l
    induction l with
    | nil => intro acc _; simp
    | cons c r ih =>
      intro acc hl
      rw [List.foldl_cons, ih _ (fun d hd => hl d (List.mem_cons_of_mem _ hd)), hl c List.mem_cons_self]
      simp
  rw [key _ _ hc]
  rfl
theorem join_signs {ws : List Str} (h : ∀ b ∈ ws, isW b = true) : ∀ c ∈ (Txt.join " " ws).cps.toList, c = 32 ∨ (97 ≤ c ∧ c ≤ 122) := by
  rw [txt_join]
  induction ws with
  | nil => intro c hc; exact absurd hc (by show ¬ c ∈ ([] : List Nat); simp)
  | cons b r ih =>
    cases r with
    | nil =>
      intro c hc
      exact .inr (isW_signs (h b List.mem_cons_self) c hc)
    | cons d r =>
      intro c hc
      have e : Str.join (" " : Str) (b :: d :: r) = b ++ (" " : Str) ++ Str.join (" " : Str) (d :: r) := rfl
      rw [e, cps_append, cps_append] at hc
      rcases List.mem_append.mp hc with hc | hc
      · rcases List.mem_append.mp hc with hc | hc
        · exact .inr (isW_signs (h b List.mem_cons_self) c hc)
        · left
          have : c ∈ ([32] : List Nat) := hc
          simpa using this
      · exact ih (fun x hx => h x (List.mem_cons_of_mem _ hx)) c hc
theorem join_len {ws : List Str} (h : ∀ b ∈ ws, isW b = true) : (Txt.join " " ws).length ≤ ws.length * 13 := by
  have hsum := sum_le (l := ws.map (·.length)) (c := 12) (fun x hx => by
    obtain ⟨y, hy, rfl⟩ := List.mem_map.mp hx
    exact isW_len (h y hy))
  rw [List.length_map] at hsum
  rw [txt_join]
  cases hys : ws with
  | nil => decide +kernel
  | cons y rr =>
    have h1s : (" " : Str).length = 1 := rfl
    rw [PyProof.Rows.len_join_cons, h1s, ← hys]
    have : ws.length = rr.length + 1 := by rw [hys]; rfl
    omega
end Bw

namespace Bw
open PySem PySem.Spec PyProof.Rows L2 LamX
/-! ### comprehensions with two fors -/
def NxJ (D : Addr) (i : Nat) (Iv : Nat → List V → Hp → Prop) : Hp → Prop := fun H' => ∃ acc', H' D = some (.lst acc') ∧ Iv (i + 1) acc' H'
theorem w_accJ {D : Addr} {i : Nat} {Iv : Nat → List V → Hp → Prop} {acc : List V} {y : V} {H4 : Hp} (hD : H4 D = some (.lst acc)) (hn : acc.length ≤ 100000) (k : ∀ H5, KB D H4 H5 → H5 D = some (.lst (acc ++ [y])) → Iv (i + 1) (acc ++ [y]) H5) :
    ∃ acc, H4 D = some (.lst acc) ∧ acc.length < sizeLine ∧ NxJ D i Iv (upd H4 D (.lst (acc ++ [y]))) := ⟨acc, hD, Nat.lt_of_le_of_lt hn (by decide), acc ++ [y], upd_same, k _ kb_upd upd_same⟩
theorem in_fin {J : It} {n : Nat} {ok : Hp → Prop} {it : Nat → V → Hp → Hp → Prop} {g : TG} {tt : TT} {te : TE} {vs : List Nat} {σ : L2.St} {H1 : Hp} {D : Addr} {Nx : Hp → Prop} (F : Fini J n ok it) (Jv : Nat → List V → Hp → Prop)
    (h0 : ∃ acc, H1 D = some (.lst acc) ∧ Jv 0 acc H1) (hl : ∀ i acc H, i ≤ n → Jv i acc H → ok H)
    (hs : ∀ i x acc H H', i < n → Jv i acc H → H D = some (.lst acc) → it i x H H' → g x (wipe σ vs) H' fun σ2 H2 => wipe σ2 vs = wipe σ vs ∧ tt σ2 H2 fun b H3 =>
      if b = true then te σ2 H3 fun y H4 => ∃ acc, H4 D = some (.lst acc) ∧ acc.length < sizeLine ∧ NxJ D i Jv (upd H4 D (.lst (acc ++ [y]))) else NxJ D i Jv H3)
    (hd : ∀ acc H, Jv n acc H → H D = some (.lst acc) → Nx H) :
    ∃ W1 : Nat → Nat → Hp → Prop, (∃ m, W1 0 m H1) ∧ ∀ j k H, W1 j k H →
      (J.stop j H ∧ Nx H) ∨ (J.go j H ∧ ∃ Nx1 : Hp → Prop, (∀ H', Nx1 H' → ∃ k', k' < k ∧ W1 (j + 1) k' H') ∧ ∀ x H', J.yld j H x H' → g x (wipe σ vs) H' fun σ3 H5 => wipe σ3 vs = wipe σ vs ∧ tt σ3 H5 fun b H6 =>
        if b = true then te σ3 H6 fun y H7 => ∃ acc, H7 D = some (.lst acc) ∧ acc.length < sizeLine ∧ Nx1 (upd H7 D (.lst (acc ++ [y]))) else Nx1 H6) := by
  obtain ⟨acc0, e0, i0⟩ := h0
  refine ⟨fun i m H => m = n - i ∧ i ≤ n ∧ ∃ acc, H D = some (.lst acc) ∧ Jv i acc H, ⟨n, by simp, Nat.zero_le _, acc0, e0, i0⟩, ?_⟩
  rintro i m H ⟨rfl, hi, acc, hD, p⟩
  have o := hl i acc H hi p
  rcases Nat.lt_or_ge i n with hlt | hge
  · exact .inr ⟨F.go i H hlt o, NxJ D i Jv, fun H' p' => ⟨n - (i + 1), by omega, rfl, hlt, p'⟩, fun x H' y => hs i x acc H H' hlt p hD (F.yl i H x H' hlt o y)⟩
  · obtain rfl : i = n := Nat.le_antisymm hi hge
    exact .inl ⟨F.st H o, hd acc H p hD⟩
theorem lc2_fin {J : It} {n : Nat} {ok : Hp → Prop} {it : Nat → V → Hp → Hp → Prop} {wi1 : TI} {g g1 : TG} {tt tt1 : TT} {te : TE} {vs vs1 : List Nat} {σ : L2.St} {H1 : Hp} {Qd : Addr → Hp → Prop} (F : Fini J n ok it) (Iv : Nat → List V → Hp → Prop)
    (h0 : ∀ D H2, H1 D = none → Same H1 H2 → H2 D = some (.lst []) → Iv 0 [] H2) (hl : ∀ i acc H, i ≤ n → Iv i acc H → ok H)
    (hs : ∀ D i x acc H H', H1 D = none → i < n → Iv i acc H → H D = some (.lst acc) → it i x H H' → g x (wipe σ vs) H' fun σ2 H2 => wipe σ2 vs = wipe σ vs ∧ tt σ2 H2 fun b H3 =>
      if b = true then wi1 σ2 H3 fun J1 H4 => ∃ W1 : Nat → Nat → Hp → Prop, (∃ m, W1 0 m H4) ∧ ∀ j k H, W1 j k H →
        (J1.stop j H ∧ NxJ D i Iv H) ∨ (J1.go j H ∧ ∃ Nx1 : Hp → Prop, (∀ H', Nx1 H' → ∃ k', k' < k ∧ W1 (j + 1) k' H') ∧ ∀ x H', J1.yld j H x H' → g1 x (wipe σ2 vs1) H' fun σ3 H5 => wipe σ3 vs1 = wipe σ2 vs1 ∧ tt1 σ3 H5 fun b H6 =>
          if b = true then te σ3 H6 fun y H7 => ∃ acc, H7 D = some (.lst acc) ∧ acc.length < sizeLine ∧ Nx1 (upd H7 D (.lst (acc ++ [y]))) else Nx1 H6)
      else NxJ D i Iv H3)
    (hd : ∀ D acc H, H1 D = none → Iv n acc H → H D = some (.lst acc) → Qd D H) :
    ∀ D, H1 D = none → ∃ W : Nat → Nat → Hp → Prop, (∃ m, W 0 m (upd H1 D (.lst []))) ∧ ∀ i m H, W i m H →
      (J.stop i H ∧ Qd D H) ∨ (J.go i H ∧ ∃ Nx : Hp → Prop, (∀ H', Nx H' → ∃ m', m' < m ∧ W (i + 1) m' H') ∧ ∀ x H', J.yld i H x H' → g x (wipe σ vs) H' fun σ2 H2 => wipe σ2 vs = wipe σ vs ∧ tt σ2 H2 fun b H3 =>
        if b = true then wi1 σ2 H3 fun J1 H4 => ∃ W1 : Nat → Nat → Hp → Prop, (∃ m, W1 0 m H4) ∧ ∀ j k H, W1 j k H →
          (J1.stop j H ∧ Nx H) ∨ (J1.go j H ∧ ∃ Nx1 : Hp → Prop, (∀ H', Nx1 H' → ∃ k', k' < k ∧ W1 (j + 1) k' H') ∧ ∀ x H', J1.yld j H x H' → g1 x (wipe σ2 vs1) H' fun σ3 H5 => wipe σ3 vs1 = wipe σ2 vs1 ∧ tt1 σ3 H5 fun b H6 =>
            if b = true then te σ3 H6 fun y H7 => ∃ acc, H7 D = some (.lst acc) ∧ acc.length < sizeLine ∧ Nx1 (upd H7 D (.lst (acc ++ [y]))) else Nx1 H6)
        else Nx H3) := by
  intro D nD
  refine ⟨fun i m H => m = n - i ∧ i ≤ n ∧ ∃ acc, H D = some (.lst acc) ∧ Iv i acc H, ⟨n, by simp, Nat.zero_le _, [], upd_same, h0 D _ nD (same_new nD) upd_same⟩, ?_⟩
  rintro i m H ⟨rfl, hi, acc, hD, p⟩
  have o := hl i acc H hi p
  rcases Nat.lt_or_ge i n with hlt | hge
  · exact .inr ⟨F.go i H hlt o, NxJ D i Iv, fun H' p' => ⟨n - (i + 1), by omega, rfl, hlt, p'⟩, fun x H' y => hs D i x acc H H' nD hlt p hD (F.yl i H x H' hlt o y)⟩
  · obtain rfl : i = n := Nat.le_antisymm hi hge
    exact .inl ⟨F.st H o, hd D acc H nD p hD⟩
theorem w_lc2E {wi wi1 : TI} {g g1 : TG} {tt tt1 : TT} {te : TE} {vs vs1 : List Nat} {σ : L2.St} {H : Hp} {Q : VK} (h : wi σ H fun J H1 => ∀ D, H1 D = none → ∃ W : Nat → Nat → Hp → Prop, (∃ m, W 0 m (upd H1 D (.lst []))) ∧ ∀ i m H, W i m H →
  (J.stop i H ∧ Q (.ref D) H) ∨ (J.go i H ∧ ∃ Nx : Hp → Prop, (∀ H', Nx H' → ∃ m', m' < m ∧ W (i + 1) m' H') ∧ ∀ x H', J.yld i H x H' → g x (wipe σ vs) H' fun σ2 H2 => wipe σ2 vs = wipe σ vs ∧ tt σ2 H2 fun b H3 =>
    if b = true then wi1 σ2 H3 fun J1 H4 => ∃ W1 : Nat → Nat → Hp → Prop, (∃ m, W1 0 m H4) ∧ ∀ j k H, W1 j k H →
      (J1.stop j H ∧ Nx H) ∨ (J1.go j H ∧ ∃ Nx1 : Hp → Prop, (∀ H', Nx1 H' → ∃ k', k' < k ∧ W1 (j + 1) k' H') ∧ ∀ x H', J1.yld j H x H' → g1 x (wipe σ2 vs1) H' fun σ3 H5 => wipe σ3 vs1 = wipe σ2 vs1 ∧ tt1 σ3 H5 fun b H6 =>
        if b = true then te σ3 H6 fun y H7 => ∃ acc, H7 D = some (.lst acc) ∧ acc.length < sizeLine ∧ Nx1 (upd H7 D (.lst (acc ++ [y]))) else Nx1 H6)
    else Nx H3)) : tLc2 wi g tt wi1 g1 tt1 te vs vs1 σ H Q := h
/-! ### data as it stands on the heap -/
mutual
inductive Rp (H : Hp) : V → PyData → Prop
  | non : Rp H .non .none
  | bl (b : Bool) : Rp H (.bl b) (.bool b)
  | int (i : Int) : Rp H (.int i) (.int i)
  | str (x : Str) : Rp H (.str x) (.str x)
  | lst {a : Addr} {xs : List V} {ds : List PyData} : H a = some (.lst xs) → RpAll H xs ds → Rp H (.ref a) (.list ds)
  | tup {a : Addr} {xs : List V} {ds : List PyData} : H a = some (.tup xs) → RpAll H xs ds → Rp H (.ref a) (.tuple ds)
inductive RpAll (H : Hp) : List V → List PyData → Prop
  | nil : RpAll H [] []
  | cons {v : V} {d : PyData} {vs : List V} {ds : List PyData} : Rp H v d → RpAll H vs ds → RpAll H (v :: vs) (d :: ds)
end
section
variable {K : PySem.W.Frag} {H H' : Hp}
mutual
theorem Rp.dp : ∀ {v : V} {d : PyData}, Rp H v d → Dp K H v d
  | _, _, .non => .non
  | _, _, .bl b => .bl b
  | _, _, .int i => .int i
  | _, _, .str x => .str x
  | _, _, .lst h r => .lst (.of h) (RpAll.dp r)
  | _, _, .tup h r => .tup (.of h) (RpAll.dp r)
theorem RpAll.dp : ∀ {vs : List V} {ds : List PyData}, RpAll H vs ds → DpAll K H vs ds
  | _, _, .nil => .nil
  | _, _, .cons h r => .cons (Rp.dp h) (RpAll.dp r)
end
mutual
theorem Rp.same (s : Same H H') : ∀ {v : V} {d : PyData}, Rp H v d → Rp H' v d
  | _, _, .non => .non
  | _, _, .bl b => .bl b
  | _, _, .int i => .int i
  | _, _, .str x => .str x
  | _, _, .lst h r => .lst (s _ _ h) (RpAll.same s r)
  | _, _, .tup h r => .tup (s _ _ h) (RpAll.same s r)
theorem RpAll.same (s : Same H H') : ∀ {vs : List V} {ds : List PyData}, RpAll H vs ds → RpAll H' vs ds
  | _, _, .nil => .nil
  | _, _, .cons h r => .cons (Rp.same s h) (RpAll.same s r)
end
/-- tuples stay -/
def TupK (H H' : Hp) : Prop := ∀ a xs, H a = some (.tup xs) → H' a = some (.tup xs)
theorem TupK.of (s : Same H H') : TupK H H' := fun _ _ h => s _ _ h
theorem TupK.kb {p : Addr} {xs : List V} (k : KB p H H') (hp : H p = some (.lst xs)) : TupK H H' := fun a ys h => k _ _ h (fun z => by rw [z, hp] at h; cases h)
theorem TupK.trans {H2 : Hp} (a : TupK H H') (b : TupK H' H2) : TupK H H2 := fun _ _ h => b _ _ (a _ _ h)
mutual
def noL : PyData → Bool
  | .list _ => false
  | .tuple ds => noLs ds
  | _ => true
def noLs : List PyData → Bool
  | [] => true
  | d :: r => noL d && noLs r
end
mutual
theorem Rp.tupk (t : TupK H H') : ∀ {v : V} {d : PyData}, Rp H v d → noL d = true → Rp H' v d
  | _, _, .non, _ => .non
  | _, _, .bl b, _ => .bl b
  | _, _, .int i, _ => .int i
  | _, _, .str x, _ => .str x
  | _, _, .lst h r, n => by simp [noL] at n
  | _, _, .tup h r, n => .tup (t _ _ h) (RpAll.tupk t r (by simpa [noL] using n))
theorem RpAll.tupk (t : TupK H H') : ∀ {vs : List V} {ds : List PyData}, RpAll H vs ds → noLs ds = true → RpAll H' vs ds
  | _, _, .nil, _ => .nil
  | _, _, .cons h r, n => by
    rw [noLs, Bool.and_eq_true] at n
    exact .cons (Rp.tupk t h n.1) (RpAll.tupk t r n.2)
end
theorem RpAll.length : ∀ {vs : List V} {ds : List PyData}, RpAll H vs ds → vs.length = ds.length
  | _, _, .nil => rfl
  | _, _, .cons _ r => congrArg Nat.succ (RpAll.length r)
theorem RpAll.at : ∀ {vs : List V} {ds : List PyData}, RpAll H vs ds → ∀ {i : Nat} {v : V}, vs[i]? = some v → ∃ d, ds[i]? = some d ∧ Rp H v d
  | _, _, .nil, i, v, h => by simp at h
  | _, _, .cons h r, 0, v, e => by
    cases e
    exact ⟨_, rfl, h⟩
  | _, _, .cons h r, i + 1, v, e => by
    obtain ⟨d, h1, h2⟩ := RpAll.at r (i := i) (v := v) (by simpa using e)
    exact ⟨d, by simpa using h1, h2⟩
theorem RpAll.append : ∀ {xs ys : List V} {ds es : List PyData}, RpAll H xs ds → RpAll H ys es → RpAll H (xs ++ ys) (ds ++ es)
  | _, _, _, _, .nil, h => h
  | _, _, _, _, .cons h r, h2 => .cons h (RpAll.append r h2)
theorem RpAll.drop : ∀ {vs : List V} {ds : List PyData} (n : Nat), RpAll H vs ds → RpAll H (vs.drop n) (ds.drop n)
  | _, _, 0, h => h
  | _, _, n + 1, .nil => .nil
  | _, _, n + 1, .cons _ r => RpAll.drop n r
theorem RpAll.take : ∀ {vs : List V} {ds : List PyData} (n : Nat), RpAll H vs ds → RpAll H (vs.take n) (ds.take n)
  | _, _, 0, h => .nil
  | _, _, n + 1, .nil => .nil
  | _, _, n + 1, .cons h r => .cons h (RpAll.take n r)
theorem rpAll_str : ∀ ws : List Str, RpAll H (ws.map V.str) (ws.map PyData.str)
  | [] => .nil
  | w :: r => .cons (.str w) (rpAll_str r)
/-! ### things of bounded size -/
def Fit : Nat → PyData → Prop
  | 0, d => (d = .none ∨ (∃ b, d = .bool b) ∨ (∃ i, d = .int i)) ∨ ∃ x, d = .str x ∧ x.length ≤ 1000 ∧ PyData.strOk x = true
  | n + 1, d => ((d = .none ∨ (∃ b, d = .bool b) ∨ (∃ i, d = .int i)) ∨ ∃ x, d = .str x ∧ x.length ≤ 1000 ∧ PyData.strOk x = true) ∨ ∃ ds : List PyData, (d = .tuple ds ∨ d = .list ds) ∧ ds.length ≤ 1000 ∧ ∀ e ∈ ds, Fit n e
theorem Fit.succ : ∀ {n : Nat} {d : PyData}, Fit n d → Fit (n + 1) d
  | 0, d, h => .inl h
  | n + 1, d, h => by
    rcases h with h | ⟨ds, h1, h2, h3⟩
    · exact .inl h
    · exact .inr ⟨ds, h1, h2, fun e he => (h3 e he).succ⟩
theorem Fit.mono {n m : Nat} {d : PyData} (h : Fit n d) (l : n ≤ m) : Fit m d := by
  induction l with
  | refl => exact h
  | step _ ih => exact ih.succ
theorem Fit.good : ∀ {n : Nat} {d : PyData}, Fit n d → GoodD d n
  | 0, d, h => by
    rcases h with (rfl | ⟨b, rfl⟩ | ⟨i, rfl⟩) | ⟨x, rfl, _, h⟩
    · exact good_none
    · exact good_bool
    · exact good_int
    · exact good_str h
  | n + 1, d, h => by
    rcases h with ((rfl | ⟨b, rfl⟩ | ⟨i, rfl⟩) | ⟨x, rfl, _, h⟩) | ⟨ds, rfl | rfl, _, h⟩
    · exact good_none
    · exact good_bool
    · exact good_int
    · exact good_str h
    · exact good_tuple fun e he => (h e he).good
    · exact good_list fun e he => (h e he).good
theorem fit_str {x : Str} {n : Nat} (h1 : x.length ≤ 1000) (h2 : PyData.strOk x = true) : Fit n (.str x) := Fit.mono (n := 0) (.inr ⟨x, rfl, h1, h2⟩) (Nat.zero_le _)
theorem fit_int {i : Int} {n : Nat} : Fit n (.int i) := Fit.mono (n := 0) (.inl (.inr (.inr ⟨i, rfl⟩))) (Nat.zero_le _)
theorem fit_word {x : Str} {n : Nat} (h : isW x = true) : Fit n (.str x) := fit_str (Nat.le_trans (isW_len h) (by decide)) (isW_strOk h)
theorem fit_tup {ds : List PyData} {n : Nat} (h1 : ds.length ≤ 1000) (h : ∀ e ∈ ds, Fit n e) : Fit (n + 1) (.tuple ds) := .inr ⟨ds, .inl rfl, h1, h⟩
theorem Fit.tup {ds : List PyData} {n : Nat} (h : Fit (n + 1) (.tuple ds)) : ds.length ≤ 1000 ∧ ∀ e ∈ ds, Fit n e := by
  rcases h with ((h | ⟨b, h⟩ | ⟨i, h⟩) | ⟨x, h, _⟩) | ⟨es, h | h, h1, h2⟩
  · cases h
  · cases h
  · cases h
  · cases h
  · cases h
    exact ⟨h1, h2⟩
  · cases h
/-- such a thing, as a text or none -/
theorem Rp.txt {v : V} {d : PyData} {n : Nat} (h : Rp H v d) (f : Fit n d) : TxtV H v := by
  cases h with
  | non => exact .inr .non
  | bl b => exact .inr (.bl b)
  | int i => exact .inr (.int i)
  | str x =>
    have : x.length ≤ 1000 := by
      cases n with
      | zero => rcases f with (h | ⟨b, h⟩ | ⟨i, h⟩) | ⟨y, h, hl, _⟩ <;> cases h; exact hl
      | succ n => rcases f with ((h | ⟨b, h⟩ | ⟨i, h⟩) | ⟨y, h, hl, _⟩) | ⟨es, h | h, _⟩ <;> cases h; exact hl
    exact .inl ⟨x, rfl, by omega⟩
  | lst h r => exact .inr (.lst h)
  | tup h r => exact .inr (.tup h)
theorem Rp.thg {v : V} {d : PyData} (h : Rp H v d) : Thg H v := by
  cases h with
  | non => exact .non
  | bl b => exact .bl b
  | int i => exact .int i
  | str x => exact .str x
  | lst h r => exact .lst h
  | tup h r => exact .tup h
end
/-- what a def keeps at its room, it keeps at more -/
theorem fnok_mono {P : Program} {w : World} {K : PySem.W.Frag} {mg : Str → Option Value} {base : Heap} {CX : CXT} {k k' : Nat} {f : Addr} {fd : FuncData} {ps : List Str} {sp : Sp} (F : FnOk P w K mg base CX k f fd ps sp) (h : k ≤ k') : FnOk P w K mg base CX k' f fd ps sp :=
  ⟨F.len, fun A outer s H args us vs Q E hr => F.run A outer s H args us vs Q E (hr.mono h)⟩
end Bw

/-! queries, plainly: on data -/
namespace Bw
open PySem PySem.Spec PyProof.Rows L2 LamX
def isWD : PyData → Bool
  | .str x => isW x
  | _ => false
theorem isWD_of {H : Hp} {v : V} {d : PyData} (h : Rp H v d) : isWV v = isWD d := by
  cases h <;> rfl
def joinC (cs : List (Option Nat)) : Option Nat := if 2 ≤ cs.length ∧ cs.length ≤ 4 ∧ cs.all (·.isSome) = true then some (cs.filterMap id).sum else none
def nearC : List PyData → Option Nat
  | [.int f, a, b] => if 1 ≤ f ∧ f ≤ 20 ∧ isWD a = true ∧ isWD b = true then some 2 else none
  | _ => none
def wordC (ps : List PyData) : Option Nat := if ps.length = 1 ∧ ps.all isWD = true then some 1 else none
def phraseC (ps : List PyData) : Option Nat := if 2 ≤ ps.length ∧ ps.length ≤ 5 ∧ ps.all isWD = true then some ps.length else none
def butC (cs : List (Option Nat)) : Option Nat := if cs.length = 2 then joinC cs else none
/-- how many words a query of at most so many within one another has -/
def cnt : Nat → PyData → Option Nat
  | 0, _ => none
  | n + 1, .tuple (.str k :: ps) =>
    if k = "word" then wordC ps else if k = "phrase" then phraseC ps else if k = "near" then nearC ps
    else if k = "and" then joinC (ps.map (cnt n)) else if k = "or" then joinC (ps.map (cnt n)) else if k = "but" then butC (ps.map (cnt n)) else none
  | _ + 1, _ => none
def cntV : Option Nat → V
  | some m => .int m
  | none => .non
theorem sum_bound {f : Option Nat → Nat} : True := trivial
def strD : PyData → Option Str
  | .str x => some x
  | _ => none
/-- the words that count -/
def wIn : Nat → PyData → List Str
  | 0, _ => []
  | n + 1, .tuple (.str k :: ps) =>
    if k = "word" ∨ k = "phrase" then ps.filterMap strD else if k = "near" then (ps.drop 1).filterMap strD
    else if k = "but" then ((ps.take 1).map (wIn n)).flatten else (ps.map (wIn n)).flatten
  | _ + 1, _ => []
theorem words_all : ∀ {ps : List PyData}, ps.all isWD = true → ∃ ws : List Str, ps = ws.map PyData.str ∧ ∀ w ∈ ws, isW w = true
  | [], _ => ⟨[], rfl, fun w hw => absurd hw (by simp)⟩
  | p :: r, h => by
    rw [List.all_cons, Bool.and_eq_true] at h
    obtain ⟨ws, rfl, hw⟩ := words_all h.2
    cases p with
    | str x => exact ⟨x :: ws, rfl, fun w hm => by
        rcases List.mem_cons.mp hm with rfl | hm
        · exact h.1
        · exact hw w hm⟩
    | _ => exact absurd h.1 (by unfold isWD; exact Bool.noConfusion)
theorem filt_str (ws : List Str) : (ws.map PyData.str).filterMap strD = ws := by
  induction ws with
  | nil => rfl
  | cons w r ih => simp [strD, ih]
/-- a query, as it is built -/
inductive QOf (n : Nat) : PyData → Nat → Prop
  | word {w : Str} : isW w = true → QOf n (.tuple [.str "word", .str w]) 1
  | phrase {ws : List Str} : 2 ≤ ws.length → ws.length ≤ 5 → (∀ w ∈ ws, isW w = true) → QOf n (.tuple (.str "phrase" :: ws.map PyData.str)) ws.length
  | near {f : Int} {a b : Str} : 1 ≤ f → f ≤ 20 → isW a = true → isW b = true → QOf n (.tuple [.str "near", .int f, .str a, .str b]) 2
  | join {k : Str} {ps : List PyData} {m : Nat} : (k = "and" ∨ k = "or" ∨ k = "but") → (k = "but" → ps.length = 2) → joinC (ps.map (cnt n)) = some m → QOf n (.tuple (.str k :: ps)) m
theorem wordC_some {ps : List PyData} {m : Nat} (h : wordC ps = some m) : ∃ w : Str, ps = [.str w] ∧ isW w = true ∧ m = 1 := by
  unfold wordC at h
  split at h
  · rename_i hc
    obtain ⟨ws, rfl, hw⟩ := words_all hc.2
    have hl : ws.length = 1 := by simpa using hc.1
    match ws, hl with
    | [w], _ => exact ⟨w, rfl, hw w (by simp), (Option.some.inj h).symm⟩
  · cases h
theorem phraseC_some {ps : List PyData} {m : Nat} (h : phraseC ps = some m) : ∃ ws : List Str, ps = ws.map PyData.str ∧ 2 ≤ ws.length ∧ ws.length ≤ 5 ∧ (∀ w ∈ ws, isW w = true) ∧ m = ws.length := by
  unfold phraseC at h
  split at h
  · rename_i hc
    obtain ⟨ws, rfl, hw⟩ := words_all hc.2.2
    rw [List.length_map] at hc h
    exact ⟨ws, rfl, hc.1, hc.2.1, hw, (Option.some.inj h).symm⟩
  · cases h
theorem isWD_str {d : PyData} (h : isWD d = true) : ∃ x, d = .str x ∧ isW x = true := by
  cases d with
  | str x => exact ⟨x, rfl, h⟩
  | _ => exact absurd h (by unfold isWD; exact Bool.noConfusion)
theorem nearC_some {ps : List PyData} {m : Nat} (h : nearC ps = some m) : ∃ (f : Int) (a b : Str), ps = [.int f, .str a, .str b] ∧ 1 ≤ f ∧ f ≤ 20 ∧ isW a = true ∧ isW b = true ∧ m = 2 := by
  unfold nearC at h
  split at h
  · rename_i f a b
    split at h
    · rename_i hc
      obtain ⟨x, rfl, hx⟩ := isWD_str hc.2.2.1
      obtain ⟨y, rfl, hy⟩ := isWD_str hc.2.2.2
      exact ⟨f, x, y, rfl, hc.1, hc.2.1, hx, hy, (Option.some.inj h).symm⟩
    · cases h
  · cases h
theorem cnt_inv {n : Nat} {d : PyData} {m : Nat} (h : cnt (n + 1) d = some m) : QOf n d m := by
  unfold cnt at h
  split at h
  · contradiction
  · rename_i n' k ps hn
    cases hn
    split at h
    · rename_i hk
      subst hk
      obtain ⟨w, rfl, hw, rfl⟩ := wordC_some h
      exact .word hw
    · split at h
      · rename_i hk
        subst hk
        obtain ⟨ws, rfl, h1, h2, h3, rfl⟩ := phraseC_some h
        exact .phrase h1 h2 h3
      · split at h
        · rename_i hk
          subst hk
          obtain ⟨f, a, b, rfl, h1, h2, h3, h4, rfl⟩ := nearC_some h
          exact .near h1 h2 h3 h4
        · split at h
          · rename_i hk
            exact .join (.inl hk) (fun z => by rw [hk] at z; exact absurd z (by decide +kernel)) h
          · split at h
            · rename_i hk
              exact .join (.inr (.inl hk)) (fun z => by rw [hk] at z; exact absurd z (by decide +kernel)) h
            · split at h
              · rename_i hk
                unfold butC at h
                split at h
                · rename_i hl
                  rw [List.length_map] at hl
                  exact .join (.inr (.inr hk)) (fun _ => hl) h
                · cases h
              · cases h
  · cases h
theorem cnt_word {n : Nat} {w : Str} (h : isW w = true) : cnt (n + 1) (.tuple [.str "word", .str w]) = some 1 := by
  unfold cnt
  rw [if_pos rfl]
  unfold wordC
  rw [if_pos ⟨rfl, by simp [isWD, h]⟩]
theorem cnt_phrase {n : Nat} {ws : List Str} (h1 : 2 ≤ ws.length) (h2 : ws.length ≤ 5) (h : ∀ w ∈ ws, isW w = true) : cnt (n + 1) (.tuple (.str "phrase" :: ws.map PyData.str)) = some ws.length := by
  unfold cnt
  rw [if_neg (by decide +kernel), if_pos rfl]
  unfold phraseC
  have ha : (ws.map PyData.str).all isWD = true := by
    rw [List.all_eq_true]
    intro d hd
    obtain ⟨w, hw, rfl⟩ := List.mem_map.mp hd
    exact h w hw
  rw [List.length_map, if_pos ⟨h1, h2, ha⟩]
theorem cnt_near {n : Nat} {f : Int} {a b : Str} (h1 : 1 ≤ f) (h2 : f ≤ 20) (ha : isW a = true) (hb : isW b = true) : cnt (n + 1) (.tuple [.str "near", .int f, .str a, .str b]) = some 2 := by
  unfold cnt
  rw [if_neg (by decide +kernel), if_neg (by decide +kernel), if_pos rfl]
  unfold nearC
  simp only
  rw [if_pos ⟨h1, h2, ha, hb⟩]
theorem cnt_and {n : Nat} {ps : List PyData} : cnt (n + 1) (.tuple (.str "and" :: ps)) = joinC (ps.map (cnt n)) := by
  rw [cnt, if_neg (by decide +kernel), if_neg (by decide +kernel), if_neg (by decide +kernel), if_pos rfl]
theorem cnt_or {n : Nat} {ps : List PyData} : cnt (n + 1) (.tuple (.str "or" :: ps)) = joinC (ps.map (cnt n)) := by
  rw [cnt, if_neg (by decide +kernel), if_neg (by decide +kernel), if_neg (by decide +kernel), if_neg (by decide +kernel), if_pos rfl]
theorem cnt_but {n : Nat} {ps : List PyData} : cnt (n + 1) (.tuple (.str "but" :: ps)) = butC (ps.map (cnt n)) := by
  rw [cnt, if_neg (by decide +kernel), if_neg (by decide +kernel), if_neg (by decide +kernel), if_neg (by decide +kernel), if_neg (by decide +kernel), if_pos rfl]
/-- all are queries -/
theorem join_some {n : Nat} {ps : List PyData} {m : Nat} (h : joinC (ps.map (cnt n)) = some m) : 2 ≤ ps.length ∧ ps.length ≤ 4 ∧ ∀ p ∈ ps, ∃ c, cnt n p = some c := by
  unfold joinC at h
  split at h
  · rename_i hc
    rw [List.length_map] at hc
    refine ⟨hc.1, hc.2.1, fun p hp => ?_⟩
    have := List.all_eq_true.mp hc.2.2 _ (List.mem_map.mpr ⟨p, hp, rfl⟩)
    exact Option.isSome_iff_exists.mp this
  · cases h
theorem noLs_all {ds : List PyData} (h : ∀ d ∈ ds, noL d = true) : noLs ds = true := by
  induction ds with
  | nil => rfl
  | cons d r ih =>
    rw [noLs, h d List.mem_cons_self, ih (fun e he => h e (List.mem_cons_of_mem _ he))]
    rfl
theorem cnt_noL : ∀ {n : Nat} {d : PyData} {m : Nat}, cnt n d = some m → noL d = true
  | 0, d, m, h => by cases h
  | n + 1, d, m, h => by
    cases cnt_inv h with
    | word => rfl
    | phrase =>
      rw [noL]
      refine noLs_all fun d hd => ?_
      rcases List.mem_cons.mp hd with rfl | hd
      · rfl
      · obtain ⟨w, _, rfl⟩ := List.mem_map.mp hd
        rfl
    | near => rfl
    | join h1 h2 h3 =>
      rw [noL]
      refine noLs_all fun d hd => ?_
      rcases List.mem_cons.mp hd with rfl | hd
      · rfl
      · obtain ⟨c, hc⟩ := (join_some h3).2.2 d hd
        exact cnt_noL hc
theorem kind_fit {k : Str} {n : Nat} (h : k = "and" ∨ k = "or" ∨ k = "but") : Fit n (.str k) := by
  rcases h with rfl | rfl | rfl <;> exact fit_str (by decide +kernel) (by decide +kernel)
theorem cnt_fit : ∀ {n : Nat} {d : PyData} {m : Nat}, cnt n d = some m → Fit n d
  | 0, d, m, h => by cases h
  | n + 1, d, m, h => by
    cases cnt_inv h with
    | word hw =>
      refine fit_tup (by simp) fun e he => ?_
      simp only [List.mem_cons, List.not_mem_nil, or_false] at he
      rcases he with rfl | rfl
      · exact fit_str (by decide +kernel) (by decide +kernel)
      · exact fit_word hw
    | phrase h1 h2 h3 =>
      refine fit_tup (by simp; omega) fun e he => ?_
      rcases List.mem_cons.mp he with rfl | he
      · exact fit_str (by decide +kernel) (by decide +kernel)
      · obtain ⟨w, hw, rfl⟩ := List.mem_map.mp he
        exact fit_word (h3 w hw)
    | near h1 h2 ha hb =>
      refine fit_tup (by simp) fun e he => ?_
      simp only [List.mem_cons, List.not_mem_nil, or_false] at he
      rcases he with rfl | rfl | rfl | rfl
      · exact fit_str (by decide +kernel) (by decide +kernel)
      · exact fit_int
      · exact fit_word ha
      · exact fit_word hb
    | join h1 h2 h3 =>
      obtain ⟨j1, j2, j3⟩ := join_some h3
      refine fit_tup (by simp; omega) fun e he => ?_
      rcases List.mem_cons.mp he with rfl | he
      · exact kind_fit h1
      · obtain ⟨c, hc⟩ := j3 e he
        exact cnt_fit hc
/-- deeper is let -/
theorem cnt_succ : ∀ {n : Nat} {d : PyData} {m : Nat}, cnt n d = some m → cnt (n + 1) d = some m
  | 0, d, m, h => by cases h
  | n + 1, d, m, h => by
    have key : ∀ {ps : List PyData} {m : Nat}, joinC (ps.map (cnt n)) = some m → joinC (ps.map (cnt (n + 1))) = some m := fun {ps m} hj => by
      have e : ps.map (cnt (n + 1)) = ps.map (cnt n) := List.map_congr_left fun p hp => by
        obtain ⟨c, hc⟩ := (join_some hj).2.2 p hp
        rw [hc, cnt_succ hc]
      rw [e]
      exact hj
    cases cnt_inv h with
    | word hw => exact cnt_word hw
    | phrase h1 h2 h3 => exact cnt_phrase h1 h2 h3
    | near h1 h2 ha hb => exact cnt_near h1 h2 ha hb
    | join h1 h2 h3 =>
      rcases h1 with rfl | rfl | rfl
      · rw [cnt_and]; exact key h3
      · rw [cnt_or]; exact key h3
      · rw [cnt_but]
        unfold butC
        rw [List.length_map, if_pos (h2 rfl)]
        exact key h3
theorem cnt_mono {n k : Nat} {d : PyData} {m : Nat} (h : cnt n d = some m) (l : n ≤ k) : cnt k d = some m := by
  induction l with
  | refl => exact h
  | step _ ih => exact cnt_succ ih
/-- the words of a query -/
theorem wIn_ok : ∀ {n : Nat} {d : PyData} {m : Nat}, cnt n d = some m → (wIn n d).length ≤ m ∧ ∀ w ∈ wIn n d, isW w = true
  | 0, d, m, h => by cases h
  | n + 1, d, m, h => by
    cases cnt_inv h with
    | word hw =>
      rw [wIn, if_pos (.inl rfl)]
      exact ⟨by simp [strD], fun w hm => by simp [strD] at hm; rw [hm]; exact hw⟩
    | phrase h1 h2 h3 =>
      rw [wIn, if_pos (.inr rfl), filt_str]
      exact ⟨Nat.le_refl _, h3⟩
    | near h1 h2 ha hb =>
      rw [wIn, if_neg (by decide +kernel), if_pos rfl]
      refine ⟨by simp [strD], fun w hm => ?_⟩
      simp [strD] at hm
      rcases hm with rfl | rfl
      · exact ha
      · exact hb
    | @join k ps _ h1 h2 h3 =>
      obtain ⟨j1, j2, j3⟩ := join_some h3
      have hm : ((ps.map (cnt n)).filterMap id).sum = m := by
        unfold joinC at h3
        split at h3
        · exact Option.some.inj h3
        · cases h3
      have hsum : ∀ l : List PyData, (∀ p ∈ l, ∃ c, cnt n p = some c) → ((l.map (wIn n)).flatten.length ≤ ((l.map (cnt n)).filterMap id).sum ∧ ∀ w ∈ (l.map (wIn n)).flatten, isW w = true) := by
        intro l
        induction l with
        | nil => intro _; exact ⟨Nat.le_refl _, fun w hw => absurd hw (by simp)⟩
        | cons p r ih =>
          intro hl
          obtain ⟨c, hc⟩ := hl p List.mem_cons_self
          obtain ⟨i1, i2⟩ := wIn_ok hc
          obtain ⟨r1, r2⟩ := ih (fun q hq => hl q (List.mem_cons_of_mem _ hq))
          rw [List.map_cons, List.flatten_cons, List.map_cons, hc]
          refine ⟨by simp only [List.length_append, List.filterMap_cons, id, List.sum_cons]; omega, fun w hw => ?_⟩
          rcases List.mem_append.mp hw with hw | hw
          · exact i2 w hw
          · exact r2 w hw
      have hpre : ∀ l : List PyData, (((l.take 1).map (cnt n)).filterMap id).sum ≤ ((l.map (cnt n)).filterMap id).sum := by
        intro l
        cases l with
        | nil => simp
        | cons p r =>
          simp only [List.take_succ_cons, List.take_zero, List.map_cons, List.map_nil]
          cases cnt n p with
          | none => simp
          | some c => simp
      have kd : ¬ (k = "word" ∨ k = "phrase") := by
        rcases h1 with rfl | rfl | rfl <;> decide +kernel
      have kn : ¬ k = "near" := by
        rcases h1 with rfl | rfl | rfl <;> decide +kernel
      rw [wIn, if_neg kd, if_neg kn]
      split
      · obtain ⟨a, b⟩ := hsum (ps.take 1) (fun p hp => j3 p (List.mem_of_mem_take hp))
        exact ⟨Nat.le_trans a (hm ▸ hpre ps), b⟩
      · obtain ⟨a, b⟩ := hsum ps j3
        exact ⟨hm ▸ a, b⟩
section
variable {K : PySem.W.Frag} {H : Hp} {Q : VK}
theorem w_inV {p : Addr} {xs : List V} {x : V} (hs : SqL K H p xs ∨ SqT K H p xs) (fx : flatV x = true) (fs : xs.all flatV = true) (q : Q (.bl (inV x xs)) H) : rIn K false x (.ref p) H Q := ⟨p, xs, rfl, hs, fx, fs, q⟩
theorem w_decN {c A B : Prop} {dc : Decidable c} (h1 : c → B) (h2 : ¬ c → A) : if (!decide c) = true then A else B := by
  by_cases h : c
  · rw [if_neg (by rw [decide_eq_true h]; exact Bool.noConfusion)]
    exact h1 h
  · rw [if_pos (by rw [decide_eq_false h]; rfl)]
    exact h2 h
end
theorem cnt_flat (cs : List (Option Nat)) : (cs.map cntV).all flatV = true := by
  rw [List.all_eq_true]
  intro v hv
  obtain ⟨o, _, rfl⟩ := List.mem_map.mp hv
  cases o <;> rfl
theorem cnt_none (cs : List (Option Nat)) : inV .non (cs.map cntV) = !cs.all (·.isSome) := by
  unfold inV
  induction cs with
  | nil => rfl
  | cons o r ih =>
    rw [List.map_cons, List.any_cons, ih, List.all_cons]
    cases o with
    | none => simp [cntV, eqV]
    | some m => simp [cntV, eqV]
theorem cnt_all : ∀ {cs : List (Option Nat)}, cs.all (·.isSome) = true → ∃ ms : List Nat, cs = ms.map some
  | [], _ => ⟨[], rfl⟩
  | o :: r, h => by
    rw [List.all_cons, Bool.and_eq_true] at h
    obtain ⟨ms, rfl⟩ := cnt_all h.2
    cases o with
    | none => cases h.1
    | some m => exact ⟨m :: ms, rfl⟩
theorem sum_cast : ∀ ms : List Nat, (ms.map fun m : Nat => (m : Int)).sum = ((ms.sum : Nat) : Int)
  | [] => rfl
  | m :: r => by
    rw [List.map_cons, List.sum_cons, List.sum_cons, sum_cast r]
    omega
/-- a query -/
def isQ (d : PyData) : Bool := match cnt 5 d with
  | some m => decide (m ≤ 12)
  | none => false
end Bw

namespace Bw
open PySem PySem.Spec PyProof.Rows L2 LamX
/-! ### slices by places, tuples put together -/
theorem sIx_nat {n d i : Nat} (h : i ≤ n) : HT.sIx n d (some (i : Int)) = i := by
  unfold HT.sIx
  simp only
  split <;> omega
theorem sIx_big {n d : Nat} {i : Int} (h : (n : Int) ≤ i) : HT.sIx n d (some i) = n := by
  unfold HT.sIx
  simp only
  split <;> omega
theorem sIx_none {n d : Nat} : HT.sIx n d none = d := rfl
theorem cutV_drop {xs : List V} {i : Nat} (h : i ≤ xs.length) : cutV xs (some (i : Int)) none = xs.drop i := by
  unfold cutV
  rw [sIx_nat h, sIx_none, List.take_of_length_le (by rw [List.length_drop]; omega)]
theorem cutV_mid {xs : List V} {i j : Nat} (h : i ≤ j) (h2 : j ≤ xs.length) : cutV xs (some (i : Int)) (some (j : Int)) = (xs.drop i).take (j - i) := by
  unfold cutV
  rw [sIx_nat (i := i) (by omega), sIx_nat (i := j) h2]
theorem cutV_take {xs : List V} {j : Nat} (h2 : j ≤ xs.length) : cutV xs none (some (j : Int)) = xs.take j := by
  unfold cutV
  rw [sIx_nat h2, sIx_none, List.drop_zero, Nat.sub_zero]
section
variable {K : PySem.W.Frag} {H : Hp} {Q : VK}
/-- t[i:], i above 0 -/
theorem w_slTd {a : Addr} {xs : List V} {i : Nat} (h : SqT K H a xs) (h0 : 0 < i) (hi : i ≤ xs.length) (k : ∀ p H2, H p = none → Same H H2 → H2 p = some (.tup (xs.drop i)) → Q (.ref p) H2) : rSlT K (.ref a) (some (i : Int)) none H Q :=
  ⟨a, xs, rfl, h, fun z => by rw [sIx_nat hi] at z; omega, fun p n => k p _ n (same_new n) (by rw [cutV_drop hi]; exact upd_same)⟩
/-- t[i:] behind the end -/
theorem w_slTe {a : Addr} {xs : List V} {i : Int} (h : SqT K H a xs) (h0 : 0 < xs.length) (hi : (xs.length : Int) ≤ i) (k : ∀ p H2, H p = none → Same H H2 → H2 p = some (.tup []) → Q (.ref p) H2) : rSlT K (.ref a) (some i) none H Q :=
  ⟨a, xs, rfl, h, fun z => by rw [sIx_big hi] at z; omega, fun p n => k p _ n (same_new n) (by
    have : cutV xs (some i) none = [] := by
      unfold cutV
      rw [sIx_big hi]
      simp
    rw [this]; exact upd_same)⟩
/-- t[i:j] -/
theorem w_slTm {a : Addr} {xs : List V} {i j : Nat} (h : SqT K H a xs) (h0 : 0 < i) (hij : i ≤ j) (hj : j ≤ xs.length) (k : ∀ p H2, H p = none → Same H H2 → H2 p = some (.tup ((xs.drop i).take (j - i))) → Q (.ref p) H2) : rSlT K (.ref a) (some (i : Int)) (some (j : Int)) H Q :=
  ⟨a, xs, rfl, h, fun z => by rw [sIx_nat (by omega)] at z; omega, fun p n => k p _ n (same_new n) (by rw [cutV_mid hij hj]; exact upd_same)⟩
theorem w_catT {a b : Addr} {xs ys : List V} (ha : H a = some (.tup xs)) (hb : H b = some (.tup ys)) (hx : xs ≠ []) (hl : xs.length + ys.length ≤ 100000) (k : ∀ p H2, Same H H2 → H2 p = some (.tup (xs ++ ys)) → Q (.ref p) H2) : rCatT K (.ref a) (.ref b) H Q :=
  ⟨a, b, xs, ys, rfl, rfl, .of ha, .of hb, hx, Nat.le_trans hl (by decide), fun e => k a H (.refl _) (by rw [e, List.append_nil]; exact ha), fun _ p n => k p _ (same_new n) upd_same⟩
end
/-- an if whose test is known, what is behind it once -/
theorem w_ifB {tt : TT} {t u : TS} {D : Ends} {σ : L2.St} {H : Hp} (b : Bool) (H' : Hp) (h : ∀ QB : Bool → Hp → Prop, QB b H' → tt σ H QB) (k : if b = true then t D σ H' else u D σ H') : tIfS tt t u D σ H := h _ k
/-- a vacuous promise -/
theorem fnok_no {P : Program} {w : World} {K : PySem.W.Frag} {mg : Str → Option Value} {base : Heap} {CX : CXT} {k : Nat} {f : Addr} {fd : FuncData} {ps : List Str} {sp : Sp} (h : ∀ vs H Q E, ¬ sp vs H Q E) : FnOk P w K mg base CX k f fd ps sp :=
  ⟨fun vs H Q E z => absurd z (h vs H Q E), fun A outer s H args us vs Q E _ _ _ _ z => absurd z (h vs H Q E)⟩
/-! ### a dict of defs, written at the top -/
structure Ent where
  (k : Str) (t : Tok) (v : Value)
def Ent.de (P : Params) (e : Ent) : DictEntry := ⟨PyData.keyHash P e.k, .str e.k e.t, e.v⟩
theorem lits (P : Params) : ∀ es : List Ent, PySem.W.KeysLit P (es.map (Ent.de P))
  | [] => trivial
  | e :: r => ⟨⟨e.k, e.t, rfl, rfl⟩, lits P r⟩
theorem ns_lits {K : PySem.W.Frag} {P : Params} {D : Addr} {c : Value} {o : Option Addr} {n : Nat} {sl : Array (Option Value)} {es : List Ent} (h : K.lookup D = some ⟨c, o, .dict (es.map (Ent.de P)).toArray n, sl⟩) (k : Str) :
    PySem.W.nsIn K D k = some ((es.find? fun e => decide (e.k = k)).map (·.v)) := by
  unfold PySem.W.nsIn
  rw [h]
  simp only [List.toList_toArray]
  have e1 : ∀ l : List Ent, (l.map (Ent.de P)).find? (fun x => x.key.isStr k) = (l.find? fun e => decide (e.k = k)).map (Ent.de P) := by
    intro l
    induction l with
    | nil => rfl
    | cons e r ih =>
      rw [List.map_cons, List.find?_cons, List.find?_cons, ih]
      have : (Ent.de P e).key.isStr k = decide (e.k = k) := by
        show (Value.str e.k e.t).isStr k = _
        rw [PySem.W.isStr_of]
        show (e.k == k) = _
        by_cases hk : e.k = k
        · simp [hk]
        · simp [hk]
      rw [this]
      split <;> rfl
  have e2 : ∀ l : List Ent, (l.map (Ent.de P)).any (·.refKey) = false := by
    intro l
    rw [List.any_eq_false]
    intro x hx
    obtain ⟨e, _, rfl⟩ := List.mem_map.mp hx
    exact Bool.false_ne_true
  rw [e1 es, e2 es]
  cases es.find? fun e => decide (e.k = k) with
  | none => rfl
  | some e => rfl
theorem kdict_lits {K : PySem.W.Frag} {w : World} {D : Addr} {n : Nat} {es : List Ent} (h : K.lookup D = some ⟨.type "dict", none, .dict (es.map (Ent.de w.params)).toArray n, #[]⟩) (low : (D == sysModules) = false) : KDict K w D (es.map (Ent.de w.params)).toArray n :=
  ⟨h, by simpa using lits w.params es, low⟩
end Bw

/-! what a page has of a query, plainly -/
namespace Bw
open PySem PySem.Spec PyProof.Rows L2 LamX
/-- where some words stand one behind another -/
def runP (held us : List Str) : List Nat := (plc held (us.headD "")).filter fun i => decide ((held.drop i).take us.length = us)
def isNear (f : Int) (i j : Nat) : Bool := decide (1 ≤ ((i : Int) - j).natAbs ∧ ((((i : Int) - j).natAbs : Nat) : Int) ≤ f)
/-- where two words stand near one another -/
def nearP (f : Int) (a b : Str) (held : List Str) : List (Nat × Nat) := ((plc held a).map fun i => ((plc held b).filter fun j => isNear f i j).map fun j => (i, j)).flatten
def pD (q : Nat × Nat) : PyData := .tuple [.int q.1, .int q.2]
def nearD (ps : List PyData) (held : List Str) : PyData := match ps with
  | [.int f, .str a, .str b] => .list ((nearP f a b held).map pD)
  | _ => .none
def plcD (d : PyData) (held : List Str) : PyData := match d with
  | .tuple (.str k :: ps) => if k = "near" then nearD ps held
    else if k = "word" ∨ k = "phrase" then .list ((runP held (ps.filterMap strD)).map nD) else .none
  | _ => .none
def hasN : PyData → Bool
  | .list [] => false
  | _ => true
/-- whether a page has what a query asks -/
def hasQ : Nat → PyData → List Str → Bool
  | 0, _, _ => false
  | n + 1, .tuple (.str k :: ps), held =>
    if k = "and" then (ps.map fun p => hasQ n p held).all id else if k = "or" then (ps.map fun p => hasQ n p held).any id
    else if k = "but" then (((ps.take 1).map fun p => hasQ n p held).all id && !((ps.drop 1).map fun p => hasQ n p held).any id)
    else hasN (plcD (.tuple (.str k :: ps)) held)
  | _ + 1, _, _ => false
theorem good_nD (ns : List Nat) : GoodD (.list (ns.map nD)) 2 := (good_list (n := 1) fun d hd => by
  obtain ⟨n, _, rfl⟩ := List.mem_map.mp hd
  exact good_int)
theorem good_pD (qs : List (Nat × Nat)) : GoodD (.list (qs.map pD)) 2 := good_list fun d hd => by
  obtain ⟨q, _, rfl⟩ := List.mem_map.mp hd
  exact good_tuple fun e he => by
    simp only [List.mem_cons, List.not_mem_nil, or_false] at he
    rcases he with rfl | rfl
    · exact good_int
    · exact good_int
theorem plc_lt {ws : List Str} {w : Str} {i : Nat} (h : i ∈ plc ws w) : i < ws.length ∧ ws[i]? = some w := by
  unfold plc at h
  rw [List.mem_filter, List.mem_range] at h
  exact ⟨h.1, of_decide_eq_true h.2⟩
theorem plc_mem {ws : List Str} {w : Str} {i : Nat} : i ∈ plc ws w ↔ ws[i]? = some w := by
  refine ⟨fun h => (plc_lt h).2, fun h => ?_⟩
  unfold plc
  rw [List.mem_filter, List.mem_range]
  exact ⟨(List.getElem?_eq_some_iff.mp h).1, decide_eq_true h⟩
theorem runP_len (held us : List Str) : (runP held us).length ≤ held.length := by
  unfold runP
  exact Nat.le_trans (List.length_filter_le _ _) (plc_len _ _)
theorem nearP_len (f : Int) (a b : Str) (held : List Str) : (nearP f a b held).length ≤ held.length * held.length := by
  unfold nearP
  rw [List.length_flatten]
  have h := sum_le (l := (((plc held a).map fun i => ((plc held b).filter fun j => isNear f i j).map fun j => (i, j)).map List.length)) (c := held.length) (fun x hx => by
    obtain ⟨l, hl, rfl⟩ := List.mem_map.mp hx
    obtain ⟨i, _, rfl⟩ := List.mem_map.mp hl
    rw [List.length_map]
    exact Nat.le_trans (List.length_filter_le _ _) (plc_len _ _))
  rw [List.length_map, List.length_map] at h
  exact Nat.le_trans h (Nat.mul_le_mul_right _ (plc_len _ _))
theorem hasQ_and {n : Nat} {ps : List PyData} {held : List Str} : hasQ (n + 1) (.tuple (.str "and" :: ps)) held = (ps.map fun p => hasQ n p held).all id := by
  rw [hasQ, if_pos rfl]
theorem hasQ_or {n : Nat} {ps : List PyData} {held : List Str} : hasQ (n + 1) (.tuple (.str "or" :: ps)) held = (ps.map fun p => hasQ n p held).any id := by
  rw [hasQ, if_neg (by decide +kernel), if_pos rfl]
theorem hasQ_but {n : Nat} {a b : PyData} {held : List Str} : hasQ (n + 1) (.tuple [.str "but", a, b]) held = (hasQ n a held && !hasQ n b held) := by
  rw [hasQ, if_neg (by decide +kernel), if_neg (by decide +kernel), if_pos rfl]
  simp
theorem plcD_near {f : Int} {a b : Str} {held : List Str} : plcD (.tuple [.str "near", .int f, .str a, .str b]) held = .list ((nearP f a b held).map pD) := by
  rw [plcD, if_pos rfl]
  rfl
theorem plcD_word {a : Str} {held : List Str} : plcD (.tuple [.str "word", .str a]) held = .list ((runP held [a]).map nD) := by
  rw [plcD, if_neg (by decide +kernel), if_pos (.inl rfl)]
  rfl
theorem plcD_phrase {ws : List Str} {held : List Str} : plcD (.tuple (.str "phrase" :: ws.map PyData.str)) held = .list ((runP held ws).map nD) := by
  rw [plcD, if_neg (by decide +kernel), if_pos (.inr rfl), filt_str]
theorem hasQ_plc {n : Nat} {k : Str} {ps : List PyData} {held : List Str} (h1 : ¬ k = "and") (h2 : ¬ k = "or") (h3 : ¬ k = "but") : hasQ (n + 1) (.tuple (.str k :: ps)) held = hasN (plcD (.tuple (.str k :: ps)) held) := by
  rw [hasQ, if_neg h1, if_neg h2, if_neg h3]
theorem plcD_list' (held : List Str) {n m : Nat} {k : Str} {ps : List PyData} (h : QOf n (.tuple (.str k :: ps)) m) (h1 : ¬ k = "and") (h2 : ¬ k = "or") (h3 : ¬ k = "but") : ∃ ds, plcD (.tuple (.str k :: ps)) held = .list ds ∧ GoodD (.list ds) 2 := by
  cases h with
  | word hw => exact ⟨_, plcD_word, good_nD _⟩
  | phrase a b c => exact ⟨_, plcD_phrase, good_nD _⟩
  | near a b c d => exact ⟨_, plcD_near, good_pD _⟩
  | join a _ _ => rcases a with a | a | a <;> contradiction
theorem plcD_list (held : List Str) {m : Nat} {d : PyData} (h : cnt 1 d = some m) : ∃ ds, plcD d held = .list ds := by
  cases cnt_inv h with
  | word hw => exact ⟨_, plcD_word⟩
  | phrase a b c => exact ⟨_, plcD_phrase⟩
  | near a b c d => exact ⟨_, plcD_near⟩
  | @join k ps _ a b c =>
    obtain ⟨j1, j2, j3⟩ := join_some c
    cases ps with
    | nil => simp at j1
    | cons p r =>
      obtain ⟨c, hc⟩ := j3 p (by simp)
      cases hc
theorem w_any {K : PySem.W.Frag} {bs : List Bool} {a : Addr} {xs : List V} {H : Hp} {Q : VK} (e : xs = bs.map V.bl) (h : SqL K H a xs) (q : Q (.bl (bs.any id)) H) : rAny K [.ref a] H Q := ⟨a, bs, rfl, e ▸ h, q⟩
theorem hasQ_and2 {n : Nat} {a b : PyData} {held : List Str} : hasQ (n + 1) (.tuple [.str "and", a, b]) held = (hasQ n a held && hasQ n b held) := by
  rw [hasQ_and]; simp
theorem hasQ_and3 {n : Nat} {a b c : PyData} {held : List Str} : hasQ (n + 1) (.tuple [.str "and", a, b, c]) held = (hasQ n a held && (hasQ n b held && hasQ n c held)) := by
  rw [hasQ_and]; simp
theorem hasQ_or2 {n : Nat} {a b : PyData} {held : List Str} : hasQ (n + 1) (.tuple [.str "or", a, b]) held = (hasQ n a held || hasQ n b held) := by
  rw [hasQ_or]; simp
theorem hasQ_or3 {n : Nat} {a b c : PyData} {held : List Str} : hasQ (n + 1) (.tuple [.str "or", a, b, c]) held = (hasQ n a held || (hasQ n b held || hasQ n c held)) := by
  rw [hasQ_or]; simp
theorem join2 {a b : PyData} {n x y : Nat} (h1 : cnt n a = some x) (h2 : cnt n b = some y) : joinC ([a, b].map (cnt n)) = some (x + y) := by
  simp [joinC, h1, h2]
theorem join3 {a b c : PyData} {n x y z : Nat} (h1 : cnt n a = some x) (h2 : cnt n b = some y) (h3 : cnt n c = some z) : joinC ([a, b, c].map (cnt n)) = some (x + (y + z)) := by
  simp [joinC, h1, h2, h3]
theorem cnt_and2 {a b : PyData} {n x y : Nat} (h1 : cnt n a = some x) (h2 : cnt n b = some y) : cnt (n + 1) (.tuple [.str "and", a, b]) = some (x + y) := cnt_and.trans (join2 h1 h2)
theorem cnt_or2 {a b : PyData} {n x y : Nat} (h1 : cnt n a = some x) (h2 : cnt n b = some y) : cnt (n + 1) (.tuple [.str "or", a, b]) = some (x + y) := cnt_or.trans (join2 h1 h2)
theorem cnt_and3 {a b c : PyData} {n x y z : Nat} (h1 : cnt n a = some x) (h2 : cnt n b = some y) (h3 : cnt n c = some z) : cnt (n + 1) (.tuple [.str "and", a, b, c]) = some (x + (y + z)) := cnt_and.trans (join3 h1 h2 h3)
theorem cnt_or3 {a b c : PyData} {n x y z : Nat} (h1 : cnt n a = some x) (h2 : cnt n b = some y) (h3 : cnt n c = some z) : cnt (n + 1) (.tuple [.str "or", a, b, c]) = some (x + (y + z)) := cnt_or.trans (join3 h1 h2 h3)
theorem cnt_but2 {a b : PyData} {n x y : Nat} (h1 : cnt n a = some x) (h2 : cnt n b = some y) : cnt (n + 1) (.tuple [.str "but", a, b]) = some (x + y) := by
  rw [cnt_but]
  unfold butC
  rw [if_pos (show ([a, b].map (cnt n)).length = 2 from rfl)]
  exact join2 h1 h2
/-- deeper alike -/
theorem hasQ_succ : ∀ {n : Nat} {d : PyData} {m : Nat} {held : List Str}, cnt n d = some m → hasQ (n + 1) d held = hasQ n d held
  | 0, d, m, held, h => by cases h
  | n + 1, d, m, held, h => by
    have key : ∀ {ps : List PyData} {m : Nat}, joinC (ps.map (cnt n)) = some m → (ps.map fun p => hasQ (n + 1) p held) = ps.map fun p => hasQ n p held := fun {ps m} hj => List.map_congr_left fun p hp => by
      obtain ⟨c, hc⟩ := (join_some hj).2.2 p hp
      exact hasQ_succ hc
    cases cnt_inv h with
    | word hw => rw [hasQ_plc (by decide +kernel) (by decide +kernel) (by decide +kernel), hasQ_plc (by decide +kernel) (by decide +kernel) (by decide +kernel)]
    | phrase h1 h2 h3 => rw [hasQ_plc (by decide +kernel) (by decide +kernel) (by decide +kernel), hasQ_plc (by decide +kernel) (by decide +kernel) (by decide +kernel)]
    | near h1 h2 ha hb => rw [hasQ_plc (by decide +kernel) (by decide +kernel) (by decide +kernel), hasQ_plc (by decide +kernel) (by decide +kernel) (by decide +kernel)]
    | @join k ps _ h1 h2 h3 =>
      rcases h1 with rfl | rfl | rfl
      · rw [hasQ_and, hasQ_and, key h3]
      · rw [hasQ_or, hasQ_or, key h3]
      · have hl := h2 rfl
        match ps, hl with
        | [a, b], _ =>
          obtain ⟨_, _, j3⟩ := join_some h3
          obtain ⟨x, hx⟩ := j3 a (by simp)
          obtain ⟨y, hy⟩ := j3 b (by simp)
          rw [hasQ_but, hasQ_but, hasQ_succ hx, hasQ_succ hy]
/-- an if whose answer is known, the heap not -/
theorem w_ifH {tt : TT} {t u : TS} {D : Ends} {σ : L2.St} {H : Hp} (b : Bool) (I : Hp → Prop) (h : ∀ QB : Bool → Hp → Prop, (∀ H', I H' → QB b H') → tt σ H QB) (k : ∀ H', I H' → if b = true then t D σ H' else u D σ H') : tIfS tt t u D σ H := h _ k
theorem in_two' {k : Str} : inV (.str k) [.str "word", .str "phrase"] = decide (k = "word" ∨ k = "phrase") := by
  unfold inV
  simp only [List.any_cons, List.any_nil, Bool.or_false, eqV]
  by_cases h1 : k = "word"
  · subst h1
    decide +kernel
  · by_cases h2 : k = "phrase"
    · subst h2
      decide +kernel
    · rw [decide_eq_false (fun z => z.elim h1 h2)]
      simp [Ne.symm h1, Ne.symm h2]
theorem rp_strs {H : Hp} : ∀ {xs : List V} {ws : List Str}, RpAll H xs (ws.map PyData.str) → xs = ws.map V.str := fun {xs ws} h => by
  induction ws generalizing xs with
  | nil => cases h; rfl
  | cons y r ih =>
    cases h with
    | cons h1 h2 =>
      cases h1
      rw [ih h2]
      rfl
end Bw

/-! phrases and nears -/
namespace Bw
open PySem PySem.Spec PyProof.Rows L2 LamX
theorem nearP_mem {f : Int} {a b : Str} {held : List Str} {i j : Nat} : (i, j) ∈ nearP f a b held ↔ held[i]? = some a ∧ held[j]? = some b ∧ isNear f i j = true := by
  unfold nearP
  rw [List.mem_flatten]
  constructor
  · rintro ⟨l, hl, h⟩
    obtain ⟨n, hn, rfl⟩ := List.mem_map.mp hl
    obtain ⟨m, hm, e⟩ := List.mem_map.mp h
    cases e
    rw [List.mem_filter] at hm
    exact ⟨plc_mem.mp hn, plc_mem.mp hm.1, hm.2⟩
  · rintro ⟨h1, h2, h3⟩
    exact ⟨_, List.mem_map.mpr ⟨i, plc_mem.mpr h1, rfl⟩, List.mem_map.mpr ⟨j, List.mem_filter.mpr ⟨plc_mem.mpr h2, h3⟩, rfl⟩⟩
theorem runP_mem {held ur : List Str} {u : Str} {i : Nat} : i ∈ runP held (u :: ur) ↔ (held.drop i).take (u :: ur).length = u :: ur := by
  unfold runP
  rw [List.mem_filter, List.headD_cons, plc_mem]
  constructor
  · rintro ⟨_, h⟩
    exact of_decide_eq_true h
  · intro h
    refine ⟨?_, decide_eq_true h⟩
    have e : ((held.drop i).take (u :: ur).length)[0]? = some u := by rw [h]; rfl
    rw [List.getElem?_take_of_lt (by simp), List.getElem?_drop] at e
    simpa using e
theorem take_two {l : List Str} {a b : Str} : l.take 2 = [a, b] ↔ l[0]? = some a ∧ l[1]? = some b := by
  match l with
  | [] => simp
  | [x] => simp
  | x :: y :: r => simp
theorem take_three {l : List Str} {a b c : Str} : l.take 3 = [a, b, c] ↔ l[0]? = some a ∧ l[1]? = some b ∧ l[2]? = some c := by
  match l with
  | [] => simp
  | [x] => simp
  | [x, y] => simp
  | x :: y :: z :: r => simp
theorem run2 {held : List Str} {a b : Str} {i : Nat} : i ∈ runP held [a, b] ↔ held[i]? = some a ∧ held[i + 1]? = some b := by
  rw [runP_mem]
  show (held.drop i).take 2 = [a, b] ↔ _
  rw [take_two, List.getElem?_drop, List.getElem?_drop]
  rfl
theorem run3 {held : List Str} {a b c : Str} {i : Nat} : i ∈ runP held [a, b, c] ↔ held[i]? = some a ∧ held[i + 1]? = some b ∧ held[i + 2]? = some c := by
  rw [runP_mem]
  show (held.drop i).take 3 = [a, b, c] ↔ _
  rw [take_three, List.getElem?_drop, List.getElem?_drop, List.getElem?_drop]
  rfl
theorem hasN_iff {α : Type} {f : α → PyData} {l : List α} : hasN (.list (l.map f)) = true ↔ ∃ x, x ∈ l := by
  cases l with
  | nil => simp [hasN]
  | cons x r => exact ⟨fun _ => ⟨x, by simp⟩, fun _ => rfl⟩
theorem has_near {n : Nat} {f : Int} {a b : Str} {held : List Str} : hasQ (n + 1) (.tuple [.str "near", .int f, .str a, .str b]) held = true ↔ ∃ i j, held[i]? = some a ∧ held[j]? = some b ∧ isNear f i j = true := by
  rw [hasQ_plc (by decide +kernel) (by decide +kernel) (by decide +kernel), plcD_near, hasN_iff]
  constructor
  · rintro ⟨⟨i, j⟩, h⟩
    exact ⟨i, j, nearP_mem.mp h⟩
  · rintro ⟨i, j, h⟩
    exact ⟨(i, j), nearP_mem.mpr h⟩
theorem has_phrase {n : Nat} {ws held : List Str} : hasQ (n + 1) (.tuple (.str "phrase" :: ws.map PyData.str)) held = true ↔ ∃ i, i ∈ runP held ws := by
  rw [hasQ_plc (by decide +kernel) (by decide +kernel) (by decide +kernel), plcD_phrase, hasN_iff]
theorem near_of {f : Int} {i j : Nat} (h1 : 1 ≤ ((i : Int) - j).natAbs) (h2 : ((((i : Int) - j).natAbs : Nat) : Int) ≤ f) : isNear f i j = true := decide_eq_true ⟨h1, h2⟩
theorem near_inv {f : Int} {i j : Nat} (h : isNear f i j = true) : 1 ≤ ((i : Int) - j).natAbs ∧ ((((i : Int) - j).natAbs : Nat) : Int) ≤ f := of_decide_eq_true h
theorem bool_ext {a b : Bool} (h : a = true ↔ b = true) : a = b := by
  cases a <;> cases b <;> simp_all
/-- a phrase is near -/
theorem phrase_nears {n : Nat} {a b c : Str} {held : List Str} (h : hasQ (n + 2) (.tuple [.str "phrase", .str a, .str b, .str c]) held = true) :
    hasQ (n + 2) (.tuple [.str "and", .tuple [.str "near", .int 1, .str a, .str b], .tuple [.str "near", .int 1, .str b, .str c], .tuple [.str "near", .int 2, .str a, .str c]]) held = true := by
  obtain ⟨i, hi⟩ := (has_phrase (n := n + 1) (ws := [a, b, c])).mp h
  obtain ⟨h1, h2, h3⟩ := run3.mp hi
  rw [hasQ_and3, has_near.mpr ⟨i, i + 1, h1, h2, near_of (by omega) (by omega)⟩, has_near.mpr ⟨i + 1, i + 2, h2, h3, near_of (by omega) (by omega)⟩, has_near.mpr ⟨i, i + 2, h1, h3, near_of (by omega) (by omega)⟩]
  rfl
theorem near_sym {n : Nat} {f : Int} {a b : Str} {held : List Str} : hasQ (n + 1) (.tuple [.str "near", .int f, .str a, .str b]) held = hasQ (n + 1) (.tuple [.str "near", .int f, .str b, .str a]) held := by
  refine bool_ext ⟨fun h => ?_, fun h => ?_⟩
  all_goals
    obtain ⟨i, j, h1, h2, h3⟩ := has_near.mp h
    have := near_inv h3
    exact has_near.mpr ⟨j, i, h2, h1, near_of (by omega) (by omega)⟩
theorem near_up {n : Nat} {f g : Int} {a b : Str} {held : List Str} (hg : f ≤ g) (h : hasQ (n + 1) (.tuple [.str "near", .int f, .str a, .str b]) held = true) : hasQ (n + 1) (.tuple [.str "near", .int g, .str a, .str b]) held = true := by
  obtain ⟨i, j, h1, h2, h3⟩ := has_near.mp h
  have := near_inv h3
  exact has_near.mpr ⟨i, j, h1, h2, near_of (by omega) (by omega)⟩
theorem near_one {n : Nat} {a b : Str} {held : List Str} : (hasQ (n + 1) (.tuple [.str "phrase", .str a, .str b]) held || hasQ (n + 1) (.tuple [.str "phrase", .str b, .str a]) held) = hasQ (n + 1) (.tuple [.str "near", .int 1, .str a, .str b]) held := by
  refine bool_ext ⟨fun h => ?_, fun h => ?_⟩
  · rw [Bool.or_eq_true] at h
    rcases h with h | h
    · obtain ⟨i, hi⟩ := (has_phrase (ws := [a, b])).mp h
      obtain ⟨h1, h2⟩ := run2.mp hi
      exact has_near.mpr ⟨i, i + 1, h1, h2, near_of (by omega) (by omega)⟩
    · obtain ⟨i, hi⟩ := (has_phrase (ws := [b, a])).mp h
      obtain ⟨h1, h2⟩ := run2.mp hi
      exact has_near.mpr ⟨i + 1, i, h2, h1, near_of (by omega) (by omega)⟩
  · obtain ⟨i, j, h1, h2, h3⟩ := has_near.mp h
    have hn := near_inv h3
    rw [Bool.or_eq_true]
    have hij : j = i + 1 ∨ i = j + 1 := by omega
    rcases hij with rfl | rfl
    · exact .inl ((has_phrase (ws := [a, b])).mpr ⟨i, run2.mpr ⟨h1, h2⟩⟩)
    · exact .inr ((has_phrase (ws := [b, a])).mpr ⟨j, run2.mpr ⟨h2, h1⟩⟩)
/-- a longer page keeps its places -/
theorem get_longer {held : List Str} {u : List Str} {i : Nat} {a : Str} (h : held[i]? = some a) : (held ++ u)[i]? = some a := by
  rw [List.getElem?_append_left (List.getElem?_eq_some_iff.mp h).1]
  exact h
theorem near_longer {f : Int} {a b : Str} {held u : List Str} {q : Nat × Nat} (h : q ∈ nearP f a b held) : q ∈ nearP f a b (held ++ u) := by
  obtain ⟨i, j⟩ := q
  obtain ⟨h1, h2, h3⟩ := nearP_mem.mp h
  exact nearP_mem.mpr ⟨get_longer h1, get_longer h2, h3⟩
theorem run_longer {held ur us : List Str} {u : Str} {i : Nat} (h : i ∈ runP held (u :: ur)) : i ∈ runP (held ++ us) (u :: ur) := by
  rw [runP_mem] at h ⊢
  have hl : (u :: ur).length ≤ (held.drop i).length := by
    have := congrArg List.length h
    rw [List.length_take] at this
    omega
  have hi : i ≤ held.length := by
    rw [List.length_drop] at hl
    simp only [List.length_cons] at hl
    omega
  rw [List.drop_append_of_le_length hi, List.take_append_of_le_length hl]
  exact h
/-- what is in a page is in a longer one -/
theorem plcD_longer {m : Nat} {d : PyData} {held us : List Str} (hc : cnt 1 d = some m) : ∃ ds es, plcD d held = .list ds ∧ plcD d (held ++ us) = .list es ∧ GoodD (.list ds) 2 ∧ GoodD (.list es) 2 ∧ (∀ e ∈ ds, GoodD e 1) ∧ ∀ e ∈ ds, e ∈ es := by
  cases cnt_inv hc with
  | word hw =>
    refine ⟨_, _, plcD_word, plcD_word, good_nD _, good_nD _, fun e he => ?_, fun e he => ?_⟩
    · obtain ⟨n, _, rfl⟩ := List.mem_map.mp he
      exact good_int
    · obtain ⟨n, hn, rfl⟩ := List.mem_map.mp he
      exact List.mem_map.mpr ⟨n, run_longer hn, rfl⟩
  | @phrase ws a b c =>
    refine ⟨_, _, plcD_phrase, plcD_phrase, good_nD _, good_nD _, fun e he => ?_, fun e he => ?_⟩
    · obtain ⟨n, _, rfl⟩ := List.mem_map.mp he
      exact good_int
    · obtain ⟨n, hn, rfl⟩ := List.mem_map.mp he
      match ws, a with
      | u :: ur, _ => exact List.mem_map.mpr ⟨n, run_longer hn, rfl⟩
  | near a b c d =>
    refine ⟨_, _, plcD_near, plcD_near, good_pD _, good_pD _, fun e he => ?_, fun e he => ?_⟩
    · obtain ⟨q, _, rfl⟩ := List.mem_map.mp he
      exact good_tuple fun e he => by
        simp only [List.mem_cons, List.not_mem_nil, or_false] at he
        rcases he with rfl | rfl
        · exact good_int
        · exact good_int
    · obtain ⟨q, hq, rfl⟩ := List.mem_map.mp he
      exact List.mem_map.mpr ⟨q, near_longer hq, rfl⟩
  | @join k ps _ a b c =>
    obtain ⟨j1, j2, j3⟩ := join_some c
    cases ps with
    | nil => simp at j1
    | cons p r =>
      obtain ⟨c, hc⟩ := j3 p (by simp)
      cases hc
theorem units65 {k : Nat} {A : Around} (r : Room k A) : A.units + 65 < cLine := by have := r.un; omega
theorem w_gunl {K : PySem.W.Frag} {n : Nat} {t : TGs} {a : Addr} {xs : List V} {σ : L2.St} {H : Hp} {Q2 : L2.St → Hp → Prop} (h : SqL K H a xs) (hn : xs.length = n) (q : t xs σ H Q2) : gUnl K n t (.ref a) σ H Q2 := ⟨a, xs, rfl, h, hn, q⟩
theorem w_notInD {K : PySem.W.Frag} {x y : V} {d : PyData} {ds : List PyData} {n : Nat} {H : Hp} {Q : VK} (hx : Dp K H x d) (hy : Dp K H y (.list ds)) (g : GoodD d n) (gs : GoodD (.list ds) n) (hn : n ≤ 64) (hm : d ∈ ds) (q : Q (.bl false) H) : rNotInD K x y H Q := by
  refine ⟨d, ds, hx, hy, g.shaped hn, gs.shaped hn, ?_⟩
  have e : (ds.any fun z => PyData.eqv z d) = true := by
    rw [List.any_eq_true]
    exact ⟨d, hm, g.refl⟩
  rw [e]
  exact q
end Bw

/-! the law's own way to runs and pairs -/
namespace Bw
open PySem PySem.Spec PyProof.Rows L2 LamX
def lrun (ws us : List Str) : List Nat := (List.range ws.length).filter fun i => decide ((ws.drop i).take us.length = us)
/-- a comprehension, the gathered list known -/
theorem lc_finD {J : It} {n : Nat} {ok : Hp → Prop} {it : Nat → V → Hp → Hp → Prop} {g : TG} {tt : TT} {te : TE} {vs : List Nat} {σ : L2.St} {H1 : Hp} {Qd : Hp → Prop} (F : Fini J n ok it) {D : Addr} (nD : H1 D = none) (Iv : Nat → List V → Hp → Prop)
    (h0 : ∀ H2, Same H1 H2 → H2 D = some (.lst []) → Iv 0 [] H2) (hl : ∀ i acc H, i ≤ n → Iv i acc H → ok H)
    (hs : ∀ i x acc H H', i < n → acc.length ≤ i → Iv i acc H → H D = some (.lst acc) → it i x H H' → g x (wipe σ vs) H' fun σ2 H2 => wipe σ2 vs = wipe σ vs ∧ tt σ2 H2 fun b H3 =>
      if b = true then te σ2 H3 fun y H4 => ∃ acc, H4 D = some (.lst acc) ∧ acc.length < sizeLine ∧ NxI D i Iv (upd H4 D (.lst (acc ++ [y]))) else NxI D i Iv H3)
    (hd : ∀ acc H, Iv n acc H → acc.length ≤ n → H D = some (.lst acc) → Qd H) :
    ∃ W : Nat → Nat → Hp → Prop, (∃ m, W 0 m (upd H1 D (.lst []))) ∧ ∀ i m H, W i m H →
      (J.stop i H ∧ Qd H) ∨ (J.go i H ∧ ∃ Nx : Hp → Prop, (∀ H', Nx H' → ∃ m', m' < m ∧ W (i + 1) m' H') ∧ ∀ x H', J.yld i H x H' → g x (wipe σ vs) H' fun σ2 H2 => wipe σ2 vs = wipe σ vs ∧ tt σ2 H2 fun b H3 =>
        if b = true then te σ2 H3 fun y H4 => ∃ acc, H4 D = some (.lst acc) ∧ acc.length < sizeLine ∧ Nx (upd H4 D (.lst (acc ++ [y]))) else Nx H3) := by
  refine ⟨fun i m H => m = n - i ∧ i ≤ n ∧ ∃ acc, acc.length ≤ i ∧ H D = some (.lst acc) ∧ Iv i acc H, ⟨n, by simp, Nat.zero_le _, [], Nat.le_refl _, upd_same, h0 _ (same_new nD) upd_same⟩, ?_⟩
  rintro i m H ⟨rfl, hi, acc, hacc, hD, p⟩
  have o := hl i acc H hi p
  rcases Nat.lt_or_ge i n with hlt | hge
  · exact .inr ⟨F.go i H hlt o, NxI D i Iv, fun H' p' => ⟨n - (i + 1), by omega, rfl, hlt, p'⟩, fun x H' y => hs i x acc H H' hlt hacc p hD (F.yl i H x H' hlt o y)⟩
  · obtain rfl : i = n := Nat.le_antisymm hi hge
    exact .inl ⟨F.st H o, hd acc H p hacc hD⟩
/-- a.join(l), within a comprehension -/
abbrev rJoin (K : PySem.W.Frag) : V → List V → Hp → VK → Prop := fun x xs H Q => ∃ a p, ∃ ys : List Str, x = .str a ∧ xs = [.ref p] ∧ (SqL K H p (ys.map V.str) ∨ SqT K H p (ys.map V.str)) ∧
      (ys.map (·.length)).sum + ys.length * a.length ≤ 16777216 ∧ Q (.str (Txt.join a ys)) H
/-- an if: what its test tells, whichever answer -/
theorem w_ifX {tt : TT} {t u : TS} {D : Ends} {σ : L2.St} {H : Hp} (I : Bool → Hp → Prop) (h : ∀ QB : Bool → Hp → Prop, (∀ b H', I b H' → QB b H') → tt σ H QB) (k : ∀ b H', I b H' → if b = true then t D σ H' else u D σ H') : tIfS tt t u D σ H := h _ k
theorem lrun_eq {ws us : List Str} (h : us ≠ []) : lrun ws us = runP ws us := by
  obtain ⟨u, ur, rfl⟩ : ∃ u ur, us = u :: ur := by
    cases us with
    | nil => exact absurd rfl h
    | cons u ur => exact ⟨u, ur, rfl⟩
  unfold lrun runP plc
  rw [List.filter_filter]
  refine List.filter_congr fun i hi => ?_
  rw [List.headD_cons]
  by_cases hp : (ws.drop i).take (u :: ur).length = u :: ur
  · have hm := runP_mem.mpr hp
    unfold runP at hm
    rw [List.mem_filter, List.headD_cons, plc_mem] at hm
    rw [decide_eq_true hp, decide_eq_true hm.1]
    rfl
  · rw [decide_eq_false hp]
    rfl
/-- plain data that fit, by reckoning -/
def fitB : Nat → PyData → Bool
  | _, .none => true
  | _, .bool _ => true
  | _, .int _ => true
  | _, .str x => decide (x.length ≤ 1000) && PyData.strOk x
  | n + 1, .tuple ds => decide (ds.length ≤ 1000) && ds.all (fitB n)
  | n + 1, .list ds => decide (ds.length ≤ 1000) && ds.all (fitB n)
  | _, _ => false
theorem fitB_ok : ∀ {n : Nat} {d : PyData}, fitB n d = true → Fit n d := by
  intro n
  induction n with
  | zero =>
    intro d h
    cases d with
    | none => exact .inl (.inl rfl)
    | bool b => exact .inl (.inr (.inl ⟨b, rfl⟩))
    | int i => exact .inl (.inr (.inr ⟨i, rfl⟩))
    | str x =>
      unfold fitB at h
      rw [Bool.and_eq_true] at h
      exact .inr ⟨x, rfl, of_decide_eq_true h.1, h.2⟩
    | _ => cases h
  | succ n ih =>
    intro d h
    cases d with
    | none => exact .inl (.inl (.inl rfl))
    | bool b => exact .inl (.inl (.inr (.inl ⟨b, rfl⟩)))
    | int i => exact .inl (.inl (.inr (.inr ⟨i, rfl⟩)))
    | str x =>
      unfold fitB at h
      rw [Bool.and_eq_true] at h
      exact .inl (.inr ⟨x, rfl, of_decide_eq_true h.1, h.2⟩)
    | tuple ds =>
      unfold fitB at h
      rw [Bool.and_eq_true, List.all_eq_true] at h
      exact .inr ⟨ds, .inl rfl, of_decide_eq_true h.1, fun e he => ih (h.2 e he)⟩
    | list ds =>
      unfold fitB at h
      rw [Bool.and_eq_true, List.all_eq_true] at h
      exact .inr ⟨ds, .inr rfl, of_decide_eq_true h.1, fun e he => ih (h.2 e he)⟩
    | _ => cases h
/-- the pairs of one place -/
def pairsAt (f : Nat) (a b : Str) (ws : List Str) (i e : Nat) : List (Nat × Nat) :=
  ((List.range' (i - f) e).filter fun j => decide (i ≠ j ∧ ws[i]? = some a ∧ ws[j]? = some b)).map fun j => (i, j)
def wide (f n i : Nat) : Nat := min n (i + f + 1) - (i - f)
def lpairs (f : Nat) (a b : Str) (ws : List Str) (e : Nat) : List (Nat × Nat) := ((List.range e).map fun i => pairsAt f a b ws i (wide f ws.length i)).flatten
theorem flat_filter {α β : Type} (p : α → Bool) (g : α → List β) (l : List α) : ((l.filter p).map g).flatten = (l.map fun i => if p i = true then g i else []).flatten := by
  induction l with
  | nil => rfl
  | cons x r ih =>
    rw [List.filter_cons]
    by_cases h : p x = true
    · rw [if_pos h, List.map_cons, List.flatten_cons, ih, List.map_cons, List.flatten_cons, if_pos h]
    · rw [if_neg h, ih, List.map_cons, List.flatten_cons, if_neg h, List.nil_append]
theorem filter_none {α : Type} {p : α → Bool} {l : List α} (h : ∀ x ∈ l, p x = false) : l.filter p = [] := by
  rw [List.filter_eq_nil_iff]
  intro x hx
  rw [h x hx]
  exact Bool.false_ne_true
/-- a window of the places -/
theorem win {p : Nat → Bool} {n lo hi : Nat} (h1 : lo ≤ hi) (h2 : hi ≤ n) (h : ∀ j, j < n → p j = true → lo ≤ j ∧ j < hi) : (List.range n).filter p = (List.range' lo (hi - lo)).filter p := by
  have e1 : List.range n = List.range' 0 lo ++ (List.range' lo (hi - lo) ++ List.range' hi (n - hi)) := by
    have z1 := List.range'_append_1 (s := lo) (m := hi - lo) (n := n - hi)
    rw [show lo + (hi - lo) = hi by omega] at z1
    have z2 := List.range'_append_1 (s := 0) (m := lo) (n := hi - lo + (n - hi))
    rw [Nat.zero_add] at z2
    rw [z1, z2, List.range_eq_range', show lo + (hi - lo + (n - hi)) = n by omega]
  rw [e1, List.filter_append, List.filter_append]
  rw [filter_none (l := List.range' 0 lo) (fun x hx => ?_), filter_none (l := List.range' hi (n - hi)) (fun x hx => ?_), List.nil_append, List.append_nil]
  · rw [List.mem_range'_1] at hx
    cases hp : p x with
    | false => rfl
    | true => have := h x (by omega) hp; omega
  · rw [List.mem_range'_1] at hx
    cases hp : p x with
    | false => rfl
    | true => have := h x (by omega) hp; omega
theorem lpairs_eq {f : Nat} {a b : Str} {ws : List Str} : lpairs f a b ws ws.length = nearP f a b ws := by
  unfold lpairs nearP plc
  rw [flat_filter]
  refine congrArg List.flatten (List.map_congr_left fun i hi => ?_)
  rw [List.mem_range] at hi
  unfold pairsAt wide
  by_cases ha : ws[i]? = some a
  · rw [if_pos (decide_eq_true ha)]
    congr 1
    rw [List.filter_filter, win (n := ws.length) (lo := i - f) (hi := min ws.length (i + f + 1)) (by omega) (by omega) (fun j hj hp => ?_)]
    · refine List.filter_congr fun j hj => ?_
      rw [List.mem_range'_1] at hj
      by_cases hb : ws[j]? = some b
      · rw [decide_eq_true hb, Bool.and_true]
        by_cases hij : i = j
        · rw [decide_eq_false (fun z => z.1 hij)]
          exact (decide_eq_false (fun z => by have := z.1; omega)).symm
        · rw [decide_eq_true ⟨hij, ha, hb⟩]
          exact (near_of (by omega) (by omega)).symm
      · rw [decide_eq_false hb, Bool.and_false, decide_eq_false (fun z => hb z.2.2)]
    · rw [Bool.and_eq_true] at hp
      have := near_inv hp.1
      omega
  · rw [if_neg (by rw [decide_eq_false ha]; exact Bool.false_ne_true), filter_none (fun j _ => decide_eq_false fun z => ha z.2.1)]
    rfl
end Bw

/-! data that stay while one list changes; data of bounded width and depth; tuples put together, any -/
namespace Bw
open PySem PySem.Spec PyProof.Rows L2 LamX
/-- all but what S holds stays -/
def KS (S : Addr → Prop) (H H' : Hp) : Prop := ∀ c o, H c = some o → ¬ S c → H' c = some o
/-- S holds lists alone -/
def SL (S : Addr → Prop) (H : Hp) : Prop := ∀ c, S c → ∃ ys, H c = some (.lst ys)
/-- stands for d, whatever becomes of S -/
def RpX (S : Addr → Prop) (H : Hp) (v : V) (d : PyData) : Prop := ∀ H', KS S H H' → Rp H' v d
def RpsX (S : Addr → Prop) (H : Hp) (xs : List V) (ds : List PyData) : Prop := ∀ H', KS S H H' → RpAll H' xs ds
section
variable {S : Addr → Prop} {H H' : Hp}
theorem KS.refl : KS S H H := fun _ _ h _ => h
theorem KS.trans {H2 : Hp} (a : KS S H H') (b : KS S H' H2) : KS S H H2 := fun c o h n => b c o (a c o h n) n
theorem KS.of (s : Same H H') : KS S H H' := fun c o h _ => s c o h
theorem KS.kb {p : Addr} (hp : S p) (k : KB p H H') : KS S H H' := fun c o h n => k c o h (fun z => n (z ▸ hp))
theorem SL.same (h : SL S H) (s : Same H H') : SL S H' := fun c hc => by
  obtain ⟨ys, hy⟩ := h c hc
  exact ⟨ys, s _ _ hy⟩
theorem SL.kb {p : Addr} (h : SL S H) (k : KB p H H') (hp : ∃ ys, H' p = some (.lst ys)) : SL S H' := fun c hc => by
  by_cases z : c = p
  · rw [z]
    exact hp
  · obtain ⟨ys, hy⟩ := h c hc
    exact ⟨ys, k _ _ hy z⟩
theorem SL.notup {t : Addr} {xs : List V} (h : SL S H) (ht : H t = some (.tup xs)) : ¬ S t := fun z => by
  obtain ⟨ys, hy⟩ := h t z
  rw [ht] at hy
  cases hy
theorem SL.fresh {t : Addr} (h : SL S H) (ht : H t = none) : ¬ S t := fun z => by
  obtain ⟨ys, hy⟩ := h t z
  rw [ht] at hy
  cases hy
theorem RpX.rp {v : V} {d : PyData} (h : RpX S H v d) : Rp H v d := h H KS.refl
theorem RpX.ks {v : V} {d : PyData} (h : RpX S H v d) (k : KS S H H') : RpX S H' v d := fun H2 k2 => h H2 (k.trans k2)
theorem RpX.same {v : V} {d : PyData} (h : RpX S H v d) (k : Same H H') : RpX S H' v d := h.ks (KS.of k)
theorem RpsX.ks {v : List V} {d : List PyData} (h : RpsX S H v d) (k : KS S H H') : RpsX S H' v d := fun H2 k2 => h H2 (k.trans k2)
theorem RpsX.same {v : List V} {d : List PyData} (h : RpsX S H v d) (k : Same H H') : RpsX S H' v d := h.ks (KS.of k)
theorem RpsX.length {v : List V} {d : List PyData} (h : RpsX S H v d) : v.length = d.length := (h H KS.refl).length
theorem RpsX.at {vs : List V} {ds : List PyData} (h : RpsX S H vs ds) {i : Nat} {v : V} (hv : vs[i]? = some v) : ∃ d, ds[i]? = some d ∧ RpX S H v d := by
  obtain ⟨d, h1, _⟩ := (h H KS.refl).at hv
  refine ⟨d, h1, fun H' k => ?_⟩
  obtain ⟨d', h2, h3⟩ := (h H' k).at hv
  rw [h1] at h2
  cases h2
  exact h3
theorem RpsX.take {vs : List V} {ds : List PyData} (n : Nat) (h : RpsX S H vs ds) : RpsX S H (vs.take n) (ds.take n) := fun H' k => (h H' k).take n
theorem RpsX.drop {vs : List V} {ds : List PyData} (n : Nat) (h : RpsX S H vs ds) : RpsX S H (vs.drop n) (ds.drop n) := fun H' k => (h H' k).drop n
theorem RpsX.append {vs us : List V} {ds es : List PyData} (h : RpsX S H vs ds) (g : RpsX S H us es) : RpsX S H (vs ++ us) (ds ++ es) := fun H' k => (h H' k).append (g H' k)
theorem RpsX.nil : RpsX S H [] [] := fun _ _ => .nil
theorem RpsX.cons {v : V} {d : PyData} {vs : List V} {ds : List PyData} (h : RpX S H v d) (g : RpsX S H vs ds) : RpsX S H (v :: vs) (d :: ds) := fun H' k => .cons (h H' k) (g H' k)
theorem RpX.tup {t : Addr} {xs : List V} {ds : List PyData} (hS : SL S H) (ht : H t = some (.tup xs)) (h : RpsX S H xs ds) : RpX S H (.ref t) (.tuple ds) := fun H' k => .tup (k _ _ ht (hS.notup ht)) (h H' k)
theorem RpX.lst {t : Addr} {xs : List V} {ds : List PyData} (n : ¬ S t) (ht : H t = some (.lst xs)) (h : RpsX S H xs ds) : RpX S H (.ref t) (.list ds) := fun H' k => .lst (k _ _ ht n) (h H' k)
theorem RpX.str (x : Str) : RpX S H (.str x) (.str x) := fun _ _ => .str x
theorem RpX.int (x : Int) : RpX S H (.int x) (.int x) := fun _ _ => .int x
theorem RpX.bl (x : Bool) : RpX S H (.bl x) (.bool x) := fun _ _ => .bl x
theorem RpX.non : RpX S H .non .none := fun _ _ => .non
theorem RpX.of {v : V} {d : PyData} (hS : SL S H) (h : Rp H v d) (n : noL d = true) : RpX S H v d := fun H' k => h.tupk (fun a xs ha => k _ _ ha (hS.notup ha)) n
/-- one new list more -/
theorem RpX.more {v : V} {d : PyData} {l : Addr} (h : RpX S H v d) (n : H l = none) (s : Same H H') : RpX (fun c => S c ∨ c = l) H' v d := fun H2 k => h H2 fun c o hc nc => k c o (s _ _ hc) (fun z => z.elim nc (fun z => by rw [z, n] at hc; cases hc))
/-- the things of a tuple -/
theorem RpX.things {a : Addr} {ds : List PyData} (hS : SL S H) (h : RpX S H (.ref a) (.tuple ds)) : ∃ xs, H a = some (.tup xs) ∧ RpsX S H xs ds := by
  cases h.rp with
  | @tup _ xs _ ha r =>
    refine ⟨xs, ha, fun H' k => ?_⟩
    have h' := k _ _ ha (hS.notup ha)
    cases h H' k with
    | tup ha' r' =>
      rw [h'] at ha'
      cases ha'
      exact r'
/-- an if: what its test tells, what is behind it once -/
theorem w_ifXR {tt : TT} {t u : TS} {D : Ends} {σ : L2.St} {H : Hp} (I : Bool → Hp → Prop) (R : L2.St → Hp → Prop) (h : ∀ QB : Bool → Hp → Prop, (∀ b H', I b H' → QB b H') → tt σ H QB)
    (k1 : ∀ H', I true H' → (∀ σ' H2, R σ' H2 → D.nx σ' H2) → t D σ H') (k2 : ∀ H', I false H' → (∀ σ' H2, R σ' H2 → D.nx σ' H2) → u D σ H') (go : ∀ σ' H2, R σ' H2 → D.nx σ' H2) : tIfS tt t u D σ H :=
  w_ifX I h (fun b H' i => by
    cases b with
    | true => rw [if_pos rfl]; exact k1 H' i go
    | false => rw [if_neg Bool.false_ne_true]; exact k2 H' i go)
end
/-! ### bounded width and depth -/
def FlatD (d : PyData) : Prop := (d = .none ∨ (∃ b, d = .bool b) ∨ (∃ i, d = .int i)) ∨ ∃ x, d = .str x ∧ x.length ≤ 1000 ∧ PyData.strOk x = true
def Lim (l : Nat) : Nat → PyData → Prop
  | 0, d => FlatD d
  | n + 1, d => FlatD d ∨ ∃ ds : List PyData, (d = .tuple ds ∨ d = .list ds) ∧ ds.length ≤ l ∧ ∀ e ∈ ds, Lim l n e
theorem Lim.flat {l n : Nat} {d : PyData} (h : FlatD d) : Lim l n d := by
  cases n with
  | zero => exact h
  | succ n => exact .inl h
theorem Lim.wide {l k : Nat} (hl : l ≤ k) : ∀ {n : Nat} {d : PyData}, Lim l n d → Lim k n d
  | 0, _, h => h
  | n + 1, _, h => by
    rcases h with h | ⟨ds, h1, h2, h3⟩
    · exact .inl h
    · exact .inr ⟨ds, h1, Nat.le_trans h2 hl, fun e he => Lim.wide hl (h3 e he)⟩
theorem Lim.succ {l : Nat} : ∀ {n : Nat} {d : PyData}, Lim l n d → Lim l (n + 1) d
  | 0, _, h => .inl h
  | n + 1, _, h => by
    rcases h with h | ⟨ds, h1, h2, h3⟩
    · exact .inl h
    · exact .inr ⟨ds, h1, h2, fun e he => (h3 e he).succ⟩
theorem Lim.mono {l k n m : Nat} {d : PyData} (h : Lim l n d) (hl : l ≤ k) (hn : n ≤ m) : Lim k m d := by
  refine Lim.wide hl ?_
  clear hl
  induction hn with
  | refl => exact h
  | step _ ih => exact ih.succ
theorem Lim.fit {l : Nat} (hl : l ≤ 1000) : ∀ {n : Nat} {d : PyData}, Lim l n d → Fit n d
  | 0, _, h => h
  | n + 1, _, h => by
    rcases h with h | ⟨ds, h1, h2, h3⟩
    · exact .inl h
    · exact .inr ⟨ds, h1, Nat.le_trans h2 hl, fun e he => Lim.fit hl (h3 e he)⟩
theorem Lim.tuple {l n : Nat} {ds : List PyData} (h1 : ds.length ≤ l) (h : ∀ e ∈ ds, Lim l n e) : Lim l (n + 1) (.tuple ds) := .inr ⟨ds, .inl rfl, h1, h⟩
theorem Lim.list {l n : Nat} {ds : List PyData} (h1 : ds.length ≤ l) (h : ∀ e ∈ ds, Lim l n e) : Lim l (n + 1) (.list ds) := .inr ⟨ds, .inr rfl, h1, h⟩
theorem Lim.parts {l n : Nat} {ds : List PyData} (h : Lim l (n + 1) (.tuple ds)) : ds.length ≤ l ∧ ∀ e ∈ ds, Lim l n e := by
  rcases h with ((h | ⟨b, h⟩ | ⟨i, h⟩) | ⟨x, h, _⟩) | ⟨es, h | h, h1, h2⟩
  · cases h
  · cases h
  · cases h
  · cases h
  · cases h
    exact ⟨h1, h2⟩
  · cases h
theorem Lim.no0 {l : Nat} {ds : List PyData} (h : Lim l 0 (.tuple ds)) : False := by
  rcases h with (h | ⟨b, h⟩ | ⟨i, h⟩) | ⟨x, h, _⟩ <;> cases h
def flatB : PyData → Bool
  | .none => true
  | .bool _ => true
  | .int _ => true
  | .str x => decide (x.length ≤ 1000) && PyData.strOk x
  | _ => false
theorem flat_of {d : PyData} (h : flatB d = true) : FlatD d := by
  cases d with
  | none => exact .inl (.inl rfl)
  | bool b => exact .inl (.inr (.inl ⟨b, rfl⟩))
  | int i => exact .inl (.inr (.inr ⟨i, rfl⟩))
  | str x =>
    unfold flatB at h
    rw [Bool.and_eq_true] at h
    exact .inr ⟨x, rfl, of_decide_eq_true h.1, h.2⟩
  | _ => cases h
theorem flat_word {x : Str} (h : isW x = true) : FlatD (.str x) := .inr ⟨x, rfl, Nat.le_trans (isW_len h) (by decide), isW_strOk h⟩
theorem cnt_lim : ∀ {n : Nat} {d : PyData} {m : Nat}, cnt n d = some m → Lim 6 n d
  | 0, _, _, h => by cases h
  | n + 1, d, m, h => by
    have str : ∀ x ∈ (["word", "phrase", "near", "and", "or", "but"] : List Str), FlatD (.str x) := fun x hx => by
      simp only [List.mem_cons, List.not_mem_nil, or_false] at hx
      rcases hx with rfl | rfl | rfl | rfl | rfl | rfl <;> exact flat_of (by decide +kernel)
    cases cnt_inv h with
    | word hw => exact Lim.tuple (by simp) (fun e he => by
        simp only [List.mem_cons, List.not_mem_nil, or_false] at he
        rcases he with rfl | rfl
        · exact Lim.flat (str _ (by simp))
        · exact Lim.flat (flat_word hw))
    | @phrase ws h1 h2 h3 => exact Lim.tuple (by simp; omega) (fun e he => by
        rcases List.mem_cons.mp he with rfl | he
        · exact Lim.flat (str _ (by simp))
        · obtain ⟨w, hw, rfl⟩ := List.mem_map.mp he
          exact Lim.flat (flat_word (h3 w hw)))
    | near h1 h2 h3 h4 => exact Lim.tuple (by simp) (fun e he => by
        simp only [List.mem_cons, List.not_mem_nil, or_false] at he
        rcases he with rfl | rfl | rfl | rfl
        · exact Lim.flat (str _ (by simp))
        · exact Lim.flat (flat_of rfl)
        · exact Lim.flat (flat_word h3)
        · exact Lim.flat (flat_word h4))
    | @join k ps _ a b c =>
      obtain ⟨j1, j2, j3⟩ := join_some c
      refine Lim.tuple (by simp; omega) (fun e he => ?_)
      rcases List.mem_cons.mp he with rfl | he
      · refine Lim.flat (str _ ?_)
        rcases a with rfl | rfl | rfl <;> simp
      · obtain ⟨c', hc'⟩ := j3 e he
        exact cnt_lim hc'
section
variable {K : PySem.W.Frag} {H : Hp} {Q : VK}
/-- t + u, any -/
theorem w_catA {a b : Addr} {xs ys : List V} (ha : H a = some (.tup xs)) (hb : H b = some (.tup ys)) (hl : xs.length + ys.length ≤ 100000) (k : ∀ p H2, Same H H2 → H2 p = some (.tup (xs ++ ys)) → Q (.ref p) H2) : rCatA K (.ref a) (.ref b) H Q :=
  ⟨a, b, xs, ys, rfl, rfl, .of ha, .of hb, Nat.le_trans hl (by decide), fun e => k b H (.refl _) (by rw [e, List.nil_append]; exact hb), fun _ e => k a H (.refl _) (by rw [e, List.append_nil]; exact ha), fun _ _ p n => k p _ (same_new n) upd_same⟩
theorem w_slA {a : Addr} {xs : List V} {lo hi : Option Int} (h : H a = some (.tup xs)) (k : ∀ p H2, Same H H2 → H2 p = some (.tup (cutV xs lo hi)) → Q (.ref p) H2) : rSlA K (.ref a) lo hi H Q := by
  refine ⟨a, xs, rfl, .of h, fun e => k a H (.refl _) ?_, fun _ p n => k p _ (same_new n) upd_same⟩
  rw [h]
  unfold cutV
  rw [e.1, e.2, List.drop_zero, Nat.sub_zero, List.take_length]
/-- t[:i] -/
theorem w_slA1 {a : Addr} {xs : List V} {i : Nat} (h : H a = some (.tup xs)) (hi : i ≤ xs.length) (k : ∀ p H2, Same H H2 → H2 p = some (.tup (xs.take i)) → Q (.ref p) H2) : rSlA K (.ref a) none (some (i : Int)) H Q := w_slA h fun p H2 s h2 => k p H2 s (by rw [h2, cutV_take hi])
/-- t[i:] -/
theorem w_slA2 {a : Addr} {xs : List V} {i : Nat} (h : H a = some (.tup xs)) (hi : i ≤ xs.length) (k : ∀ p H2, Same H H2 → H2 p = some (.tup (xs.drop i)) → Q (.ref p) H2) : rSlA K (.ref a) (some (i : Int)) none H Q := w_slA h fun p H2 s h2 => k p H2 s (by rw [h2, cutV_drop hi])
end
/-- a count as the law tells it -/
def cntI : Option Nat → Int
  | some m => m
  | none => -1
end Bw

/-! tuple[::-1]; zip of two tuples; list += list -/
namespace HT
open PySem PySem.Spec PyProof.Rows L2
section
variable {prog : Program} {w : World} {A : Around} {E : Value → Shared → Prop} {s : Shared}
theorem adjust_rev (n : Nat) : Builtin.Slice.sliceAdjust none none (-1) (n : Int) = ((n : Int) - 1, -1) := by
  unfold Builtin.Slice.sliceAdjust
  simp
theorem places_rev (n : Nat) : Builtin.Slice.slicePlaces ((n : Int) - 1) (-1) (-1) = n := by
  unfold Builtin.Slice.slicePlaces
  simp
  try omega
theorem pick_rev (xs : List Value) : ((List.range xs.length).filterMap fun (m : Nat) => xs.toArray[(((xs.length : Nat) : Int) - 1 + (m : Int) * (-1)).toNat]?) = xs.reverse := by
  have e : ∀ m, m < xs.length → xs.toArray[(((xs.length : Nat) : Int) - 1 + (m : Int) * (-1)).toNat]? = xs.reverse[m]? := fun m hm => by
    have : (((xs.length : Nat) : Int) - 1 + (m : Int) * (-1)).toNat = xs.length - 1 - m := by omega
    rw [this, List.getElem?_reverse hm]
    simp
  have cg : ∀ (l : List Nat) (f g : Nat → Option Value), (∀ m ∈ l, f m = g m) → l.filterMap f = l.filterMap g := fun l f g hfg => by
    induction l with
    | nil => rfl
    | cons x r ih =>
      rw [List.filterMap_cons, List.filterMap_cons, hfg x List.mem_cons_self, ih fun m hm => hfg m (List.mem_cons_of_mem _ hm)]
  rw [cg _ _ (fun m => xs.reverse[m]?) (fun m hm => e m (List.mem_range.mp hm))]
  have : ∀ (l : List Value), (List.range l.length).filterMap (fun m => l[m]?) = l := fun l => by
    induction l with
    | nil => rfl
    | cons a r ih =>
      rw [List.length_cons, List.range_succ_eq_map, List.filterMap_cons]
      simp [List.filterMap_map]
      exact ih
  have h := this xs.reverse
  rw [List.length_reverse] at h
  exact h
theorem sliceApplied_rev {sl : Addr} {vl vu vs : Value} {n : Nat} {Q : Int × Int × Nat → Shared → Prop} (hs : s.heap.IsSliceOf sl vl vu vs) (pl : IsPart vl none) (pu : IsPart vu none) (ps : IsPart vs (some (-1)))
    (h : Q (((n : Int) - 1), -1, n) s) : wpAny (model prog w) A (Builtin.Slice.sliceApplied (.ref sl) (pure (n : Int))) Q E s := by
  obtain ⟨os, hos, hcs, hds⟩ := id hs
  unfold Builtin.Slice.sliceApplied Builtin.Slice.sliceFields
  refine wpAny_bind (wpAny_bind (wpAny_field hos hds (x := vl) rfl (wpAny_bind (wpAny_field hos hds (x := vu) rfl (wpAny_bind (wpAny_field hos hds (x := vs) rfl (wpAny_pure ?_)))))))
  refine wpAny_bind (slicePart_ ps ?_)
  show wpAny _ _ (if ((-1 : Int) == 0) = true then _ else _) _ _ s
  rw [if_neg (by decide)]
  refine wpAny_bind (slicePart_ pl (wpAny_bind (slicePart_ pu (wpAny_bind (wpAny_pure ?_)))))
  show wpAny _ _ (match Builtin.Slice.sliceAdjust none none (-1) (n : Int) with | (lo, hi) => pure (lo, (-1 : Int), Builtin.Slice.slicePlaces lo hi (-1))) _ _ s
  rw [adjust_rev]
  show wpAny _ _ (pure (((n : Int) - 1), (-1 : Int), Builtin.Slice.slicePlaces ((n : Int) - 1) (-1) (-1))) _ _ s
  rw [places_rev]
  exact wpAny_pure h
theorem getItem_tuple_rev {t sl : Addr} {its : List Value} {vl vu vs : Value} {Q : Value → Shared → Prop} (ht : IsTup s.heap t its.toArray) (hs : s.heap.IsSliceOf sl vl vu vs) (pl : IsPart vl none) (pu : IsPart vu none) (ps : IsPart vs (some (-1)))
    (h : Q (.ref s.heap.objs.size) { s with heap := s.heap.push { cls := .type "tuple", data := .seq its.reverse.toArray } })
    (hsz : its.length ≤ sizeLine) : wpAny (model prog w) A (getItem (.ref t) (.ref sl)) Q E s := by
  have htake : sizeOk (.seq its.reverse.toArray) := by
    show its.reverse.toArray.size ≤ sizeLine
    rw [List.size_toArray, List.length_reverse]
    exact hsz
  obtain ⟨os, hos, hcs, hds⟩ := id hs
  have hTs : s.TypeIs (.ref sl) "slice" := ⟨os, hos, hcs⟩
  unfold getItem
  try with_reducible refine wpAny_holding ?_
  first | refine wpAny_bind (wpAny_pure ?_) | skip
  refine wpAny_bind (wpAny_sequenceKey ht.typeIs (by decide) ?_)
  refine wpAny_bind (wpAny_callSpecial?_slot (name := Str.ofString "__getitem__") ht.typeIs PyProof.Rows.slot_tuple_getitem
    (wpAny_call_entry PyProof.Rows.slot_tuple_getitem ht.typeIs entry_tuple_getitem ?_ (args_tuple_getitem _ _)))
  show wpAny _ _ (Builtin.Tuple.tupleItemsOf (.ref t) >>= _) _ _ s
  refine wpAny_bind (tupleItemsOf_ ht ?_)
  refine wpAny_bind (wpAny_typeOf hTs ?_)
  rw [if_pos (by decide)]
  refine wpAny_bind (sliceApplied_rev hs pl pu ps ?_)
  have hno : ¬ ((((its.toArray.size : Nat) : Int) - 1 == 0 && (-1 : Int) == 1 && its.toArray.size == its.toArray.size) = true) := by
    intro q
    rw [Bool.and_eq_true, Bool.and_eq_true] at q
    exact absurd q.1.2 (by decide)
  show wpAny _ _ (if (((its.toArray.size : Nat) : Int) - 1 == 0 && (-1 : Int) == 1 && its.toArray.size == its.toArray.size) = true then _ else _) _ _ s
  have ep : ((List.range its.toArray.size).filterMap fun (m : Nat) => its.toArray[(((its.toArray.size : Nat) : Int) - 1 + (m : Int) * (-1)).toNat]?) = its.reverse := by
    rw [List.size_toArray]
    exact pick_rev its
  rw [if_neg hno, ep]
  first
    | exact wpAny_bind (m := Builtin.Tuple.tupleExact _) (wpAny_newObj_type (wpAny_pure ⟨_, rfl, wpAny_pure h⟩) htake)
    | exact wpAny_bind (m := Builtin.Tuple.tupleExact _) (wpAny_newObj_type (wpAny_bind (wpAny_pure (wpAny_pure ⟨_, rfl, wpAny_pure h⟩))) htake)
    | exact wpAny_bind (wpAny_bind (m := Builtin.Tuple.tupleExact _) (wpAny_newObj_type (wpAny_pure (wpAny_pure ⟨_, rfl, wpAny_pure h⟩)) htake))
    | exact wpAny_bind (wpAny_bind (m := Builtin.Tuple.tupleExact _) (wpAny_newObj_type (wpAny_pure ⟨_, rfl, wpAny_pure h⟩) htake))
end
end HT

namespace L2
open PySem PySem.Spec PyProof.Rows
section
variable {X : Cx}
def tRevT (K : PySem.W.Frag) (te : TE) : TE := fun σ H Q => te σ H fun x H1 => ∃ a xs, x = .ref a ∧ SqT K H1 a xs ∧ ∀ p, H1 p = none → Q (.ref p) (upd H1 p (.tup xs.reverse))
theorem pe_revT {e : Expr} {te : TE} {k : Nat} {p1 p2 p3 pos : Pos} (he : PE X e te) : PE X (.Subscript e (.Slice none none (some (.UnaryOp .USub (.Constant (.int 1) k p1) p2)) p3) pos) (tRevT X.K te) := by
  refine ⟨fun pins s σ H Q I h => ?_⟩
  refine Subscript_ (thn (he.run pins s σ H _ I h) fun v s1 ⟨x, H1, I1, r1, q1⟩ => ?_)
  obtain ⟨a, xs, ex, hx, q⟩ := q1
  subst ex
  cases r1
  have hst : PO X (some (.UnaryOp .USub (.Constant (.int 1) k p1) p2)) (tPart (tUn (rU fun i => .int (-i)) (tC (.int 1)))) := po_some (pe_un un_neg pe_int)
  refine wpAny_Slice (thn (po_none.run pins s1 σ H1 (fun o H2 => o = none ∧ H2 = H1) I1 ⟨rfl, rfl⟩) fun vl s2 ⟨l, H2, I2, pl, el, e2⟩ => ?_)
  subst el e2
  refine thn (po_none.run pins s2 σ H2 (fun o H3 => o = none ∧ H3 = H2) I2 ⟨rfl, rfl⟩) fun vu s3 ⟨u, H3, I3, pu, eu, e3⟩ => ?_
  subst eu e3
  refine thn (hst.run pins s3 σ H3 (fun o H4 => o = some (-1) ∧ H4 = H3) I3 ⟨1, rfl, -1, rfl, rfl, rfl⟩) fun vs s4 ⟨o, H4, I4, ps, eo, e4⟩ => ?_
  subst eo e4
  have I5 : Inv X pins σ H4 { s4 with heap := s4.heap.push { cls := .type "slice", data := .fields #[vl, vu, vs] } } := I4.kept (t' := s4.toks) fun b ob q => Heap.get?_push_of_some _ q
  obtain ⟨its, r, ht, hz⟩ := I5.tuple hx
  have hlen := r.length
  show wpAny (model X.prog X.w) X.A (subscriptTail e (.Slice none none (some (.UnaryOp .USub (.Constant (.int 1) k p1) p2)) p3) (.ref a) (.ref s4.heap.objs.size)) (EP X pins σ Q) X.xe { s4 with heap := s4.heap.push { cls := .type "slice", data := .fields #[vl, vu, vs] } }
  refine tail_any (ops := [.ref a, .ref s4.heap.objs.size]) ht.typeIs (PyProof.Rows.slot_tuple_getitem.lookup) ?_ (by with_unfolding_all rfl)
  refine HT.getItem_tuple_rev ht (Heap.IsSliceOf.new _ vl vu vs) pl pu ps ?_ (by omega)
  refine ⟨.ref _, _, I5.laid (t' := s4.toks) (o := .tup xs.reverse) (fun b ob q => Heap.get?_push_of_some _ q) (Nat.le_refl _) ?_, rfl, q _ (I5.hok.fresh (Nat.le_refl _))⟩
  exact ⟨by rw [List.length_reverse]; exact hz, _, r.reverse, IsTup.new _ _⟩
end
end L2

namespace Bw
open PySem PySem.Spec PyProof.Rows L2 LamX RZ
theorem ip_ext {X : Cx} : PIp X .Add rExt2 := fun pins s σ H x y v u Q I rx ry h => iop_ext pins s σ H x y v u Q I rx ry h
section
variable {K : PySem.W.Frag} {H : Hp} {Q : VK} {σ : L2.St}
theorem w_revTE {te : TE} (h : te σ H fun x H1 => ∃ a xs, x = .ref a ∧ SqT K H1 a xs ∧ ∀ p, H1 p = none → Q (.ref p) (upd H1 p (.tup xs.reverse))) : tRevT K te σ H Q := h
theorem w_revT {a : Addr} {xs : List V} (h : H a = some (.tup xs)) (k : ∀ p H2, H p = none → Same H H2 → H2 p = some (.tup xs.reverse) → Q (.ref p) H2) : ∃ a' xs, V.ref a = .ref a' ∧ SqT K H a' xs ∧ ∀ p, H p = none → Q (.ref p) (upd H p (.tup xs.reverse)) := ⟨a, xs, rfl, .of h, fun p n => k p _ n (same_new n) upd_same⟩
theorem w_ext2 {l b : Addr} {xs zs : List V} (h1 : H l = some (.lst xs)) (h2 : H b = some (.lst zs)) (hl : xs.length + zs.length ≤ 100000) (k : ∀ H2, KB l H H2 → H2 l = some (.lst (xs ++ zs)) → Q (.ref l) H2) : rExt2 (.ref l) (.ref b) H Q := ⟨l, b, xs, zs, rfl, rfl, h1, h2, Nat.le_trans hl (by decide), k _ kb_upd upd_same⟩
theorem w_zipA {ta : TA} {R : It → Hp → Prop} (h : ta σ H fun vs H1 => ∃ a b xs ys, vs = [.ref a, .ref b] ∧ ((SqL K H1 a xs ∧ SqL K H1 b ys ∧ R (Itz K a b) H1) ∨ (SqT K H1 a xs ∧ SqT K H1 b ys ∧ R (ItzT K a b) H1))) : iZipA K ta σ H R := h
theorem fin_zipT {a b : Addr} {xs ys : List V} (n : Nat) (hn : n = min xs.length ys.length) : Fini (ItzT K a b) n (fun H => SqT K H a xs ∧ SqT K H b ys) (fun i v H H' => ∃ T x y, v = .ref T ∧ H T = none ∧ Same H H' ∧ H' T = some (.tup [x, y]) ∧ xs[i]? = some x ∧ ys[i]? = some y) :=
  ⟨fun i H h o => ⟨xs, ys, xs[i]'(by omega), ys[i]'(by omega), o.1, o.2, List.getElem?_eq_getElem _, List.getElem?_eq_getElem _⟩, fun i H v H' h o y => by
    obtain ⟨T, x, z, e, n, e', q, r⟩ := y
    subst e'
    exact ⟨T, x, z, e, n, same_new n, upd_same, q xs o.1, r ys o.2⟩, fun H o => ⟨xs, ys, o.1, o.2, by omega⟩⟩
end
end Bw

/-! xs.clear(); xs[:] = ys; range with a step -/
namespace L2
open PySem PySem.Spec PyProof.Rows
section
variable {prog : Program} {w : World} {A : Around} {E : Value → Shared → Prop} {s : Shared}
theorem bounds_all (n : Nat) : sliceBounds none none none n = ((0 : Int), (n : Int), 1) := by
  simp [sliceBounds]
/-- xs[:] = another list, at the model's level -/
theorem setItem_all {l b sl : Addr} {items new : Array Value} {n n2 : Nat} {Q : Unit → Shared → Prop}
    (e : s.heap.get? l = some { cls := .type "list", data := .seq items n }) (e2 : s.heap.get? b = some { cls := .type "list", data := .seq new n2 }) (hne : l ≠ b)
    (hs : s.heap.IsSliceOf sl .none .none .none) (hsz : items.size + new.size ≤ sizeLine) (h : Q () { s with heap := s.heap.update l (Obj.mapSeq fun xs => xs.extract 0 0 ++ new ++ xs.extract items.size xs.size) }) :
    wpAny (model prog w) A (setItem (.ref l) (.ref sl) (.ref b)) Q E s := by
  have hl : s.heap.IsList l items := PySem.IsL.isList e
  have hb : s.heap.IsList b new := PySem.IsL.isList e2
  obtain ⟨os, hos, hcs, hds⟩ := id hs
  have hTs : s.TypeIs (.ref sl) "slice" := ⟨os, hos, hcs⟩
  have hstep : ¬ ((rawPart none == rawInt 0) = true) := Bool.false_ne_true
  have hsame : Builtin.List.listSameRef (.ref l) (.ref b) = false := by
    unfold Builtin.List.listSameRef
    exact beq_eq_false_iff_ne.mpr hne
  have hmax : (max (0 : Int) (items.size : Int)).toNat = items.size := by omega
  have hz' : ((fun xs : Array Value => xs.extract 0 0 ++ new ++ xs.extract items.size xs.size) items).size ≤ sizeLine + 1 := by
    simp only [Array.size_append, Array.size_extract]
    omega
  unfold setItem
  try with_reducible refine wpAny_holding ?_
  first | refine wpAny_bind (wpAny_pure ?_) | skip
  refine wpAny_bind (wpAny_sequenceKey hl.typeIs (by decide) ?_)
  refine wpAny_bind (wpAny_callSpecial?_slot (name := Str.ofString "__setitem__") hl.typeIs slot_list_setitem
    (wpAny_call_entry slot_list_setitem hl.typeIs entry_list_setitem ?_ (args_list_setitem _ _ _)))
  show wpAny _ _ (Builtin.List.listSubscript? (.ref sl) >>= _) _ _ s
  refine wpAny_bind ?_
  unfold Builtin.List.listSubscript?
  refine wpAny_bind (wpAny_specialOf hTs slice_no_index ?_)
  simp only [Option.isNone_none, if_true]
  refine wpAny_pure ?_
  show wpAny _ _ (typeOf (.ref sl) >>= _) _ _ s
  refine wpAny_bind (wpAny_typeOf hTs ?_)
  first
    | rw [if_neg (by decide)]
    | refine PySem.W.KFB.if_not (by decide) ?_
  rw [listSliceParts_eq]
  refine wpAny_bind (wpAny_bind (wpAny_field hos hds (x := .none) rfl (wpAny_bind (wpAny_listPart .none ?_))))
  rw [if_neg hstep]
  refine wpAny_bind (wpAny_field hos hds (x := .none) rfl (wpAny_bind (wpAny_listPart .none ?_)))
  refine wpAny_bind (wpAny_field hos hds (x := .none) rfl (wpAny_bind (wpAny_listPart .none (wpAny_pure ?_))))
  first
    | simp only [hsame, Bool.false_eq_true, if_false]
    | refine PySem.W.KFB.if_not hsame ?_
    | (dsimp only
       rw [if_neg (by rw [hsame]; exact Bool.false_ne_true)])
  refine wpAny_bind (m := Builtin.List.listAllItems (.ref b) "must assign iterable to extended slice") ?_
  unfold Builtin.List.listAllItems
  refine wpAny_bind (wpAny_typeOf hb.typeIs ?_)
  first
    | refine PySem.W.KFB.if_so (by decide) ?_
    | rw [if_pos (by decide)]
    | simp only [beq_self_eq_true, Bool.true_or, if_true]
  unfold Builtin.List.listItems
  refine wpAny_bind (wpAny_seqItems e2 rfl (wpAny_pure ?_))
  refine wpAny_bind (wpAny_bind (wpAny_seqItems e rfl (wpAny_pure ?_)))
  refine wpAny_bind (wpAny_of_eq ((sliceIndices_raw none none none items.size (by simp)).trans (congrArg (pure : Int × Int × Int → Sem (Int × Int × Int)) (bounds_all items.size))) ?_)
  show wpAny _ _ (if ((1 : Int) == 1) = true then _ else _) _ _ s
  rw [if_pos (by decide)]
  refine wpAny_bind (wpAny_rule ?_)
  first
    | simp only [notLongL hsz, Bool.false_eq_true, if_false]
    | refine PySem.W.KFB.if_not (notLongL hsz) ?_
  first | refine wpAny_bind (wpAny_pure ?_) | skip
  show wpAny _ _ (updateSeq l (fun xs => xs.extract 0 ((0 : Int)).toNat ++ new ++ xs.extract (max (0 : Int) (items.size : Int)).toNat xs.size) >>= _) _ _ s
  rw [hmax]
  refine wpAny_bind (wpAny_updateSeq (hz := Nat.le_trans (Nat.le_add_right _ _) hsz) (_hz' := hz') e rfl ?_)
  refine wpAny_bind (wpAny_letGo ?_)
  first
    | exact wpAny_bind (wpAny_pure (wpAny_pure ⟨.none, rfl, wpAny_pure h⟩))
    | exact wpAny_pure ⟨.none, rfl, wpAny_pure h⟩
end
section
variable {X : Cx}
theorem set_all {pins : List (Addr × Obj)} {s : Shared} {σ : St} {H : Hp} {l b sl : Addr} {xs ys : List V} {Q : Unit → Shared → Prop} (I : Inv X pins σ H s)
    (hH : H l = some (.lst xs)) (hB : H b = some (.lst ys)) (hne : l ≠ b) (hs : s.heap.IsSliceOf sl .none .none .none) (hz : xs.length + ys.length ≤ sizeLine) (h : ∀ s', Inv X pins σ (upd H l (.lst ys)) s' → Q () s') :
    wpAny (model X.prog X.w) X.A (setItem (.ref l) (.ref sl) (.ref b)) Q X.xe s := by
  obtain ⟨z, its, n, r, hl, e⟩ := I.lstM hH
  obtain ⟨z2, its2, n2, r2, hl2, e2⟩ := I.lstM hB
  refine setItem_all e e2 hne hs (by rw [List.size_toArray, List.size_toArray]; omega) (h _ ?_)
  refine I.lset (its' := its2) (t' := s.toks) hH e ?_ r2 (by omega)
  show its.toArray.extract 0 0 ++ its2.toArray ++ its.toArray.extract its.toArray.size its.toArray.size = its2.toArray
  rw [List.size_toArray]
  have := splice_eq its its2 0 its.length
  rw [List.size_toArray] at this
  rw [this]
  simp
def gAll (to : TE) : TG := fun v σ H Q => to σ H fun x H1 => ∃ l b xs ys, x = .ref l ∧ v = .ref b ∧ H1 l = some (.lst xs) ∧ H1 b = some (.lst ys) ∧ l ≠ b ∧ xs.length + ys.length ≤ sizeLine ∧ Q σ (upd H1 l (.lst ys))
theorem pg_all {o : Expr} {to : TE} {p2 pos : Pos} (ho : PE X o to)
    (ha : ∀ v, assign (.Subscript o (.Slice none none none p2) pos) X.env v = (do
      let ov ← holding [v] (eval o X.env)
      let iv ← holding [v, ov] (eval (.Slice none none none p2) X.env)
      standAt pos
      holding [v, ov, iv] (setItem ov iv v)
      release [iv, v, ov] []) := by intro _; rfl) : PG X (.Subscript o (.Slice none none none p2) pos) (gAll to) := by
  refine ⟨fun pins s σ H v u Q I r h => ?_⟩
  rw [ha]
  refine wpAny_bind (wpAny_holding (thn (ho.run pins s σ H _ I h) fun ov s1 ⟨x, H1, I1, r1, q1⟩ => ?_))
  obtain ⟨l, b, xs, ys, rfl, rfl, hl, hb, hne, hz, q⟩ := q1
  cases r1
  cases r
  refine wpAny_bind (wpAny_holding (wpAny_Slice ?_))
  rw [evalPart_none]
  refine wpAny_pure (wpAny_pure (wpAny_pure ?_))
  have I4 : Inv X pins σ H1 { s1 with heap := s1.heap.push { cls := .type "slice", data := .fields #[.none, .none, .none] } } := I1.kept (t' := s1.toks) fun b ob q => Heap.get?_push_of_some _ q
  refine wpAny_bind (wpAny_standAt (wpAny_bind (wpAny_holding (set_all I4 hl hb hne (Heap.IsSliceOf.new ..) hz fun s' I5 => ?_))))
  exact wpAny_release ⟨σ, _, I5, q⟩
end
end L2
namespace Bw
open PySem PySem.Spec PyProof.Rows L2
section
variable {K : PySem.W.Frag} {H : Hp} {Q : VK}
theorem w_clear {l : Addr} {xs : List V} (h : H l = some (.lst xs)) (k : ∀ H2, KB l H H2 → H2 l = some (.lst []) → Q .non H2) : rClear (.ref l) [] H Q := ⟨l, xs, rfl, rfl, h, k _ kb_upd upd_same⟩
theorem fin_rngC {lo c : Int} {n : Nat} : Fini (Itc lo c n) n (fun _ => True) (fun i x H H' => H' = H ∧ x = .int (lo + i * c)) := ⟨fun _ _ h _ => h, fun _ _ _ _ _ _ h => h, fun _ _ => Nat.le_refl _⟩
theorem w_gall {to : TE} {v : V} {σ : L2.St} {R : L2.St → Hp → Prop} (h : to σ H fun x H1 => ∃ l b xs ys, x = .ref l ∧ v = .ref b ∧ H1 l = some (.lst xs) ∧ H1 b = some (.lst ys) ∧ l ≠ b ∧ xs.length + ys.length ≤ sizeLine ∧ R σ (upd H1 l (.lst ys))) : gAll to v σ H R := h
end
/-- how many blocks -/
def cuts (len c : Nat) : Nat := (len + c - 1) / c
theorem rg_small : ∀ len : Nat, len ≤ 60 → ∀ c : Nat, 1 ≤ c → c ≤ 8 → RgC 0 (len : Int) (c : Int) (cuts len c) := by
  have h : ∀ len : Nat, len ≤ 60 → ∀ c : Nat, c ≤ 8 → 1 ≤ c → ((c : Int) ≠ 0 ∧ (c : Int).natAbs < 1073741824 ∧ Builtin.Range.small 0 (len : Int) (c : Int) = true ∧ Builtin.Range.rangeSize 0 (len : Int) (c : Int) = ((cuts len c : Nat) : Int)) := by decide +kernel
  intro len hl c h1 h8
  exact h len hl c h8 h1
end Bw

/-! entries, plainly -/
namespace Bw
open PySem PySem.Spec PyProof.Rows L2 LamX
abbrev Etr := Nat × List Nat
def eD (e : Etr) : PyData := .tuple [.int e.1, .tuple (e.2.map nD)]
/-- whole numbers, rising behind the last one -/
def risD : Int → List PyData → Bool
  | _, [] => true
  | l, .int n :: r => decide (l < n) && risD n r
  | _, _ :: _ => false
def isE : PyData → Bool
  | .tuple [.int s, .tuple ps] => decide (0 ≤ s) && (!ps.isEmpty && risD (-1) ps)
  | _ => false
def slotD : PyData → Int
  | .tuple (.int s :: _) => s
  | _ => 0
/-- the first wrong entry -/
def wrE : Int → Nat → List PyData → Option Nat
  | _, _, [] => none
  | l, k, d :: r => if isE d = true ∧ l < slotD d then wrE (slotD d) (k + 1) r else some k
theorem risD_nats : ∀ {ps : List PyData} {b : Nat}, risD ((b : Int) - 1) ps = true → ∃ ns : List Nat, ps = ns.map nD ∧ CM.Rising b ns
  | [], b, _ => ⟨[], rfl, trivial⟩
  | d :: r, b, h => by
    cases d with
    | int n =>
      unfold risD at h
      rw [Bool.and_eq_true] at h
      have h1 := of_decide_eq_true h.1
      obtain ⟨m, rfl⟩ : ∃ m : Nat, n = (m : Int) := ⟨n.toNat, by omega⟩
      obtain ⟨ns, e, hr⟩ := risD_nats (b := m + 1) (by rw [show (((m + 1 : Nat) : Int) - 1) = (m : Int) by omega]; exact h.2)
      exact ⟨m :: ns, by rw [e]; rfl, ⟨by omega, hr⟩⟩
    | _ => cases h
theorem nats_risD : ∀ {ns : List Nat} {b : Nat}, CM.Rising b ns → risD ((b : Int) - 1) (ns.map nD) = true
  | [], _, _ => rfl
  | n :: r, b, h => by
    obtain ⟨h1, h2⟩ := h
    have := nats_risD h2
    rw [List.map_cons]
    show (decide (((b : Int) - 1) < (n : Int)) && risD (n : Int) (r.map nD)) = true
    rw [show (((n + 1 : Nat) : Int) - 1) = (n : Int) by omega] at this
    rw [this, decide_eq_true (by omega)]
    rfl
theorem isE_of {d : PyData} (h : isE d = true) : ∃ e : Etr, d = eD e ∧ e.2 ≠ [] ∧ CM.Rising 0 e.2 := by
  unfold isE at h
  split at h
  · rename_i s ps
    rw [Bool.and_eq_true, Bool.and_eq_true] at h
    have h1 := of_decide_eq_true h.1
    obtain ⟨ns, rfl, hr⟩ := risD_nats (b := 0) h.2.2
    obtain ⟨m, rfl⟩ : ∃ m : Nat, s = (m : Int) := ⟨s.toNat, by omega⟩
    refine ⟨(m, ns), rfl, fun z => ?_, hr⟩
    have h2 := h.2.1
    rw [show ns = [] from z] at h2
    cases h2
  · cases h
theorem eD_isE {e : Etr} (h1 : e.2 ≠ []) (h2 : CM.Rising 0 e.2) : isE (eD e) = true := by
  show (decide ((0 : Int) ≤ (e.1 : Int)) && ((!(e.2.map nD).isEmpty) && risD (-1) (e.2.map nD))) = true
  have := nats_risD h2
  rw [show (((0 : Nat) : Int) - 1) = -1 by rfl] at this
  rw [this, decide_eq_true (by omega)]
  cases he : e.2 with
  | nil => exact absurd he h1
  | cons _ _ => rfl
def EntOk (b : Nat) (es : List Etr) : Prop := CM.Rising b (es.map (·.1)) ∧ ∀ e ∈ es, e.2 ≠ [] ∧ CM.Rising 0 e.2
theorem wrE_none : ∀ {ds : List PyData} {b k : Nat}, wrE ((b : Int) - 1) k ds = none → ∃ es : List Etr, ds = es.map eD ∧ EntOk b es
  | [], b, k, _ => ⟨[], rfl, trivial, fun e he => absurd he (by simp)⟩
  | d :: r, b, k, h => by
    unfold wrE at h
    split at h
    · rename_i hc
      obtain ⟨e, rfl, h1, h2⟩ := isE_of hc.1
      have hs : slotD (eD e) = (e.1 : Int) := rfl
      rw [hs] at h
      obtain ⟨es, rfl, h3, h4⟩ := wrE_none (b := e.1 + 1) (by rw [show (((e.1 + 1 : Nat) : Int) - 1) = (e.1 : Int) by omega]; exact h)
      have hb : b ≤ e.1 := by have := hc.2; rw [hs] at this; omega
      refine ⟨e :: es, rfl, ⟨hb, h3⟩, fun e' he => ?_⟩
      rcases List.mem_cons.mp he with rfl | he
      · exact ⟨h1, h2⟩
      · exact h4 e' he
    · cases h
theorem none_wrE : ∀ {es : List Etr} {b k : Nat}, EntOk b es → wrE ((b : Int) - 1) k (es.map eD) = none
  | [], _, _, _ => rfl
  | e :: r, b, k, h => by
    obtain ⟨⟨h1, h2⟩, h3⟩ := h
    obtain ⟨h4, h5⟩ := h3 e List.mem_cons_self
    rw [List.map_cons]
    unfold wrE
    have hs : slotD (eD e) = (e.1 : Int) := rfl
    have h1' : b ≤ e.1 := h1
    rw [hs, if_pos ⟨eD_isE h4 h5, by omega⟩]
    have := none_wrE (k := k + 1) (b := e.1 + 1) (es := r) ⟨h2, fun e' he => h3 e' (List.mem_cons_of_mem _ he)⟩
    rw [show (((e.1 + 1 : Nat) : Int) - 1) = (e.1 : Int) by omega] at this
    exact this
theorem wrE_some : ∀ {ds : List PyData} {l : Int} {k j : Nat}, wrE l k ds = some j → k ≤ j ∧ j < k + ds.length
  | [], _, _, _, h => by cases h
  | d :: r, l, k, j, h => by
    unfold wrE at h
    split at h
    · have := wrE_some h
      simp
      omega
    · cases h
      simp
/-- the numbers of entries -/
def numsT (es : List Etr) : List Nat := (es.map fun e => (e.2.length - 1) :: CM.gapsN 0 e.2).flatten
def numsE (es : List Etr) : List Nat := es.length :: (CM.gapsN 0 (es.map (·.1)) ++ numsT es)
theorem numsT_snoc {es : List Etr} {e : Etr} : numsT (es ++ [e]) = numsT es ++ ((e.2.length - 1) :: CM.gapsN 0 e.2) := by
  unfold numsT
  simp
end Bw

/-! entries, read number by number -/
namespace CM
theorem rd_code {rest : List Nat} : ∀ {n i told scale : Nat} {fst : Bool}, (fst = true ∨ 0 < n) → rdNum (codeL n ++ rest) i told scale fst = .ok (told + scale * n, i + (codeL n).length) := by
  intro n
  induction n using Nat.strongRecOn with
  | ind n ih =>
    intro i told scale fst hn
    rcases Nat.lt_or_ge n 16 with h1 | h1
    · rw [codeL_lt h1]
      show rdNum ((97 + n) :: rest) i told scale fst = _
      rw [rd_cons, eIx_end h1]
      have : ¬ (n = 0 ∧ fst = false) := fun z => by
        rcases hn with h | h
        · rw [h] at z
          cases z.2
        · omega
      simp only [if_neg this]
      rfl
    · rw [codeL_ge h1]
      show rdNum ((65 + n % 16) :: (codeL (n / 16) ++ rest)) i told scale fst = _
      rw [rd_cons, eIx_fur (by omega), fIx_fur (by omega)]
      simp only
      rw [ih (n / 16) (by omega) (.inr (by omega)), List.length_cons]
      have e1 : i + 1 + (codeL (n / 16)).length = i + ((codeL (n / 16)).length + 1) := by omega
      have e2 : told + scale * (n % 16) + scale * 16 * (n / 16) = told + scale * n := by
        have : scale * n = scale * (16 * (n / 16) + n % 16) := by rw [Nat.div_add_mod]
        rw [this, Nat.mul_add, Nat.mul_assoc]
        omega
      rw [e1, e2]
/-- so many numbers -/
def rdMany (t : List Nat) : Nat → Nat → Except Nat (List Nat × Nat)
  | 0, i => .ok ([], i)
  | k + 1, i => match rdNum (t.drop i) i 0 1 true with
    | .error e => .error e
    | .ok (n, j) => match rdMany t k j with
      | .error e => .error e
      | .ok (ns, j2) => .ok (n :: ns, j2)
theorem many_code {t : List Nat} : ∀ {gs : List Nat} {i : Nat} {rest : List Nat}, t.drop i = (gs.map codeL).flatten ++ rest → rdMany t gs.length i = .ok (gs, i + (gs.map codeL).flatten.length) ∧ t.drop (i + (gs.map codeL).flatten.length) = rest
  | [], i, rest, h => ⟨rfl, by simpa using h⟩
  | g :: r, i, rest, h => by
    rw [List.map_cons, List.flatten_cons, List.append_assoc] at h
    have h2 : t.drop (i + (codeL g).length) = (r.map codeL).flatten ++ rest := by
      rw [← List.drop_drop, h, List.drop_left]
    obtain ⟨h3, h4⟩ := many_code h2
    refine ⟨?_, ?_⟩
    · rw [List.length_cons]
      unfold rdMany
      rw [h, rd_code (.inl rfl)]
      simp only [Nat.zero_add, Nat.one_mul]
      rw [h3]
      simp
      omega
    · rw [List.map_cons, List.flatten_cons, List.length_append, ← Nat.add_assoc]
      exact h4
theorem many_le {t : List Nat} : ∀ {k i : Nat} {ns : List Nat} {j : Nat}, rdMany t k i = .ok (ns, j) → ns.length = k ∧ i + k ≤ j ∧ (i ≤ t.length → j ≤ t.length)
  | 0, i, ns, j, h => by
    cases h
    exact ⟨rfl, Nat.le_refl _, id⟩
  | k + 1, i, ns, j, h => by
    unfold rdMany at h
    cases h1 : rdNum (t.drop i) i 0 1 true with
    | error e => rw [h1] at h; cases h
    | ok nj =>
      obtain ⟨n, j1⟩ := nj
      rw [h1] at h
      simp only at h
      cases h2 : rdMany t k j1 with
      | error e => rw [h2] at h; cases h
      | ok q =>
        obtain ⟨ms, j2⟩ := q
        rw [h2] at h
        cases h
        have := rd_le h1
        rw [List.length_drop] at this
        obtain ⟨a, b, c⟩ := many_le h2
        exact ⟨by simp [a], by omega, fun hi => c (by omega)⟩
end CM
namespace Bw
open PySem PySem.Spec PyProof.Rows L2 LamX
open CM in
/-- the entries of slots -/
def rdTail (t : List Nat) : List Nat → Nat → Except Nat (List Etr × Nat)
  | [], i => .ok ([], i)
  | s :: r, i => match rdNum (t.drop i) i 0 1 true with
    | .error e => .error e
    | .ok (c, j) => match rdMany t (1 + c) j with
      | .error e => .error e
      | .ok (gs, j2) => match rdTail t r j2 with
        | .error e => .error e
        | .ok (es, j3) => .ok ((s, unGap 0 gs) :: es, j3)
open CM in
def rdEnt (t : List Nat) : Except Nat (List Etr) := match rdNum (t.drop 0) 0 0 1 true with
  | .error e => .error e
  | .ok (m, j) => match rdMany t m j with
    | .error e => .error e
    | .ok (gs, j2) => match rdTail t (unGap 0 gs) j2 with
      | .error e => .error e
      | .ok (es, j3) => if j3 = t.length then .ok es else .error j3
open CM in
theorem tail_code {t : List Nat} : ∀ {es : List Etr} {i : Nat} {rest : List Nat}, (∀ e ∈ es, e.2 ≠ [] ∧ Rising 0 e.2) → t.drop i = ((numsT es).map codeL).flatten ++ rest → rdTail t (es.map (·.1)) i = .ok (es, i + ((numsT es).map codeL).flatten.length) ∧ t.drop (i + ((numsT es).map codeL).flatten.length) = rest
  | [], i, rest, _, h => ⟨rfl, by simpa [numsT] using h⟩
  | e :: r, i, rest, he, h => by
    obtain ⟨h1, h2⟩ := he e List.mem_cons_self
    have en : numsT (e :: r) = (e.2.length - 1) :: (gapsN 0 e.2 ++ numsT r) := by
      unfold numsT
      simp
    rw [en] at h ⊢
    rw [List.map_cons, List.flatten_cons, List.map_append, List.flatten_append, List.append_assoc, List.append_assoc] at h
    have h3 : t.drop (i + (codeL (e.2.length - 1)).length) = ((gapsN 0 e.2).map codeL).flatten ++ (((numsT r).map codeL).flatten ++ rest) := by
      rw [← List.drop_drop, h, List.drop_left]
    obtain ⟨h4, h5⟩ := many_code h3
    obtain ⟨h6, h7⟩ := tail_code (fun e' he' => he e' (List.mem_cons_of_mem _ he')) h5
    have hl : 1 + (e.2.length - 1) = (gapsN 0 e.2).length := by
      rw [gaps_len]
      have : e.2.length ≠ 0 := fun z => h1 (List.eq_nil_of_length_eq_zero z)
      omega
    refine ⟨?_, ?_⟩
    · rw [List.map_cons]
      unfold rdTail
      rw [h, rd_code (.inl rfl)]
      simp only [Nat.zero_add, Nat.one_mul]
      rw [hl, h4]
      simp only
      rw [h6]
      simp only [un_gaps h2]
      simp
      omega
    · rw [List.map_cons, List.flatten_cons, List.map_append, List.flatten_append, List.length_append, List.length_append, ← Nat.add_assoc, ← Nat.add_assoc]
      exact h7
open CM in
theorem ent_code {es : List Etr} (h : EntOk 0 es) : rdEnt ((numsE es).map codeL).flatten = .ok es := by
  have e0 : ((numsE es).map codeL).flatten = codeL es.length ++ (((gapsN 0 (es.map (·.1))).map codeL).flatten ++ (((numsT es).map codeL).flatten ++ [])) := by
    unfold numsE
    simp
  have h1 : (((numsE es).map codeL).flatten).drop (codeL es.length).length = ((gapsN 0 (es.map (·.1))).map codeL).flatten ++ (((numsT es).map codeL).flatten ++ []) := by
    rw [e0, List.drop_left]
  obtain ⟨h2, h3⟩ := many_code h1
  obtain ⟨h4, h5⟩ := tail_code h.2 h3
  unfold rdEnt
  rw [List.drop_zero]
  have h0 : rdNum ((numsE es).map codeL).flatten 0 0 1 true = .ok (es.length, (codeL es.length).length) := by
    rw [e0, rd_code (.inl rfl)]
    simp
  rw [h0]
  simp only
  have hl : es.length = (gapsN 0 (es.map (·.1))).length := by rw [gaps_len, List.length_map]
  have h2' : rdMany ((numsE es).map codeL).flatten es.length (codeL es.length).length = .ok (gapsN 0 (es.map (·.1)), (codeL es.length).length + ((gapsN 0 (es.map (·.1))).map codeL).flatten.length) := by
    have hx := h2
    rw [← hl] at hx
    exact hx
  rw [h2']
  simp only [un_gaps h.1]
  rw [h4]
  simp only
  have := congrArg List.length h5
  rw [List.length_drop] at this
  rw [if_pos]
  have hle : (codeL es.length).length + ((gapsN 0 (es.map (·.1))).map codeL).flatten.length + ((numsT es).map codeL).flatten.length = ((numsE es).map codeL).flatten.length := by
    rw [e0]
    simp
    omega
  exact hle
end Bw

/-! what lies within N stays; classes made by places and keywords -/
namespace Bw
open PySem PySem.Spec PyProof.Rows L2
def KN (N : Addr → Prop) (H H' : Hp) : Prop := ∀ c o, H c = some o → N c → H' c = some o
section
variable {N : Addr → Prop} {H H' : Hp}
theorem KN.refl : KN N H H := fun _ _ h _ => h
theorem KN.trans {H2 : Hp} (a : KN N H H') (b : KN N H' H2) : KN N H H2 := fun c o h n => b c o (a c o h n) n
theorem KN.of (s : Same H H') : KN N H H' := fun c o h _ => s c o h
theorem KN.kb {p : Addr} (hp : ¬ N p) (k : KB p H H') : KN N H H' := fun c o h n => k c o h (fun z => hp (z ▸ n))
theorem KN.less {M : Addr → Prop} (i : ∀ c, M c → N c) (k : KN N H H') : KN M H H' := fun c o h n => k c o h (i c n)
end
structure MkrK (P : Program) (w : World) (K : PySem.W.Frag) (mg : Str → Option Value) (base : Heap) (x : Str) (C : Addr) (k : Nat) (ps : List Str) (n : Nat) (ks : List Str) (gV : List V → List V → List V) (sp : Sp) : Prop where
  ex : ∃ (f : Addr) (fd : FuncData) (g : List Value → List Value → List Value), Mk K C f ∧ FnOk P w K mg base CX0 k f fd ps sp ∧ mg x = some (.ref C) ∧ KBn K fd ps (n + 1) ks g gV
section
variable {X : Cx}
theorem pe_mkk {x : Str} {C : Addr} {k n : Nat} {ps ks : List Str} {gV : List V → List V → List V} {sp : Sp} {e : Expr} {es : List Expr} {kws : List Keyword} {t tk : TA} {p pos : Pos} (M : MkrK X.prog X.w X.K X.mg X.base x C k ps n ks gV sp) (hr : Room (k + 1) X.A) (hg : Gl X x) (ha : PA X (e :: es) t) (hkw : PK X kws tk)
    (hall : (backToKw pos (keywordEach kws X.env)).all (·.1.isSome) = true := by rfl) (hks : (backToKw pos (keywordEach kws X.env)).filterMap (·.1) = ks := by rfl) (hdb : (x == ("__debug__" : Str)) = false := by decide)
    (he : starEach (e :: es) X.env = (false, eval e X.env) :: starEach es X.env := by rfl) (hpl : ((backTo pos (starEach (e :: es) X.env)).any (·.1) || (backToKw pos (keywordEach kws X.env)).any (·.1.isNone)) = false := by rfl) :
    PE X (.Call (.Name x p) (e :: es) kws pos) (tMakeK C n ks.length sp gV E0 t tk) := by
  obtain ⟨f, fd, g, M, G, hm, hb⟩ := M.ex
  exact pe_makeK M G hr hg hm hb pass0 ha hkw hall hks hdb he hpl
end
section
variable {σ : L2.St} {H : Hp} {Q : VK}
theorem w_makeK {C : Addr} {n m : Nat} {sp : Sp} {gV : List V → List V → List V} {E : XK} {t tk : TA} (h : t σ H fun vs H1 => tk σ H1 fun zs H2 => vs.length = n ∧ zs.length = m ∧ ∀ x dx, H2 x = none → H2 dx = none → dx ≠ x →
  sp (gV (.ref x :: vs) zs) (upd (upd H2 dx (.own x)) x (.ins C dx [])) (fun v H3 => v = .non ∧ Q (.ref x) H3) E) : tMakeK C n m sp gV E t tk σ H Q := h
theorem w_iRng3 {ta : TA} {R : It → Hp → Prop} (h : ta σ H fun vs H1 => ∃ (i j c : Int) (n : Nat), vs = [.int i, .int j, .int c] ∧ RgC i j c n ∧ R (Itc i c n) H1) : iRng3 ta σ H R := h
theorem w_makeR {C : Addr} {sp : Sp} {vs : List V} {E : XK} {H1 : Hp} (k : ∀ r d H2, H1 r = none → Same H1 H2 → H2 r = some (.ins C d []) → (∀ c, H2 c = none → H1 c = none) → sp (.ref r :: vs) H2 (fun v H3 => v = .non ∧ Q (.ref r) H3) E) :
    ∀ x dx, H1 x = none → H1 dx = none → dx ≠ x → sp (.ref x :: vs) (upd (upd H1 dx (.own x)) x (.ins C dx [])) (fun v H2 => v = .non ∧ Q (.ref x) H2) E := fun x dx nx nd _ =>
  k x dx _ nx (same_make nx nd rfl) (at_gen rfl) (fun c h => by
    cases hq : H1 c with
    | none => rfl
    | some o =>
      have := same_make (o := .ins C dx []) (u := .own x) nx nd rfl c o hq
      rw [h] at this
      cases this)
end
end Bw

/-! rows cut in blocks, plainly -/
namespace Bw
open PySem PySem.Spec PyProof.Rows L2
/-- the greatest, the least of some numbers -/
def mxL (ns : List Nat) : Nat := ns.foldr max 0
def mnL : List Nat → Nat
  | [] => 0
  | [a] => a
  | a :: b :: r => min a (mnL (b :: r))
theorem le_mx : ∀ {ns : List Nat} {n : Nat}, n ∈ ns → n ≤ mxL ns
  | a :: r, n, h => by
    rcases List.mem_cons.mp h with rfl | h
    · exact Nat.le_max_left _ _
    · exact Nat.le_trans (le_mx h) (Nat.le_max_right _ _)
theorem mx_mem : ∀ {ns : List Nat}, ns ≠ [] → mxL ns ∈ ns
  | [], h => absurd rfl h
  | [a], _ => by simp [mxL]
  | a :: b :: r, _ => by
    have ih := mx_mem (ns := b :: r) (by simp)
    have e : mxL (a :: b :: r) = max a (mxL (b :: r)) := rfl
    rw [e]
    rcases Nat.le_total a (mxL (b :: r)) with h | h
    · rw [Nat.max_eq_right h]
      exact List.mem_cons_of_mem _ ih
    · rw [Nat.max_eq_left h]
      exact List.mem_cons_self
theorem mn_le : ∀ {ns : List Nat} {n : Nat}, n ∈ ns → mnL ns ≤ n
  | [a], n, h => by
    rw [List.mem_singleton.mp h]
    exact Nat.le_refl _
  | a :: b :: r, n, h => by
    rw [mnL]
    rcases List.mem_cons.mp h with rfl | h
    · exact Nat.min_le_left _ _
    · exact Nat.le_trans (Nat.min_le_right _ _) (mn_le h)
theorem mn_mem : ∀ {ns : List Nat}, ns ≠ [] → mnL ns ∈ ns
  | [], h => absurd rfl h
  | [a], _ => by simp [mnL]
  | a :: b :: r, _ => by
    have ih := mn_mem (ns := b :: r) (by simp)
    rw [mnL]
    rcases Nat.le_total a (mnL (b :: r)) with h | h
    · rw [Nat.min_eq_left h]
      exact List.mem_cons_self
    · rw [Nat.min_eq_right h]
      exact List.mem_cons_of_mem _ ih
abbrev nI (n : Nat) : Int := n
theorem mx_int {ns : List Nat} {m : Int} (h : m ∈ ns.map nI) (hm : ∀ y ∈ ns.map nI, y ≤ m) : m = ((mxL ns : Nat) : Int) := by
  obtain ⟨n, hn, rfl⟩ := List.mem_map.mp h
  have h1 := le_mx hn
  have h2 := hm _ (List.mem_map.mpr ⟨_, mx_mem (List.ne_nil_of_mem hn), rfl⟩)
  have h2' : ((mxL ns : Nat) : Int) ≤ (n : Int) := h2
  show (n : Int) = _
  omega
theorem mn_int {ns : List Nat} {m : Int} (h : m ∈ ns.map nI) (hm : ∀ y ∈ ns.map nI, m ≤ y) : m = ((mnL ns : Nat) : Int) := by
  obtain ⟨n, hn, rfl⟩ := List.mem_map.mp h
  have h1 := mn_le hn
  have h2 := hm _ (List.mem_map.mpr ⟨_, mn_mem (List.ne_nil_of_mem hn), rfl⟩)
  have h2' : (n : Int) ≤ ((mnL ns : Nat) : Int) := h2
  show (n : Int) = _
  omega
/-! ### pieces of rising lists -/
theorem ris_take : ∀ {ns : List Nat} {b : Nat} (i : Nat), CM.Rising b ns → CM.Rising b (ns.take i)
  | [], _, _, _ => by rw [List.take_nil]; trivial
  | _ :: _, _, 0, _ => trivial
  | n :: r, b, i + 1, h => ⟨h.1, ris_take i h.2⟩
theorem ris_mono : ∀ {ns : List Nat} {b c : Nat}, c ≤ b → CM.Rising b ns → CM.Rising c ns
  | [], _, _, _, _ => trivial
  | n :: r, b, c, h, hr => ⟨Nat.le_trans h hr.1, hr.2⟩
theorem ris_drop : ∀ {ns : List Nat} {b : Nat} (i : Nat), CM.Rising b ns → CM.Rising b (ns.drop i)
  | [], _, _, _ => by rw [List.drop_nil]; trivial
  | _ :: _, _, 0, h => h
  | n :: r, b, i + 1, h => ris_mono (by have := h.1; omega) (ris_drop (ns := r) i h.2)
theorem ris_rel : ∀ {ns : List Nat} {b : Nat}, CM.Rising b ns → ∀ {i j : Nat} {x y : Nat}, i < j → ns[i]? = some x → ns[j]? = some y → x < y
  | n :: r, b, h, 0, j + 1, x, y, _, hx, hy => by
    cases hx
    have : ∀ {ns : List Nat} {b : Nat}, CM.Rising b ns → ∀ {j y : Nat}, ns[j]? = some y → b ≤ y := by
      intro ns
      induction ns with
      | nil => intro b _ j y h; cases h
      | cons m s ih =>
        intro b h j y hy
        cases j with
        | zero => cases hy; exact h.1
        | succ j => exact Nat.le_trans (Nat.le_trans h.1 (Nat.le_succ _)) (ih h.2 hy)
    exact this h.2 hy
  | n :: r, b, h, i + 1, j + 1, x, y, l, hx, hy => ris_rel h.2 (by omega) hx hy
theorem ent_drop {es : List Etr} {b : Nat} (i : Nat) (h : EntOk b es) : EntOk b (es.drop i) := ⟨by rw [List.map_drop]; exact ris_drop i h.1, fun e he => h.2 e (List.mem_of_mem_drop he)⟩
theorem ent_take {es : List Etr} {b : Nat} (i : Nat) (h : EntOk b es) : EntOk b (es.take i) := ⟨by rw [List.map_take]; exact ris_take i h.1, fun e he => h.2 e (List.mem_of_mem_take he)⟩
/-! ### blocks -/
def cutE (c : Nat) (es : List Etr) : List (List Etr) := (List.range (cuts es.length c)).map fun k => (es.drop (k * c)).take c
theorem cutE_len {c : Nat} {es : List Etr} : (cutE c es).length = cuts es.length c := by unfold cutE; simp
theorem cut_at {c : Nat} {es : List Etr} {k : Nat} (h : k < cuts es.length c) : (cutE c es)[k]? = some ((es.drop (k * c)).take c) := by
  unfold cutE
  rw [List.getElem?_map, List.getElem?_range h]
  rfl
theorem cuts_lt {len c k : Nat} (hc : 1 ≤ c) (h : k < cuts len c) : k * c < len := by
  unfold cuts at h
  have h1 := (Nat.lt_div_iff_mul_lt (by omega)).mp h
  rw [Nat.mul_comm] at h1
  rw [Nat.mul_comm]
  omega
theorem cuts_ge {len c : Nat} (hc : 1 ≤ c) : len ≤ cuts len c * c := by
  unfold cuts
  have := Nat.div_add_mod (len + c - 1) c
  have h2 := Nat.mod_lt (len + c - 1) (by omega : 0 < c)
  rw [Nat.mul_comm] at this
  omega
theorem flat_cut {c : Nat} {es : List Etr} (hc : 1 ≤ c) : ∀ k : Nat, (((List.range k).map fun k => (es.drop (k * c)).take c).flatten) = es.take (k * c)
  | 0 => by simp
  | k + 1 => by
    rw [List.range_succ, List.map_append, List.flatten_append, flat_cut hc k]
    simp only [List.map_cons, List.map_nil, List.flatten_cons, List.flatten_nil, List.append_nil]
    rw [Nat.succ_mul, List.take_add]
theorem flat_cutE {c : Nat} {es : List Etr} (hc : 1 ≤ c) : (cutE c es).flatten = es := by
  unfold cutE
  rw [flat_cut hc, List.take_of_length_le (cuts_ge hc)]
def fstE (es : List Etr) : Nat := (es.headD (0, [])).1
def lstE (es : List Etr) : Nat := (es.getLastD (0, [])).1
def mostE (es : List Etr) : Nat := mxL (es.map fun e => e.2.length)
def leastE (ls : List Nat) (es : List Etr) : Nat := mnL (es.map fun e => ls.getD e.1 0)
/-! ### what rows and blocks are made of -/
def SmlR (es : List Etr) : Prop := ∀ e ∈ es, e.1 < 60 ∧ e.2.length ≤ 120 ∧ ∀ n ∈ e.2, n < 120
/-- entries whose slots have lengths -/
def FitL (ls : List Nat) (es : List Etr) : Prop := ∀ e ∈ es, e.1 < ls.length ∧ ∀ n ∈ e.2, n < ls.getD e.1 0
structure BlkP (es : List Etr) : Prop where
  ok : EntOk 0 es
  ne : es ≠ []
  len : es.length ≤ 8
  sml : SmlR es
structure RowP (x : Str) (c : Nat) (ls : List Nat) (es : List Etr) : Prop where
  wd : isW x = true
  ok : EntOk 0 es
  len : es.length ≤ 60
  ll : ls.length ≤ 60
  lm : ∀ n ∈ ls, n ≤ 120
  fit : FitL ls es
  c1 : 1 ≤ c
  c8 : c ≤ 8
theorem ris_bound : ∀ {ns : List Nat} {b m : Nat}, CM.Rising b ns → (∀ n ∈ ns, n < m) → ns ≠ [] → b + ns.length ≤ m
  | [n], b, m, h, hm, _ => by
    have := hm n (by simp)
    have := h.1
    simp
    omega
  | n :: k :: r, b, m, h, hm, _ => by
    have ih := ris_bound (ns := k :: r) h.2 (fun x hx => hm x (List.mem_cons_of_mem _ hx)) (by simp)
    have := h.1
    simp only [List.length_cons] at ih ⊢
    omega
theorem RowP.sml {x : Str} {c : Nat} {ls : List Nat} {es : List Etr} (h : RowP x c ls es) : SmlR es := fun e he => by
  obtain ⟨h1, h2⟩ := h.fit e he
  have h3 := h.ll
  have h4 : ls.getD e.1 0 ≤ 120 := by
    rw [List.getD_eq_getElem?_getD, List.getElem?_eq_getElem h1]
    exact h.lm _ (List.getElem_mem h1)
  have h5 : ∀ n ∈ e.2, n < 120 := fun n hn => by
    have := h2 n hn
    omega
  obtain ⟨h6, h7⟩ := h.ok.2 e he
  have := ris_bound h7 h5 h6
  exact ⟨by omega, by omega, h5⟩
theorem RowP.blk {x : Str} {c : Nat} {ls : List Nat} {es : List Etr} (h : RowP x c ls es) {b : List Etr} (hb : b ∈ cutE c es) : BlkP b ∧ ∀ e ∈ b, e ∈ es := by
  unfold cutE at hb
  obtain ⟨k, hk, rfl⟩ := List.mem_map.mp hb
  have hk' := cuts_lt h.c1 (List.mem_range.mp hk)
  have hi : ∀ e ∈ (es.drop (k * c)).take c, e ∈ es := fun e he => List.mem_of_mem_drop (List.mem_of_mem_take he)
  refine ⟨⟨ent_take c (ent_drop (k * c) h.ok), fun z => ?_, ?_, fun e he => h.sml e (hi e he)⟩, hi⟩
  · have h1 : ((es.drop (k * c)).take c).length = 0 := by rw [z]; rfl
    rw [List.length_take, List.length_drop] at h1
    have := h.c1
    omega
  · rw [List.length_take]
    have := h.c8
    omega
theorem cutV_pc {xs : List V} {c k : Nat} : cutV xs (some (k : Int)) (some ((k : Int) + (c : Int))) = (xs.drop k).take c := by
  unfold cutV
  have h1 : HT.sIx xs.length 0 (some (k : Int)) = min k xs.length := by
    unfold HT.sIx
    simp only
    split <;> omega
  have h2 : HT.sIx xs.length xs.length (some ((k : Int) + (c : Int))) = min (k + c) xs.length := by
    unfold HT.sIx
    simp only
    split <;> omega
  rw [h1, h2]
  rcases Nat.lt_or_ge xs.length k with h | h
  · rw [Nat.min_eq_right (by omega : xs.length ≤ k), List.drop_length, List.drop_eq_nil_of_le (by omega)]
    simp
  · rw [Nat.min_eq_left h]
    apply List.ext_getElem?
    intro i
    rw [List.getElem?_take, List.getElem?_take]
    rcases Nat.lt_or_ge i c with h3 | h3
    · rw [if_pos h3]
      split
      · rfl
      · rw [List.getElem?_drop, List.getElem?_eq_none (by omega)]
    · rw [if_neg (by omega), if_neg (by omega)]
end Bw
namespace Bw
open PySem PySem.Spec PyProof.Rows L2
/-! ### lengths for entries -/
def lastN (ns : List Nat) : Nat := ns.getLastD 0
theorem ris_last : ∀ {ns : List Nat} {b n : Nat}, CM.Rising b ns → n ∈ ns → n ≤ lastN ns
  | [m], _, n, _, h => by
    rw [List.mem_singleton.mp h]
    exact Nat.le_refl _
  | m :: k :: r, b, n, h, hn => by
    have e : lastN (m :: k :: r) = lastN (k :: r) := rfl
    rw [e]
    rcases List.mem_cons.mp hn with rfl | hn
    · have := ris_last (ns := k :: r) h.2 (List.mem_cons_self)
      have := h.2.1
      omega
    · exact ris_last h.2 hn
theorem lastN_mem {ns : List Nat} (h : ns ≠ []) : lastN ns ∈ ns := by
  unfold lastN
  rw [List.getLastD_eq_getLast?, List.getLast?_eq_some_getLast h]
  exact List.getLast_mem h
def needE (s : Nat) (es : List Etr) : List Nat := (es.filter fun e => decide (e.1 = s)).map fun e => lastN e.2 + 1
theorem need_mem {s : Nat} {es : List Etr} {e : Etr} (h : e ∈ es) (hs : e.1 = s) : lastN e.2 + 1 ∈ needE s es := List.mem_map.mpr ⟨e, List.mem_filter.mpr ⟨h, decide_eq_true hs⟩, rfl⟩
theorem last_next {es : List Etr} : (0 :: es.map fun e => e.1 + 1).getLastD 0 = CM.nextB 0 (es.map (·.1)) := by
  unfold CM.nextB
  rw [List.getLastD_eq_getLast?, List.getLast?_cons]
  rw [List.getLast?_map, List.getLast?_map]
  cases es.getLast? <;> rfl
theorem next_le {b m : Nat} {ns : List Nat} (hb : b ≤ m) (h : ∀ n ∈ ns, n < m) : CM.nextB b ns ≤ m := by
  unfold CM.nextB
  cases hl : ns.getLast? with
  | none => exact hb
  | some n => exact h n (List.mem_of_getLast? hl)
theorem lt_next {b : Nat} : ∀ {ns : List Nat}, CM.Rising b ns → ∀ n ∈ ns, n < CM.nextB b ns := by
  intro ns h n hn
  unfold CM.nextB
  cases hl : ns.getLast? with
  | none =>
    rw [List.getLast?_eq_none_iff] at hl
    rw [hl] at hn
    cases hn
  | some m =>
    have h1 := ris_last h hn
    unfold lastN at h1
    rw [List.getLastD_eq_getLast?, hl] at h1
    exact Nat.lt_succ_of_le h1
/-- lengths so far -/
def FitTo (i : Nat) (ls : List Nat) (es : List Etr) : Prop := ls.length = i ∧ (∀ n ∈ ls, n ≤ 120) ∧ ∀ e ∈ es, e.1 < i → ∀ n ∈ e.2, n < ls.getD e.1 0
theorem FitTo.nil {es : List Etr} : FitTo 0 [] es := ⟨rfl, fun n h => absurd h (by simp), fun e _ h => absurd h (Nat.not_lt_zero _)⟩
theorem FitTo.snoc {i m : Nat} {ls : List Nat} {es : List Etr} (h : FitTo i ls es) (hm : m ≤ 120) (hn : ∀ e ∈ es, e.1 = i → ∀ n ∈ e.2, n < m) : FitTo (i + 1) (ls ++ [m]) es := by
  obtain ⟨h1, h2, h3⟩ := h
  refine ⟨by simp [h1], fun n hn => ?_, fun e he hi n hne => ?_⟩
  · rcases List.mem_append.mp hn with hn | hn
    · exact h2 n hn
    · rw [List.mem_singleton.mp hn]
      exact hm
  · rcases Nat.lt_or_ge e.1 i with h4 | h4
    · rw [List.getD_eq_getElem?_getD, List.getElem?_append_left (by omega), ← List.getD_eq_getElem?_getD]
      exact h3 e he h4 n hne
    · have h5 : e.1 = i := by omega
      rw [List.getD_eq_getElem?_getD, List.getElem?_append_right (by omega), h5, h1, Nat.sub_self]
      exact hn e he h5 n hne
end Bw

/-! dicts by whole numbers; two targets; changes at two places -/
namespace Bw
open PySem PySem.Spec PyProof.Rows L2
abbrev kI (n : Nat) : Key := Sum.inl (n : Int)
def rLenD : List V → Hp → VK → Prop := fun xs H Q => ∃ a kvs, xs = [V.ref a] ∧ H a = some (.dK kvs) ∧ Q (.int kvs.length) H
theorem cl_lenD {X : Cx} : CallR X (.builtin "len") rLenD := call_lenD
section
variable {σ : L2.St} {H : Hp} {Q : VK} {D : Ends}
theorem w_lenD {a : Addr} {kvs : List (Key × V)} (h : H a = some (.dK kvs)) (q : Q (.int kvs.length) H) : rLenD [.ref a] H Q := ⟨a, kvs, rfl, h, q⟩
theorem w_dgetE {td ty : TE} (h : td σ H fun x H1 => ty σ H1 fun y H2 => ∃ a v, x = .ref a ∧ DGet H2 a y (some v) ∧ Q v H2) : tDGet td ty σ H Q := h
theorem w_dget {a : Addr} {kvs : List (Key × V)} {n : Nat} {v : V} {R : V → Prop} (h : H a = some (.dK kvs)) (hv : valV kvs (kI n) = some v) (q : R v) : ∃ a' v, V.ref a = .ref a' ∧ DGet H a' (.int (n : Int)) (some v) ∧ R v := ⟨a, v, rfl, hv ▸ DGet.k (k := kI n) h, q⟩
theorem w_dnotE {td ty : TE} (h : ty σ H fun y H1 => td σ H1 fun x H2 => ∃ a o, x = .ref a ∧ DGet H2 a y o ∧ Q (.bl (!o.isSome)) H2) : tDNotIn ty td σ H Q := h
theorem w_dnot {a : Addr} {kvs : List (Key × V)} {n : Nat} {R : Option V → Prop} (h : H a = some (.dK kvs)) (q : R (valV kvs (kI n))) : ∃ a' o, V.ref a = .ref a' ∧ DGet H a' (.int (n : Int)) o ∧ R o := ⟨a, _, rfl, DGet.k (k := kI n) h, q⟩
theorem w_dputE {td ty tv : TE} (h : tv σ H fun v H1 => td σ H1 fun x H2 => ty σ H2 fun y H3 => ∃ a H4, x = .ref a ∧ DPut H3 a y v H4 ∧ D.nx σ H4) : sDPut td ty tv D σ H := h
theorem w_dput {a : Addr} {kvs : List (Key × V)} {n : Nat} {v : V} {R : Hp → Prop} (h : H a = some (.dK kvs)) (hl : kvs.length ≤ 100000) (k : ∀ H2, KB a H H2 → H2 a = some (.dK (putK kvs (kI n) v)) → R H2) : ∃ a' H4, V.ref a = .ref a' ∧ DPut H a' (.int (n : Int)) v H4 ∧ R H4 :=
  ⟨a, _, rfl, DPut.k (k := kI n) h (Nat.lt_of_le_of_lt hl (by decide)), k _ kb_upd upd_same⟩
theorem w_asg2 {te : TE} {g1 g2 : TG} (h : te σ H fun x H1 => g1 x σ H1 fun σ2 H2 => g2 x σ2 H2 D.nx) : tAsg2 te g1 g2 D σ H := h
end
/-- all but two stays -/
def KW (r d : Addr) (H H' : Hp) : Prop := ∀ c o, H c = some o → c ≠ r → c ≠ d → H' c = some o
section
variable {r d : Addr} {H H' : Hp}
theorem KW.refl : KW r d H H := fun _ _ h _ _ => h
theorem KW.trans {H2 : Hp} (a : KW r d H H') (b : KW r d H' H2) : KW r d H H2 := fun c o h n m => b c o (a c o h n m) n m
theorem KW.of (s : Same H H') : KW r d H H' := fun c o h _ _ => s c o h
theorem KW.kb (k : KB r H H') : KW r d H H' := fun c o h n _ => k c o h n
theorem KW.kb2 (k : KB d H H') : KW r d H H' := fun c o h _ m => k c o h m
theorem KW.same {H0 : Hp} (k : KW r d H H') (s : Same H0 H) (n : H0 r = none) (m : H0 d = none) : Same H0 H' := fun c o h => k c o (s c o h) (fun z => by rw [z, n] at h; cases h) (fun z => by rw [z, m] at h; cases h)
theorem KW.kn {N : Addr → Prop} (k : KW r d H H') (n : ¬ N r) (m : ¬ N d) : KN N H H' := fun c o h z => k c o h (fun e => n (e ▸ z)) (fun e => m (e ▸ z))
end
end Bw
namespace Bw
open PySem PySem.Spec PyProof.Rows L2
theorem w_itR {b : Bool} {A : Prop} {D : Ends} {σ : L2.St} {H : Hp} (Inv : L2.St → Hp → Prop) (h2 : b = false → Inv σ H) (h1 : (∀ σ H, Inv σ H → D.nx σ H) → b = true → A) (hi : ∀ σ H, Inv σ H → D.nx σ H) : if b = true then A else tNext D σ H := by
  cases b with
  | false => exact hi _ _ (h2 rfl)
  | true => exact h1 hi rfl
end Bw

namespace L2
open PySem PySem.Spec PyProof.Rows
section
variable {X : Cx} {body : List Stmt} {f₀ : Stmt} {fs : List Stmt} {pos : Pos} {t tf : TS}
/-- try: body / finally: suite, where neither raises and the body doesn't return -/
def tFin0 (t tf : TS) : TS := fun D σ H => t { nx := fun σ1 H1 => tf D σ1 H1, rt := fun _ _ => False } σ H
theorem ps_fin0 (hb : PSs X.nox body t) (hf : PSs X.nox (f₀ :: fs) tf) : PS X (.Try body [] [] (f₀ :: fs) pos) (tFin0 t tf) := by
  refine ⟨fun pins s σ H D I h => ?_⟩
  refine wpAny_Try_finally (wpAny_mono (hb.run pins s σ H { nx := fun σ1 H1 => tf D σ1 H1, rt := fun _ _ => False } (I.wish _) h) (fun f s1 q => ?_) fun e s1 z => z.elim)
  have q' : SP X pins { nx := fun σ1 H1 => tf D σ1 H1, rt := fun _ _ => False } f s1 := q.unwish
  cases f with
  | next =>
    obtain ⟨σ', H', I', q2⟩ := q'
    refine wpAny_execs_nil ?_
    refine wpAny_mono (hf.run pins s1 σ' H' D (I'.wish _) q2) (fun g s2 z => ?_) fun e s1 z => z.elim
    have z' : SP X pins D g s2 := z.unwish
    cases g <;> exact z'
  | ret v =>
    obtain ⟨_, _, _, _, _, z⟩ := q'
    exact z.elim
  | brk =>
    obtain ⟨_, _, _, z⟩ := q'
    exact z.elim
  | cont =>
    obtain ⟨_, _, _, z⟩ := q'
    exact z.elim
end
end L2
namespace Bw
open PySem PySem.Spec PyProof.Rows L2
theorem w_fin0 {t tf : TS} {D : Ends} {σ : L2.St} {H : Hp} (h : t { nx := fun σ1 H1 => tf D σ1 H1, rt := fun _ _ => False } σ H) : tFin0 t tf D σ H := h
end Bw

namespace L2
open PySem PySem.Spec PyProof.Rows
section
variable {X : Cx} {body : List Stmt} {f₀ : Stmt} {fs : List Stmt} {pos : Pos} {tb : WX → TS} {tf tfs : TS} {Wout : WX}
/-- try: body / finally: suite, where the body may raise but doesn't return -/
def tFinX (tb : WX → TS) (tf tfs : TS) (Wout : WX) : TS := fun D σ H => tb (wFin tfs Wout) { nx := fun σ1 H1 => tf D σ1 H1, rt := fun _ _ => False } σ H
theorem ps_finX (hs : X.stack = X.env :: X.outer) (hf : X.env.frame = some X.env.locals) (hex : X.ex = []) (tk : Takes X Wout)
    (hb : ∀ (W : WX) (pn : List (Addr × Obj)) (xe : Value → Shared → Prop), Takes (X.tr pn xe) W → PassesOwn (model X.prog X.w) X.A X.env xe → PSs (X.tr pn xe) body (tb W))
    (hfin : PSs X.nox (f₀ :: fs) tf) (hsu : ∀ (a : Addr) (pn : List (Addr × Obj)), PSs (X.suite a pn) (f₀ :: fs) tfs) : PS X (.Try body [] [] (f₀ :: fs) pos) (tFinX tb tf tfs Wout) := by
  refine ⟨fun pins s σ H D I h => ?_⟩
  have ok := I.ok
  refine wpAny_Try_finally ?_
  refine wpAny_mono ((hb (wFin tfs Wout) (X.pn ++ pins) (fun x s₁ => wpAny (model X.prog X.w) X.A (noteFrame x X.env) (fun _ s₂ => FinallyRaised X.prog X.w X.A X.xe X.env (f₀ :: fs) (SP X pins D) x s₂) (FinallyRaised X.prog X.w X.A X.xe X.env (f₀ :: fs) (SP X pins D)) s₁)
    (fun u s' xx => ?_) PassesOwn.looking).run [] s σ H { nx := fun σ1 H1 => tf D σ1 H1, rt := fun _ _ => False } (I.toTry _) h) (fun f s1 q => ?_) (fun x s1 hx => hx)
  · exact fin_exc hs hf hex ok tk hsu xx
  · cases f with
    | next =>
      obtain ⟨σ', H', I', q2⟩ := q
      refine wpAny_execs_nil ?_
      refine wpAny_mono (hfin.run pins s1 σ' H' D ((I'.ofTry ok).wish _) q2) (fun g s2 z => ?_) fun e s1 z => z.elim
      have z' : SP X pins D g s2 := z.unwish
      cases g <;> exact z'
    | ret v =>
      obtain ⟨_, _, _, _, _, z⟩ := q
      exact z.elim
    | brk =>
      obtain ⟨_, _, _, z⟩ := q
      exact z.elim
    | cont =>
      obtain ⟨_, _, _, z⟩ := q
      exact z.elim
/-- the body and the suite by any readings of them -/
def tAnyS (X : Cx) (b : List Stmt) : TS := fun D σ H => ∀ (a : Addr) (pn : List (Addr × Obj)), ∃ t : TS, PSs (X.suite a pn) b t ∧ t D σ H
theorem pss_anyS {X : Cx} {b : List Stmt} (a : Addr) (pn : List (Addr × Obj)) : PSs (X.suite a pn) b (tAnyS X b) :=
  ⟨fun pins s σ H D I h => by
    obtain ⟨t, ht, hq⟩ := h a pn
    exact ht.run pins s σ H D I hq⟩
def tAnyT (X : Cx) (b : List Stmt) : WX → TS := fun W D σ H => ∀ (pn : List (Addr × Obj)) (xe : Value → Shared → Prop), Takes (X.tr pn xe) W → PassesOwn (model X.prog X.w) X.A X.env xe → ∃ t : TS, PSs (X.tr pn xe) b t ∧ t D σ H
theorem pss_anyT {X : Cx} {b : List Stmt} {W : WX} {pn : List (Addr × Obj)} {xe : Value → Shared → Prop} (tk : Takes (X.tr pn xe) W) (po : PassesOwn (model X.prog X.w) X.A X.env xe) : PSs (X.tr pn xe) b (tAnyT X b W) :=
  ⟨fun pins s σ H D I h => by
    obtain ⟨t, ht, hq⟩ := h pn xe tk po
    exact ht.run pins s σ H D I hq⟩
def tFinA (X : Cx) (body fs : List Stmt) (tf : TS) (Wout : WX) : TS := tFinX (tAnyT X body) tf (tAnyS X fs) Wout
theorem ps_finA (hs : X.stack = X.env :: X.outer) (hf : X.env.frame = some X.env.locals) (hex : X.ex = []) (tk : Takes X Wout) (hfin : PSs X.nox (f₀ :: fs) tf) :
    PS X (.Try body [] [] (f₀ :: fs) pos) (tFinA X body (f₀ :: fs) tf Wout) := ps_finX hs hf hex tk (fun _ _ _ tk' po => pss_anyT tk' po) hfin fun a pn => pss_anyS a pn
end
end L2
namespace Bw
open PySem PySem.Spec PyProof.Rows L2
theorem w_finX {tb : WX → TS} {tf tfs : TS} {Wout : WX} {D : Ends} {σ : L2.St} {H : Hp} (h : tb (wFin tfs Wout) { nx := fun σ1 H1 => tf D σ1 H1, rt := fun _ _ => False } σ H) : tFinX tb tf tfs Wout D σ H := h
theorem w_finA {X : Cx} {body fs : List Stmt} {tf : TS} {Wout : WX} {D : Ends} {σ : L2.St} {H : Hp} (h : ∀ (pn : List (Addr × Obj)) (xe : Value → Shared → Prop), Takes (X.tr pn xe) (wFin (tAnyS X fs) Wout) → PassesOwn (model X.prog X.w) X.A X.env xe → ∃ t : TS, PSs (X.tr pn xe) body t ∧ t { nx := fun σ1 H1 => tf D σ1 H1, rt := fun _ _ => False } σ H) :
    tFinA X body fs tf Wout D σ H := h
theorem w_wFin {tfs : TS} {Wout : WX} {cls : Value} {d : Option Addr} {σ : L2.St} {H : Hp} (h : tfs { nx := fun σ2 H2 => Wout cls d σ2 H2, rt := fun _ _ => False } σ H) : wFin tfs Wout cls d σ H := h
end Bw

/-! walks over rows, plainly: a place among all entries, the block and the entry in it -/
namespace Bw
open PySem PySem.Spec PyProof.Rows L2
def bOf (c n pos : Nat) : Nat := if pos < n then pos / c else cuts n c
def eOf (c n pos : Nat) : Nat := if pos < n then pos % c else 0
theorem cuts_of {c n pos : Nat} (hc : 1 ≤ c) (h : pos < n) : pos / c < cuts n c := by
  unfold cuts
  rw [Nat.lt_div_iff_mul_lt (by omega)]
  have := Nat.div_mul_le_self pos c
  rw [Nat.mul_comm] at this
  rw [Nat.mul_comm]
  have h2 : c * (pos / c) ≤ pos := this
  rw [Nat.mul_comm] at h2
  omega
theorem bOf_done {c n pos : Nat} (hc : 1 ≤ c) : cuts n c ≤ bOf c n pos ↔ n ≤ pos := by
  unfold bOf
  split
  · rename_i h
    have := cuts_of hc h
    constructor <;> intro <;> omega
  · constructor <;> intro <;> omega
/-- the block where a place lies -/
theorem blk_of {c : Nat} {es : List Etr} {pos : Nat} (hc : 1 ≤ c) (h : pos < es.length) : ∃ blk, (cutE c es)[pos / c]? = some blk ∧ blk = (es.drop (pos / c * c)).take c ∧ blk.length = min c (es.length - pos / c * c) ∧ pos % c < blk.length ∧ blk[pos % c]? = es[pos]? := by
  have h1 := cuts_of hc h
  have h2 := Nat.mod_lt pos (show c > 0 by omega)
  have h3 : pos / c * c + pos % c = pos := Nat.div_add_mod' pos c
  have h4 : ((es.drop (pos / c * c)).take c).length = min c (es.length - pos / c * c) := by rw [List.length_take, List.length_drop]
  refine ⟨_, cut_at h1, rfl, h4, ?_, ?_⟩
  · rw [h4]
    omega
  · rw [List.getElem?_take, if_pos h2, List.getElem?_drop, h3]
theorem blk_at {c : Nat} {es : List Etr} {pos j : Nat} {blk : List Etr} (hc : 1 ≤ c) (h : (cutE c es)[pos / c]? = some blk) (hp : pos < es.length) (hj : j < blk.length) : blk[j]? = es[pos / c * c + j]? := by
  obtain ⟨b, h1, h2, h3, h4, h5⟩ := blk_of hc hp
  rw [h] at h1
  cases h1
  rw [h2, List.getElem?_take, if_pos (by omega), List.getElem?_drop]
/-- one on, within the block or into the next one -/
theorem pos_in {c n pos len : Nat} (hc : 1 ≤ c) (h : pos < n) (hl : len = min c (n - pos / c * c)) (he : pos % c + 1 < len) : pos + 1 < n ∧ bOf c n (pos + 1) = pos / c ∧ eOf c n (pos + 1) = pos % c + 1 := by
  have h3 : pos / c * c + pos % c = pos := Nat.div_add_mod' pos c
  have h4 : pos + 1 < n := by omega
  have h5 : pos % c + 1 < c := by omega
  have h6 : (pos + 1) / c = pos / c := by
    have : pos + 1 = pos % c + 1 + pos / c * c := by omega
    rw [this, Nat.add_mul_div_right _ _ (by omega), Nat.div_eq_of_lt h5]
    omega
  have h7 : (pos + 1) % c = pos % c + 1 := by
    have : pos + 1 = pos % c + 1 + pos / c * c := by omega
    rw [this, Nat.add_mul_mod_self_right, Nat.mod_eq_of_lt h5]
  refine ⟨h4, ?_, ?_⟩
  · unfold bOf
    rw [if_pos h4, h6]
  · unfold eOf
    rw [if_pos h4, h7]
theorem pos_next {c n b : Nat} (hc : 1 ≤ c) (h : b * c < n) : bOf c n (min ((b + 1) * c) n) = b + 1 ∧ eOf c n (min ((b + 1) * c) n) = 0 := by
  rcases Nat.lt_or_ge ((b + 1) * c) n with h1 | h1
  · rw [Nat.min_eq_left (by omega)]
    unfold bOf eOf
    rw [if_pos h1, if_pos h1, Nat.mul_div_cancel _ (by omega), Nat.mul_mod_left]
    exact ⟨rfl, rfl⟩
  · rw [Nat.min_eq_right h1]
    unfold bOf eOf
    rw [if_neg (by omega), if_neg (by omega)]
    refine ⟨?_, rfl⟩
    unfold cuts
    rw [Nat.succ_mul] at h1
    have : n + c - 1 = (n - b * c - 1) + (b + 1) * c := by
      rw [Nat.succ_mul]
      omega
    rw [this, Nat.add_mul_div_right _ _ (by omega), Nat.div_eq_of_lt (by omega)]
    omega
theorem pos_out {c n pos len : Nat} (hc : 1 ≤ c) (h : pos < n) (hl : len = min c (n - pos / c * c)) (he : ¬ pos % c + 1 < len) : min ((pos / c + 1) * c) n = pos + 1 := by
  have h2 := Nat.mod_lt pos (show c > 0 by omega)
  have h3 : pos / c * c + pos % c = pos := Nat.div_add_mod' pos c
  rw [Nat.succ_mul]
  omega
/-- what is told where one stands -/
def slotV (es : List Etr) (pos : Nat) : V := match es[pos]? with
  | some e => .int (e.1 : Nat)
  | none => .non
/-- the first place from pos on whose slot is no less -/
def seekP (es : List Etr) (pos : Nat) (s : Int) : Nat := pos + ((es.drop pos).takeWhile fun e => decide ((e.1 : Int) < s)).length
theorem tw_spec {α : Type} (p : α → Bool) : ∀ (l : List α) (k : Nat), k ≤ l.length → (∀ i < k, ∀ x, l[i]? = some x → p x = true) → (∀ x, l[k]? = some x → p x = false) → (l.takeWhile p).length = k
  | [], 0, _, _, _ => rfl
  | [], k + 1, h, _, _ => absurd h (by simp)
  | x :: r, 0, _, _, h => by rw [List.takeWhile_cons, h x rfl]; rfl
  | x :: r, k + 1, hk, h1, h2 => by
    rw [List.takeWhile_cons, h1 0 (Nat.succ_pos _) x rfl, if_pos rfl, List.length_cons, tw_spec p r k (by simpa using hk) (fun i hi y hy => h1 (i + 1) (by omega) y hy) (fun y hy => h2 y hy)]
/-- how a place is known to be the one sought -/
theorem seek_is {es : List Etr} {pos k : Nat} {s : Int} (h0 : pos ≤ k) (hk : k ≤ es.length) (h1 : ∀ i, pos ≤ i → i < k → ∀ e, es[i]? = some e → (e.1 : Int) < s) (h2 : ∀ e, es[k]? = some e → s ≤ (e.1 : Int)) : seekP es pos s = k := by
  unfold seekP
  rw [tw_spec _ _ (k - pos) (by rw [List.length_drop]; omega)]
  · omega
  · intro i hi x hx
    rw [List.getElem?_drop] at hx
    exact decide_eq_true (h1 (pos + i) (by omega) (by omega) x hx)
  · intro x hx
    rw [List.getElem?_drop, show pos + (k - pos) = k by omega] at hx
    exact decide_eq_false (by have := h2 x hx; omega)
theorem seek_of {es : List Etr} {pos : Nat} {s : Int} (hp : pos ≤ es.length) : pos ≤ seekP es pos s ∧ seekP es pos s ≤ es.length ∧ (∀ i, pos ≤ i → i < seekP es pos s → ∀ e, es[i]? = some e → (e.1 : Int) < s) ∧ (∀ e, es[seekP es pos s]? = some e → s ≤ (e.1 : Int)) := by
  have key : ∀ (l : List Etr), (∀ i < (l.takeWhile fun e => decide ((e.1 : Int) < s)).length, ∀ e, l[i]? = some e → (e.1 : Int) < s) ∧ (∀ e, l[(l.takeWhile fun e => decide ((e.1 : Int) < s)).length]? = some e → s ≤ (e.1 : Int)) ∧ (l.takeWhile fun e => decide ((e.1 : Int) < s)).length ≤ l.length := by
    intro l
    induction l with
    | nil => simp
    | cons x r ih =>
      obtain ⟨i1, i2, i3⟩ := ih
      by_cases hx : (x.1 : Int) < s
      · rw [List.takeWhile_cons, decide_eq_true hx, if_pos rfl, List.length_cons]
        refine ⟨fun i hi e he => ?_, fun e he => i2 e he, Nat.succ_le_succ i3⟩
        cases i with
        | zero => cases he; exact hx
        | succ i => exact i1 i (by omega) e he
      · rw [List.takeWhile_cons, decide_eq_false hx]
        refine ⟨fun i hi => absurd hi (by simp), fun e he => ?_, Nat.zero_le _⟩
        cases he
        omega
  obtain ⟨k1, k2, k3⟩ := key (es.drop pos)
  unfold seekP
  rw [List.length_drop] at k3
  refine ⟨by omega, by omega, fun i h1 h2 e he => ?_, fun e he => ?_⟩
  · refine k1 (i - pos) (by omega) e ?_
    rw [List.getElem?_drop, show pos + (i - pos) = i by omega]
    exact he
  · refine k2 e ?_
    rw [List.getElem?_drop]
    exact he
/-- blocks that are opened, each once -/
def addK (ks : List Nat) (k : Nat) : List Nat := if k ∈ ks then ks else ks ++ [k]
def addO (ks : List Nat) : Option Nat → List Nat
  | none => ks
  | some k => addK ks k
/-- the block that a seek opens -/
def seekO (c : Nat) (es : List Etr) (pos : Nat) (s : Int) : Option Nat :=
  if pos < seekP es pos s ∧ seekP es pos s < es.length ∧ (∀ e, es[seekP es pos s / c * c]? = some e → (e.1 : Int) < s) then some (seekP es pos s / c) else none
theorem slot_rel {es : List Etr} (h : EntOk 0 es) {i j : Nat} {x y : Etr} (hij : i < j) (hx : es[i]? = some x) (hy : es[j]? = some y) : x.1 < y.1 :=
  ris_rel h.1 hij (by rw [List.getElem?_map, hx]; rfl) (by rw [List.getElem?_map, hy]; rfl)
theorem slot_le {es : List Etr} (h : EntOk 0 es) {i j : Nat} {x y : Etr} (hij : i ≤ j) (hx : es[i]? = some x) (hy : es[j]? = some y) : x.1 ≤ y.1 := by
  rcases Nat.lt_or_eq_of_le hij with h1 | h1
  · exact Nat.le_of_lt (slot_rel h h1 hx hy)
  · subst h1
    rw [hx] at hy
    cases hy
    exact Nat.le_refl _
/-! the first and the last slot of a block -/
theorem fst_at {blk : List Etr} {e : Etr} (h : blk[0]? = some e) : fstE blk = e.1 := by
  unfold fstE
  cases blk with
  | nil => cases h
  | cons x r => cases h; rfl
theorem lst_at {blk : List Etr} {e : Etr} (h : blk[blk.length - 1]? = some e) : lstE blk = e.1 := by
  unfold lstE
  rw [← List.getLast?_eq_getElem?] at h
  rw [List.getLastD_eq_getLast?, h]
  rfl
theorem nodup_lt : ∀ (n : Nat) (l : List Nat), l.Nodup → (∀ x ∈ l, x < n) → l.length ≤ n
  | 0, l, _, h => by
    cases l with
    | nil => exact Nat.le_refl _
    | cons x r => exact absurd (h x List.mem_cons_self) (Nat.not_lt_zero _)
  | n + 1, l, hn, h => by
    by_cases hm : n ∈ l
    · have ih := nodup_lt n (l.erase n) (hn.erase n) (fun x hx => by
        have h1 := (List.Nodup.mem_erase_iff hn).mp hx
        have h2 := h x h1.2
        have h3 := h1.1
        omega)
      rw [List.length_erase_of_mem hm] at ih
      omega
    · have := nodup_lt n l hn (fun x hx => by
        have h2 := h x hx
        have h3 : x ≠ n := fun z => hm (z ▸ hx)
        omega)
      omega
/-- the blocks opened: each once, all of them there -/
def OpOk (n : Nat) (ks : List Nat) : Prop := ks.Nodup ∧ ∀ k ∈ ks, k < n
theorem OpOk.nil {n : Nat} : OpOk n [] := ⟨List.nodup_nil, fun k h => absurd h (by simp)⟩
theorem OpOk.add {n k : Nat} {ks : List Nat} (h : OpOk n ks) (hk : k < n) : OpOk n (addK ks k) := by
  unfold addK
  split
  · exact h
  · rename_i hm
    refine ⟨?_, fun j hj => ?_⟩
    · rw [List.nodup_append]
      exact ⟨h.1, by simp, fun a ha b hb => by
        rw [List.mem_singleton.mp hb]
        exact fun z => hm (z ▸ ha)⟩
    · rcases List.mem_append.mp hj with hj | hj
      · exact h.2 j hj
      · rw [List.mem_singleton.mp hj]
        exact hk
theorem mem_addK {ks : List Nat} {k : Nat} : k ∈ addK ks k := by
  unfold addK
  split
  · assumption
  · simp
theorem addK_mem {ks : List Nat} {k : Nat} (h : k ∈ ks) : addK ks k = ks := if_pos h
theorem cut_le {c : Nat} {es : List Etr} (hc : 1 ≤ c) : (cutE c es).length ≤ es.length := by
  rw [cutE_len]
  unfold cuts
  rcases Nat.eq_zero_or_pos es.length with h | h
  · rw [h, Nat.zero_add, Nat.div_eq_of_lt (by omega)]
    exact Nat.le_refl _
  · apply Nat.le_of_lt_succ
    rw [Nat.div_lt_iff_lt_mul (by omega), Nat.succ_mul]
    have : es.length * 1 ≤ es.length * c := Nat.mul_le_mul_left _ hc
    omega
/-- the entries of a block lie between its first and its last slot -/
theorem blk_between {c : Nat} {es bk : List Etr} {pos j : Nat} {x : Etr} (hE : EntOk 0 es) (hc : 1 ≤ c) (hp : pos < es.length) (hb : (cutE c es)[pos / c]? = some bk) (h1 : pos / c * c ≤ j) (h2 : j < min ((pos / c + 1) * c) es.length) (hx : es[j]? = some x) : fstE bk ≤ x.1 ∧ x.1 ≤ lstE bk := by
  obtain ⟨b, g1, g2, g3, g4, g5⟩ := blk_of hc hp
  rw [hb] at g1
  cases g1
  have hl : 0 < bk.length := by omega
  obtain ⟨e0, he0⟩ : ∃ e, bk[0]? = some e := ⟨_, List.getElem?_eq_getElem hl⟩
  obtain ⟨en, hen⟩ : ∃ e, bk[bk.length - 1]? = some e := ⟨_, List.getElem?_eq_getElem (by omega)⟩
  have q0 := he0
  have qn := hen
  rw [blk_at hc hb hp hl, Nat.add_zero] at q0
  rw [blk_at hc hb hp (by omega)] at qn
  rw [Nat.succ_mul] at h2
  have a1 := slot_le hE h1 q0 hx
  have a2 := slot_le hE (show j ≤ pos / c * c + (bk.length - 1) by omega) hx qn
  rw [fst_at he0, lst_at hen]
  exact ⟨a1, a2⟩
/-- the last slot of a block is that of its last entry -/
theorem blk_last {c : Nat} {es bk : List Etr} {pos : Nat} {x : Etr} (hc : 1 ≤ c) (hp : pos < es.length) (hb : (cutE c es)[pos / c]? = some bk) (he : ¬ pos % c + 1 < bk.length) (hx : es[pos]? = some x) : lstE bk = x.1 := by
  obtain ⟨b, g1, g2, g3, g4, g5⟩ := blk_of hc hp
  rw [hb] at g1
  cases g1
  refine lst_at ?_
  rw [show bk.length - 1 = pos % c by omega, g5, hx]
theorem seek_done {es : List Etr} {pos : Nat} {s : Int} (h : es.length ≤ pos) : seekP es pos s = pos := by
  unfold seekP
  rw [List.drop_eq_nil_of_le h]
  rfl
theorem seekO_none {c : Nat} {es : List Etr} {pos k : Nat} {s : Int} (e : seekP es pos s = k) (h : ¬ (pos < k ∧ k < es.length ∧ ∀ e, es[k / c * c]? = some e → (e.1 : Int) < s)) : seekO c es pos s = none := by
  unfold seekO
  rw [e]
  exact if_neg h
theorem seekO_some {c : Nat} {es : List Etr} {pos k : Nat} {s : Int} (e : seekP es pos s = k) (h : pos < k ∧ k < es.length ∧ ∀ e, es[k / c * c]? = some e → (e.1 : Int) < s) : seekO c es pos s = some (k / c) := by
  unfold seekO
  rw [e]
  exact if_pos h
/-! ### what a seek opens, as the law tells it -/
def e0 : Etr := (0, [])
/-- the first and the last entry of a block, by its number -/
def fK (c : Nat) (es : List Etr) (k : Nat) : Etr := es.getD (k * c) e0
def lK (c : Nat) (es : List Etr) (k : Nat) : Etr := es.getD (min (k * c + c) es.length - 1) e0
def opP (c : Nat) (es : List Etr) (i : Int) (k : Nat) : Bool := decide (((fK c es k).1 : Int) < i) && decide (i ≤ ((lK c es k).1 : Int))
theorem filter_one {p : Nat → Bool} {k0 : Nat} : ∀ {L : List Nat}, L.Nodup → k0 ∈ L → (∀ k ∈ L, p k = true ↔ k = k0) → L.filter p = [k0]
  | x :: r, hn, hk, hp => by
    obtain ⟨h1, h2⟩ := List.nodup_cons.mp hn
    by_cases hx : x = k0
    · subst hx
      rw [List.filter_cons, if_pos ((hp x List.mem_cons_self).mpr rfl)]
      congr 1
      rw [List.filter_eq_nil_iff]
      intro y hy z
      have := (hp y (List.mem_cons_of_mem _ hy)).mp z
      subst this
      exact h1 hy
    · have hm : k0 ∈ r := by
        rcases List.mem_cons.mp hk with z | z
        · exact absurd z.symm hx
        · exact z
      rw [List.filter_cons, if_neg (fun z => hx ((hp x List.mem_cons_self).mp z))]
      exact filter_one h2 hm (fun k hk => hp k (List.mem_cons_of_mem _ hk))
theorem getD_some {es : List Etr} {j : Nat} (h : j < es.length) : es[j]? = some (es.getD j e0) := by
  rw [List.getElem?_eq_getElem h, List.getD_eq_getElem?_getD, List.getElem?_eq_getElem h]
  rfl
theorem opened_eq {c : Nat} {es : List Etr} {pos : Nat} {i : Int} {en : Etr} (hE : EntOk 0 es) (hc : 1 ≤ c) (hp : pos < es.length) (hen : es[pos]? = some en) (hi : (en.1 : Int) < i) :
    (List.range' (pos / c) (cuts es.length c - pos / c)).filter (opP c es i) = (seekO c es pos i).toList := by
  obtain ⟨s1, s2, s3, s4⟩ := seek_of (s := i) (Nat.le_of_lt hp)
  have hmem : ∀ k ∈ List.range' (pos / c) (cuts es.length c - pos / c), pos / c ≤ k ∧ k * c < es.length ∧ k < cuts es.length c := fun k hk => by
    obtain ⟨h1, h2⟩ := List.mem_range'_1.mp hk
    have h3 : k < cuts es.length c := by omega
    exact ⟨h1, cuts_lt hc h3, h3⟩
  have hdm : pos / c * c + pos % c = pos := Nat.div_add_mod' pos c
  have hmod := Nat.mod_lt pos (show c > 0 by omega)
  -- the last place of a block is no less than pos
  have hlast : ∀ k, pos / c ≤ k → k * c < es.length → pos ≤ min (k * c + c) es.length - 1 ∧ min (k * c + c) es.length - 1 < es.length := fun k h1 h2 => by
    have : pos / c * c ≤ k * c := Nat.mul_le_mul_right _ h1
    omega
  generalize hP : seekP es pos i = p at *
  have hpp : pos < p := by
    rcases Nat.lt_or_eq_of_le s1 with h | h
    · exact h
    · have := s4 en (by rw [← h]; exact hen)
      omega
  rcases Nat.lt_or_ge p es.length with hlt | hge
  · have hdp : p / c * c + p % c = p := Nat.div_add_mod' p c
    have hmp := Nat.mod_lt p (show c > 0 by omega)
    have hkp : pos / c ≤ p / c := Nat.div_le_div_right (by omega)
    have hkc := cuts_of hc hlt
    obtain ⟨e1, he1⟩ : ∃ e, es[p]? = some e := ⟨_, List.getElem?_eq_getElem hlt⟩
    have hge1 := s4 e1 he1
    have only : ∀ k ∈ List.range' (pos / c) (cuts es.length c - pos / c), opP c es i k = true → k = p / c := fun k hk z => by
      obtain ⟨h1, h2, h3⟩ := hmem k hk
      obtain ⟨l1, l2⟩ := hlast k h1 h2
      unfold opP at z
      rw [Bool.and_eq_true] at z
      have z1 := of_decide_eq_true z.1
      have z2 := of_decide_eq_true z.2
      rcases Nat.lt_trichotomy k (p / c) with h | h | h
      · exfalso
        have h5 : (k + 1) * c ≤ p / c * c := Nat.mul_le_mul_right _ h
        rw [Nat.succ_mul] at h5
        have h6 := s3 (min (k * c + c) es.length - 1) l1 (by omega) _ (getD_some l2)
        unfold lK at z2
        omega
      · exact h
      · exfalso
        have h5 : (p / c + 1) * c ≤ k * c := Nat.mul_le_mul_right _ h
        rw [Nat.succ_mul] at h5
        have h6 := slot_le hE (show p ≤ k * c by omega) he1 (getD_some h2)
        unfold fK at z1
        omega
    have hl2 := hlast (p / c) hkp (by omega)
    have hlk : i ≤ ((lK c es (p / c)).1 : Int) := by
      have h6 := slot_le hE (show p ≤ min (p / c * c + c) es.length - 1 by omega) he1 (getD_some hl2.2)
      unfold lK
      omega
    by_cases hf : ((fK c es (p / c)).1 : Int) < i
    · have eo := seekO_some (c := c) hP ⟨hpp, hlt, fun e he => by
        unfold fK at hf
        rw [getD_some (by omega)] at he
        cases he
        exact hf⟩
      rw [eo]
      refine filter_one List.nodup_range' (List.mem_range'_1.mpr ⟨hkp, by omega⟩) (fun k hk => ⟨only k hk, fun z => ?_⟩)
      rw [z]
      unfold opP
      rw [decide_eq_true hf, decide_eq_true hlk]
      rfl
    · have eo := seekO_none (c := c) hP (fun z => hf (z.2.2 _ (getD_some (by omega))))
      rw [eo]
      show _ = []
      rw [List.filter_eq_nil_iff]
      intro k hk z
      have := only k hk z
      subst this
      unfold opP at z
      rw [Bool.and_eq_true] at z
      exact hf (of_decide_eq_true z.1)
  · have eo := seekO_none (c := c) hP (fun z => by omega)
    rw [eo]
    show _ = []
    rw [List.filter_eq_nil_iff]
    intro k hk z
    obtain ⟨h1, h2, h3⟩ := hmem k hk
    obtain ⟨l1, l2⟩ := hlast k h1 h2
    have h6 := s3 (min (k * c + c) es.length - 1) l1 (by omega) _ (getD_some l2)
    unfold opP at z
    rw [Bool.and_eq_true] at z
    have := of_decide_eq_true z.2
    unfold lK at this
    omega
/-! ### glances -/
def glE (es : List Etr) : Nat → List Int → Nat
  | p, [] => p
  | p, i :: r => glE es (seekP es p i) r
def glV (es : List Etr) : Nat → List Int → List V
  | _, [] => []
  | p, i :: r => slotV es (seekP es p i) :: glV es (seekP es p i) r
def glK (c : Nat) (es : List Etr) : Nat → List Nat → List Int → List Nat
  | _, ks, [] => ks
  | p, ks, i :: r => glK c es (seekP es p i) (addO ks (seekO c es p i)) r
theorem glE_snoc (es : List Etr) (i : Int) : ∀ (is : List Int) (p : Nat), glE es p (is ++ [i]) = seekP es (glE es p is) i
  | [], _ => rfl
  | _ :: r, p => glE_snoc es i r _
theorem glV_snoc (es : List Etr) (i : Int) : ∀ (is : List Int) (p : Nat), glV es p (is ++ [i]) = glV es p is ++ [slotV es (seekP es (glE es p is) i)]
  | [], _ => rfl
  | j :: r, p => by
    show slotV es (seekP es p j) :: glV es (seekP es p j) (r ++ [i]) = _
    rw [glV_snoc es i r]
    rfl
theorem glK_snoc (c : Nat) (es : List Etr) (i : Int) : ∀ (is : List Int) (p : Nat) (ks : List Nat), glK c es p ks (is ++ [i]) = addO (glK c es p ks is) (seekO c es (glE es p is) i)
  | [], _, _ => rfl
  | j :: r, p, ks => glK_snoc c es i r _ _
theorem glV_len (es : List Etr) : ∀ (is : List Int) (p : Nat), (glV es p is).length = is.length
  | [], _ => rfl
  | j :: r, p => by
    show (glV es (seekP es p j) r).length + 1 = _
    rw [glV_len es r]
    rfl
theorem addK_sub {ks : List Nat} {k j : Nat} (h : j ∈ ks) : j ∈ addK ks k := by
  unfold addK
  split
  · exact h
  · exact List.mem_append_left _ h
theorem addO_sub {ks : List Nat} {o : Option Nat} {j : Nat} (h : j ∈ ks) : j ∈ addO ks o := by
  cases o with
  | none => exact h
  | some k => exact addK_sub h
theorem glK_sub (c : Nat) (es : List Etr) : ∀ (is : List Int) (p : Nat) (ks : List Nat) {j : Nat}, j ∈ ks → j ∈ glK c es p ks is
  | [], _, _, _, h => h
  | i :: r, p, ks, j, h => glK_sub c es r _ _ (addO_sub h)
end Bw

/-! a comprehension within a comprehension -/
namespace Bw
open PySem PySem.Spec PyProof.Rows L2
theorem blkOk_in {N : List PySem.Str} {sc scope1 scope2 : Scope} {own : List (PySem.Str × Nat)} {env : Env} {cl : List (PySem.Str × Addr)} {C : Addr} (he : env.scope = sc) (h : blkC N (relS scope1 sc) scope2 own = true) : BlkOk N (compEnvC scope1 cl C env).scope scope2 own := by
  subst he
  have e : (compEnvC scope1 cl C env).scope = relS scope1 env.scope := rfl
  rw [e]
  exact blkOk_by h
end Bw

/-! exceptions whose contexts are a chain that ends (raised anywhere, also in an except suite) -/
namespace Bw
open PySem PySem.Spec PyProof.Rows L2 L2H HotX
/-! ### chains of contexts -/
inductive Chn (h : Heap) (N : Addr → Prop) : Value → Prop
  | non : Chn h N .none
  | ref {x : Addr} {o : Obj} {vs : Array Value} {c : Value} : h.get? x = some o → o.data = .fields vs → N x → vs[2]? = some c → Chn h N c → Chn h N (.ref x)
theorem Chn.keeps {h h' : Heap} {N : Addr → Prop} (k : ∀ b o, h.get? b = some o → h'.get? b = some o) : ∀ {c : Value}, Chn h N c → Chn h' N c
  | _, .non => .non
  | _, .ref a b n d e => .ref (k _ _ a) b n d (e.keeps k)
theorem Chn.imp {h : Heap} {N N' : Addr → Prop} (n : ∀ x o, h.get? x = some o → N x → N' x) : ∀ {c : Value}, Chn h N c → Chn h N' c
  | _, .non => .non
  | _, .ref a b m d e => .ref a b (n _ _ a m) d (e.imp n)
theorem Chn.both {h h' : Heap} {N N' : Addr → Prop} (k : ∀ b o vs, h.get? b = some o → o.data = .fields vs → N b → h'.get? b = some o ∧ N' b) : ∀ {c : Value}, Chn h N c → Chn h' N' c
  | _, .non => .non
  | _, .ref a b m d e => .ref (k _ _ _ a b m).1 b (k _ _ _ a b m).2 d (e.both k)
/-- from y to x along the contexts -/
inductive Way (h : Heap) : Addr → Addr → Prop
  | refl (x : Addr) : Way h x x
  | step {y z x : Addr} {o : Obj} {vs : Array Value} : h.get? y = some o → o.data = .fields vs → vs[2]? = some (.ref z) → Way h z x → Way h y x
theorem Way.snoc {h : Heap} {x z : Addr} {o : Obj} {vs : Array Value} (h1 : h.get? x = some o) (h2 : o.data = .fields vs) (h3 : vs[2]? = some (.ref z)) : ∀ {y : Addr}, Way h y x → Way h y z
  | _, .refl _ => .step h1 h2 h3 (.refl _)
  | _, .step a b c w => .step a b c (w.snoc h1 h2 h3)
section
variable {prog : Program} {w : World} {A : Around} {E : Value → Shared → Prop} {s : Shared}
theorem unchain_any {a : Addr} {c : Value} (C : Chn s.heap (fun x => x ≠ a) c) : ∀ {A : Around} {x y : Addr} {o : Obj} {vs : Array Value} {t : Bool} {R : Result → Shared → Prop}, s.heap.get? x = some o → o.data = .fields vs → vs[2]? = some c → Way s.heap y x → R (.ok (.ret .none)) s →
    codeAny (model prog w) A (.builtin "proto.unchain" ⟨[.ref a, .ref x, .ref y, .bool t], []⟩) R s := by
  induction C with
  | non =>
    intro A x y o vs t R h1 h2 h3 W q
    refine codeAny_builtin HotX.entry_unchain ?_
    show wpAny _ _ (field (.ref x) 2 >>= _) _ _ s
    refine wpAny_bind (wpAny_field h1 h2 h3 ?_)
    rw [if_pos (show (Value.none == Value.none) = true from rfl)]
    first
    | exact wpAny_bind (wpAny_pure (wpAny_pure q))
    | exact wpAny_pure q
  | @ref z oz vz cz g1 g2 g3 g4 C ih =>
    intro A x y o vs t R h1 h2 h3 W q
    refine codeAny_builtin HotX.entry_unchain ?_
    show wpAny _ _ (field (.ref x) 2 >>= _) _ _ s
    refine wpAny_bind (wpAny_field h1 h2 h3 ?_)
    have n1 : ¬ ((Value.ref z == Value.none) = true) := by simp
    have n2 : ¬ ((Value.ref z == Value.ref a) = true) := by
      simp
      exact g3
    rw [if_neg n1]
    first
    | rw [if_neg n2]
    | (refine wpAny_bind (wpAny_pure ?_); rw [if_neg n2])
    have go : ∀ (y' : Addr), Way s.heap y' z → wpAny (model prog w) (A.under (.builtin "proto.unchain" ⟨[.ref a, .ref x, .ref y, .bool t], []⟩)) (again (.builtin "proto.unchain" ⟨[.ref a, .ref z, .ref y', .bool !t], []⟩))
        (fun fin s' => match fin with | .done f => R (.ok f) s' | .again c' => c'.quiet = true ∧ codeAny (model prog w) A c' R s') (fun e s' => R (.error e) s') s := fun y' W' => by
      refine wpAny_pure ⟨Code.quiet_builtin _ (by decide +kernel), ?_⟩
      exact ih g1 g2 g4 W' q
    have W1 : Way s.heap y z := W.snoc h1 h2 h3
    by_cases hy : z = y
    · have e1 : (Value.ref z == Value.ref y) = true := by simp [hy]
      first
      | rw [if_pos e1]
      | (refine wpAny_bind (wpAny_pure ?_); rw [if_pos e1])
      first
      | exact wpAny_rule (wpAny_pure q)
      | exact wpAny_bind (wpAny_rule (wpAny_pure q))
      | exact wpAny_rule (wpAny_bind (wpAny_pure (wpAny_pure q)))
    · have e1 : ¬ ((Value.ref z == Value.ref y) = true) := by
        simp
        exact hy
      first
      | rw [if_neg e1]
      | (refine wpAny_bind (wpAny_pure ?_); rw [if_neg e1])
      cases t with
      | false =>
        first
        | (show wpAny _ _ (again _) _ _ _; exact go y W1)
        | (simp only [Bool.false_eq_true, if_false]; first | exact wpAny_bind (wpAny_pure (go y W1)) | exact go y W1)
        | exact wpAny_bind (wpAny_pure (go y W1))
      | true =>
        cases W with
        | refl _ =>
          simp only [if_true]
          refine wpAny_bind (wpAny_field h1 h2 h3 ?_)
          exact go z (.refl z)
        | @step _ z2 _ o2 v2 k1 k2 k3 W2 =>
          simp only [if_true]
          refine wpAny_bind (wpAny_field k1 k2 k3 ?_)
          exact go z2 (W2.snoc h1 h2 h3)
/-- the exception that is handled, the chain behind it -/
def HotL (A : Around) (x1 : Addr) (h : Heap) : Prop := A.handled = some (.ref x1) ∧ Chn h (fun _ => True) (.ref x1)
theorem raiseNewL {α : Type} {a x1 : Addr} {oe : Obj} {vs : Array Value} {Q : α → Shared → Prop} (hot : HotL A x1 s.heap) (hne : Chn s.heap (fun x => x ≠ a) (.ref x1)) (ha : s.heap.get? a = some oe) (da : oe.data = .fields vs) (hi : 2 < vs.size)
    (hE : E (.ref a) { s with heap := s.heap.update a (Obj.mapFields (·.setIfInBounds 2 (.ref x1))) }) : wpAny (model prog w) A (raiseNew (.ref a) : Sem α) Q E s := by
  obtain ⟨hh, _⟩ := hot
  cases hne with
  | @ref _ o1 vs1 c h1 d1 n1 c1 C =>
    unfold raiseNew
    refine wpAny_bind (wpAny_handled ?_)
    rw [hh]
    have hb : (Value.ref x1 != Value.ref a) = true := ref_bne n1
    have U : ∀ {Q : Value → Shared → Prop}, Q .none s → wpAny (model prog w) A (holding [Value.ref a] (runValue (.builtin "proto.unchain" ⟨[.ref a, .ref x1, .ref x1, .bool false], []⟩))) Q E s := fun q =>
      wpAny_holding (wpAny_runValue (unchain_any C h1 d1 c1 (.refl x1) q))
    first
    | (show wpAny _ _ (if (Value.ref x1 != Value.ref a) = true then _ else _) _ _ _
       rw [if_pos hb]
       first
       | exact wpAny_bind (U (wpAny_bind (chained ha da hi (wpAny_throw hE))))
       | exact wpAny_bind (wpAny_bind (U (chained ha da hi (wpAny_throw hE)))))
    | (refine wpAny_bind ?_
       show wpAny _ _ (if (Value.ref x1 != Value.ref a) = true then _ else _) _ _ _
       rw [if_pos hb]
       exact wpAny_bind (U (chained ha da hi (wpAny_throw hE))))
/-- a new object isn't on the chain -/
theorem chn_new {h h' : Heap} {a : Addr} {N : Addr → Prop} {c : Value} (C : Chn h N c) (k : ∀ b o, h.get? b = some o → h'.get? b = some o) (na : h.get? a = none) : Chn h' (fun x => x ≠ a) c :=
  C.both fun b o vs e _ _ => ⟨k b o e, fun z => by rw [z, na] at e; cases e⟩
end
/-! ### exceptions in the air, with their chains -/
/-- what is kept of the exception's object -/
def Zb (B : Heap) (H : Hp) (cls : Value) (d : Option Addr) : Obj → Prop := fun o => o.cls = cls ∧ o.dict = d ∧ ∀ vs : Array Value, o.data = .fields vs → ∃ c, vs[2]? = some c ∧ Chn B (fun x => H x = none) c
theorem Zb.zc {B : Heap} {H : Hp} {cls : Value} {d : Option Addr} {o : Obj} (h : Zb B H cls d o) : Zc cls d o := ⟨h.1, h.2.1⟩
theorem Zb.steady {B : Heap} {H : Hp} {cls : Value} {d : Option Addr} : PXN.Steady1 (Zb B H cls d) := fun o v h => ⟨PXN.steady_cls o v h.1, PXN.steady_dict o v h.2.1, by
  obtain ⟨c, d, dt, sl⟩ := o
  cases dt with
  | fields vs0 =>
    intro vs e
    have e2 : vs0.setIfInBounds 1 v = vs := Data.fields.inj e
    obtain ⟨k, hk, C⟩ := h.2.2 vs0 rfl
    refine ⟨k, ?_, C⟩
    rw [← e2]
    exact set_other (by decide) hk
  | _ =>
    intro vs e
    first
    | exact Data.noConfusion e
    | cases e⟩
def XEc (X : Cx) (W : WX) (u : Value) (s' : Shared) : Prop :=
  ∃ (a : Addr) (B : Heap) (sI : Shared) (pins : List (Addr × Obj)) (σ : L2.St) (H : Hp) (cls : Value) (d : Option Addr),
    u = .ref a ∧ Inv X pins σ H sI ∧ (∀ b o, sI.heap.get? b = some o → b ∉ frs X.stack → B.get? b = some o) ∧ sI.heap.UpToSlots s'.heap ∧
      Sky B X.stack a (Zb B H cls d) X.env.locals s'.heap ∧ H a = none ∧ s'.os = sI.os ∧ AllBare s'.gens ∧ W cls d σ H
def TakesC (X : Cx) (W : WX) : Prop := ∀ u s', XEc X W u s' → X.xe u s'
theorem TakesC.imp {X : Cx} {W W' : WX} (t : TakesC X W) (h : ∀ c d σ H, W' c d σ H → W c d σ H) : TakesC X W' := fun u s' ⟨a, B, sI, pins, σ, H, cls, d, e, I, nb, up, sky, na, os, ag, w⟩ =>
  t u s' ⟨a, B, sI, pins, σ, H, cls, d, e, I, nb, up, sky, na, os, ag, h _ _ _ _ w⟩
theorem heldZ_imp {h B : Heap} {l : List Env} {a L : Addr} {Z Z' : Obj → Prop} (z : ∀ o, Z o → Z' o) (x : HandSPX.HeldZ B l a Z L h) : HandSPX.HeldZ B l a Z' L h := ⟨x.1, x.2.1, x.2.2.1, tracedZ_imp z x.2.2.2⟩
theorem sky_imp {h B : Heap} {l : List Env} {a L : Addr} {Z Z' : Obj → Prop} (z : ∀ o, Z o → Z' o) (x : Sky B l a Z L h) : Sky B l a Z' L h := by
  rcases x with ⟨h1, h2, h3, oe, vs, h4, h5, h6⟩ | x | x
  · exact .inl ⟨h1, h2, h3, oe, vs, h4, z _ h5, h6⟩
  · exact .inr (.inl (flyingZ_imp z x))
  · exact .inr (.inr (heldZ_imp z x))
/-- what takes any exception takes these -/
theorem TakesC.of {X : Cx} {W : WX} (t : L2.Takes X W) : TakesC X W := fun u s' ⟨a, B, sI, pins, σ, H, cls, d, e, I, nb, up, sky, na, os, ag, w⟩ =>
  t u s' ⟨a, B, sI, pins, σ, H, cls, d, e, I, nb, up, sky_imp (fun _ z => z.zc) sky, na, os, ag, w⟩
def CXc (P : Program) (w : World) (outer : List Env) (H : Hp) (s : Shared) (E : XK) (u : Value) (s' : Shared) : Prop :=
  ∃ (a : Addr) (B : Heap) (H' : Hp) (cls : Value) (d : Option Addr), u = .ref a ∧ HandSPX.FlyingZ B outer a (Zb B H' cls d) s'.heap ∧ HOk P w H' B ∧ UB (frs outer) H H' s.heap B s'.heap ∧ H' a = none ∧ s'.os = s.os ∧ AllBare s'.gens ∧ E cls d H'
section
variable {X : Cx} {pins : List (Addr × Obj)} {σ : L2.St} {H : Hp} {sI s s' : Shared} {B : Heap} {W : WX} {E : XK}
theorem XEc.of_call (I : Inv X pins σ H s) (hW : ∀ cls d H', E cls d H' → W cls d σ H') {u : Value} (c : CXc X.prog X.w X.stack H s E u s') : XEc X W u s' := by
  obtain ⟨a, B, H', cls, d, rfl, fl, hok, ub, na, os, ag, hE⟩ := c
  obtain ⟨G, g1, g2⟩ := restrict s'.heap fun b => (B.get? b).isSome || decide (b ∈ frs X.stack)
  have st : B.StaysIn s'.heap := fl.1
  have gB : ∀ b o, B.get? b = some o → G.get? b = some o := fun b o e => by
    rw [g1 b (by simp [e])]
    exact st b o e
  have gF : ∀ b, b ∈ frs X.stack → G.get? b = s'.heap.get? b := fun b hb => g1 b (by simp [hb])
  have og : ∀ b o, G.get? b = some o → s'.heap.get? b = some o ∧ ((B.get? b).isSome = true ∨ b ∈ frs X.stack) := fun b o e => by
    cases q : ((B.get? b).isSome || decide (b ∈ frs X.stack)) with
    | false => rw [g2 b q] at e; cases e
    | true =>
      rw [g1 b q] at e
      exact ⟨e, by simpa [Bool.or_eq_true] using q⟩
  refine ⟨a, B, { s with heap := G, gens := s'.gens, drawn := s'.drawn, toks := s'.toks }, pins, σ, H', cls, d, rfl, ?_, fun b o e hb => ?_, Heap.UpToSlots.of_keeps fun b o e => (og b o e).1, .inr (.inl fl), na, os, ag, hW _ _ _ hE⟩
  · refine I.call (ch := []) ⟨fun b o e n hb _ => gB b o (ub.keep b o e n hb), fun b o e n hb _ => ?_, fun b o e n _ => ub.free b o e n, fun b o e _ => ?_, ub.tups, ub.frzs, ub.tbls⟩ (hok.kept gB) ag (fun _ z => nomatch z)
    · obtain ⟨sl, q⟩ := ub.slot b o e hb
      exact ⟨sl, by rw [gF b hb]; exact q⟩
    · by_cases hb : b ∈ frs X.stack
      · obtain ⟨sl, q⟩ := ub.slot b o e hb
        exact ⟨_, by rw [gF b hb]; exact q⟩
      · obtain ⟨o', q⟩ := ub.there b o e hb
        exact ⟨o', gB b o' q⟩
  · obtain ⟨e', h⟩ := og b o e
    rcases h with h | h
    · obtain ⟨o', q⟩ := Option.isSome_iff_exists.mp h
      have z := st b o' q
      rw [e'] at z; cases z
      exact q
    · exact absurd h hb
theorem chn_ground (I : Inv X pins σ H sI) {N : Addr → Prop} {c : Value} (C : Chn sI.heap N c) : Chn (PySem.W.hideAll sI.heap (frs X.stack)) N c :=
  C.both fun b o vs e d n => ⟨PySem.W.hideAll_get _ e fun hb => by
    obtain ⟨_, o', e', hd⟩ := I.stack.mem hb
    rw [e] at e'; cases e'
    exact hd _ d, n⟩
/-- a new exception is in our air -/
theorem XEc.new {a : Addr} {oe : Obj} {vs : Array Value} {cls : Value} {d : Option Addr} {c : Value} (I : Inv X pins σ H sI) (k : ∀ b o, sI.heap.get? b = some o → s'.heap.get? b = some o) (hne : sI.heap.get? a = none) (he : s'.heap.get? a = some oe)
    (hz : Zc cls d oe) (hd : oe.data = .fields vs) (h1 : vs[1]? = some .none) (h2 : vs[2]? = some c) (C : Chn sI.heap (fun x => H x = none) c) (na : H a = none) (os : s'.os = sI.os) (ag : AllBare s'.gens) (w : W cls d σ H) : XEc X W (.ref a) s' := by
  refine ⟨a, PySem.W.hideAll sI.heap (frs X.stack), sI, pins, σ, H, cls, d, rfl, I, fun b o e hb => PySem.W.hideAll_get _ e hb, Heap.UpToSlots.of_keeps k,
    .inl ⟨fun b o e => k b o (PySem.W.of_hideAll _ e), ?_, ?_, oe, vs, he, ⟨hz.1, hz.2, fun vs' e => ?_⟩, hd, h1⟩, na, os, ag, w⟩
  · cases q : (PySem.W.hideAll sI.heap (frs X.stack)).get? a with
    | none => rfl
    | some o =>
      have z := PySem.W.of_hideAll _ q
      rw [hne] at z; cases z
  · exact Heap.FunFrames.of_keeps (fun b o e _ => ⟨o, k b o e, rfl⟩) (funFrames_none I.stack fun b hb => PySem.W.hideAll_none _ hb)
  · rw [hd] at e
    cases e
    exact ⟨c, h2, chn_ground I C⟩
theorem XEc.leave (hs : X.stack = X.env :: X.outer) (hf : X.env.frame = some X.env.locals) (hex : X.ex = []) {E₁ : Value → Shared → Prop} (hW : ∀ cls d σ H, W cls d σ H → E cls d H) {u : Value} (x : XEc X W u s') :
    wpAny (model X.prog X.w) X.A (leaving X.env u) (fun _ s'' => CXc X.prog X.w X.outer X.H_0 X.s_0 E u s'') E₁ s' := by
  obtain ⟨a, B, sI, pins, σ, H, cls, d, rfl, I, nb, up, sky, na, os, ag, w⟩ := x
  have hfr : X.A.frames = some (X.env :: X.outer) := by rw [I.ok.frames, hs]
  have nst : ∀ b o, X.s_0.heap.get? b = some o → b ∉ X.fs → b ∉ frs X.stack := fun b o e hb hm => by
    rcases List.mem_cons.mp (I.stkSub b hm) with z | z
    · have h1 := Heap.lt_size e
      have h2 := I.ok.above
      rw [z] at h1
      exact absurd (Nat.lt_of_lt_of_le h1 h2) (Nat.lt_irrefl _)
    · exact hb z
  have hex' : ∀ b, b ∉ X.ex := fun b hb => by rw [hex] at hb; cases hb
  have hokB := I.inGround nb
  have fin : ∀ h', HandSPX.FlyingZ B X.outer a (Zb B H cls d) h' → s'.heap.UpToSlots h' → CXc X.prog X.w X.outer X.H_0 X.s_0 E (.ref a) { s' with heap := h' } := fun h' fl up' => by
    refine ⟨a, B, H, cls, d, rfl, fl, hokB, ⟨fun b o e n hb => nb b o (I.base.keep b o e n hb (hex' b)) (nst b o e hb), fun b o e hb => ?_, fun b o e n => I.base.free b o e n (hex' b), fun b o e hb => ?_, I.base.tups, I.base.frzs, I.base.tbls⟩,
      na, os.trans I.os, ag, hW _ _ _ _ w⟩
    · obtain ⟨_, o₀, e₀, hnf⟩ := I.ok.funs.mem hb
      rw [e] at e₀; cases e₀
      obtain ⟨sl, e1⟩ := I.base.slot b o e (I.ok.frf b hb) hb (hex' b)
      obtain ⟨sl2, e2⟩ := up b _ e1 hnf
      obtain ⟨sl3, e3⟩ := up' b _ e2 hnf
      exact ⟨sl3, e3⟩
    · obtain ⟨o', e1⟩ := I.base.there b o e (hex' b)
      exact ⟨o', nb b o' e1 (nst b o e hb)⟩
  rw [hs] at sky
  rcases sky with ⟨hB, hn, hl, oe, vs, he, hz, hd, h1⟩ | fl | hd
  · exact PXN.leaving_firstZ Zb.steady hfr hl hf he hB hn hd h1 hz fin
  · exact PXN.leaves_onZ Zb.steady hfr hf fl fin
  · exact HandSPX.leaves_heldZ hf hd fin
theorem takesC_of (hs : X.stack = X.env :: X.outer) (hf : X.env.frame = some X.env.locals) (hex : X.ex = []) {E₁ : Value → Shared → Prop}
    (hx : X.xe = fun e s' => wpAny (model X.prog X.w) X.A (leaving X.env e) (fun _ s'' => CXc X.prog X.w X.outer X.H_0 X.s_0 E e s'') E₁ s') : TakesC X (fun cls d _ H => E cls d H) := fun u s' x => by
  rw [hx]
  exact XEc.leave (W := fun cls d _ H => E cls d H) (E := E) hs hf hex (fun _ _ _ _ h => h) x
theorem passesC_call (tk : TakesC X W) (hW : ∀ cls d σ H, E cls d H → W cls d σ H) : ∀ (pins : List (Addr × Obj)) (σ : L2.St) (H : Hp) (s : Shared) (e : Value) (s' : Shared), Inv X pins σ H s → CXc X.prog X.w X.stack H s E e s' → X.xe e s' :=
  fun _ σ _ _ e s' I c => tk e s' (XEc.of_call I (fun cls d H' h => hW cls d σ H' h) c)
end
theorem CXc.cx {P : Program} {w : World} {outer : List Env} {H : Hp} {s : Shared} {E : XK} {u : Value} {s' : Shared} (h : CXc P w outer H s E u s') : L2.CX P w outer H s E u s' := by
  obtain ⟨a, B, H', cls, d, e, fl, r⟩ := h
  exact ⟨a, B, H', cls, d, e, flyingZ_imp (fun _ z => z.zc) fl, r⟩
/-! ### an except suite's context -/
/-- the chain stands among the pins -/
inductive ChP (pn : List (Addr × Obj)) : Value → Prop
  | non : ChP pn .none
  | ref {q : Addr × Obj} {vs : Array Value} {c : Value} : q ∈ pn → q.2.data = .fields vs → vs[2]? = some c → ChP pn c → ChP pn (.ref q.1)
theorem ChP.mono {pn pn' : List (Addr × Obj)} (k : ∀ q ∈ pn, q ∈ pn') : ∀ {c : Value}, ChP pn c → ChP pn' c
  | _, .non => .non
  | _, .ref a b d e => .ref (k _ a) b d (e.mono k)
/-- p is handled, its chain ends -/
structure HotP (A : Around) (pn : List (Addr × Obj)) (p : Addr × Obj) : Prop where
  mem : p ∈ pn
  hd : A.handled = some (.ref p.1)
  ch : ChP pn (.ref p.1)
def HotD (X : Cx) : Prop := ∃ p : Addr × Obj, HotP X.A X.pn p
theorem ChP.at {X : Cx} {pins : List (Addr × Obj)} {σ : L2.St} {H : Hp} {s : Shared} (I : Inv X pins σ H s) : ∀ {c : Value}, ChP X.pn c → Chn s.heap (fun x => H x = none) c
  | _, .non => .non
  | _, .ref a b d e => .ref (I.pin _ (List.mem_append_left _ a)).1 b (I.pin _ (List.mem_append_left _ a)).2.1 d (e.at I)
theorem HotD.at {X : Cx} {pins : List (Addr × Obj)} {σ : L2.St} {H : Hp} {s : Shared} (c : HotD X) (I : Inv X pins σ H s) : ∃ x1, X.A.handled = some (.ref x1) ∧ Chn s.heap (fun x => H x = none) (.ref x1) := by
  obtain ⟨p, h⟩ := c
  exact ⟨p.1, h.hd, h.ch.at I⟩
theorem Chn.pins {h : Heap} {N : Addr → Prop} : ∀ {c : Value}, Chn h N c → ∃ pl : List (Addr × Obj), (∀ q ∈ pl, h.get? q.1 = some q.2 ∧ N q.1 ∧ ∃ vs, q.2.data = .fields vs) ∧ ChP pl c
  | _, .non => ⟨[], fun q hq => absurd hq (by simp), .non⟩
  | _, @Chn.ref _ _ x o vs c a b n d e => by
    obtain ⟨pl, h1, h2⟩ := e.pins
    refine ⟨(x, o) :: pl, fun q hq => ?_, .ref (q := (x, o)) List.mem_cons_self b d (h2.mono fun q hq => List.mem_cons_of_mem _ hq)⟩
    rcases List.mem_cons.mp hq with rfl | hq
    · exact ⟨a, n, _, b⟩
    · exact h1 q hq
/-! ### raise -/
section
variable {X : Cx} {W : WX} {e : Expr} {t : L2.St → Hp → XK → Prop} {pos : Pos}
theorem ps_rse (hc : X.calm = true) (tk : TakesC X W) (he : L2N.PMk X e t) : PS X (.Raise (some e) none pos) (fun _ σ H => t σ H fun cls d H' => W cls d σ H') := by
  refine ⟨fun pins s σ H D I h => ?_⟩
  show wpAny _ _ (do standAt pos; raiseStmt X.env (some (do let v ← eval e X.env; standAt pos; pure v)) none) _ _ _
  refine wpAny_bind (wpAny_standAt (raise_made (I.ok.hd hc) (wpAny_bind (wpAny_mono (he pins s σ H _ I h) (fun u s1 hu => wpAny_bind (wpAny_standAt (wpAny_pure ?_))) fun _ _ x => x))))
  obtain ⟨a, oe, vs, sI, H', cls, d, rfl, J, k, hne, ha, hz, hd, h1, na, os, ag, r, q⟩ := hu
  obtain ⟨r1, r2⟩ := r (model X.prog X.w) s1.heap (J.kIn.keeps k)
  exact ⟨a, oe, vs, cls, rfl, ha, hz.1, hd, h1, r1, r2, tk _ _ (XEc.new J k hne ha hz.zc hd h1 (hz.2.2 vs hd) .non na os ag q)⟩
end
end Bw

/-! list comprehensions over a text while an exception is handled -/
namespace Bw
open PySem PySem.Spec PyProof.Rows L2 L2H HotX
section
variable {prog : Program} {w : World} {A : Around} {E : Value → Shared → Prop} {s : Shared}
/-- the StopIteration at an iterator's end, the handled exception put behind it -/
theorem stop_hot {x1 : Addr} (hot : HotL A x1 s.heap)
    (hE : ∀ h' e, (∀ b o, s.heap.get? b = some o → h'.get? b = some o) → (∃ o, h'.get? e = some o ∧ o.cls = .type "StopIteration") → E (.ref e) { s with heap := h' }) {Q : Fin → Shared → Prop} :
    wpAny (model prog w) A (do raiseNew (← newExc (.type "StopIteration") []) : Sem Fin) Q E s := by
  obtain ⟨hh, C⟩ := hot
  refine wpAny_bind ?_
  simp only [newExc, newTuple]
  refine wpAny_bind (wpAny_newObj_type ?_ (by size_fits))
  refine wpAny_bind (m := firstArgMember _ _) (wpAny_of_eq (a := Value.none) (by first | rfl | (simp only [firstArgMember]; rfl)) ?_)
  refine wpAny_newObj_type ?_ (by size_fits)
  refine raiseNewL ⟨hh, C.keeps fun b o e => Heap.get?_push_of_some _ (Heap.get?_push_of_some _ e)⟩ (chn_new C (fun b o e => Heap.get?_push_of_some _ (Heap.get?_push_of_some _ e)) ?_) (Heap.get?_push_size _ rfl) rfl (by first | (simp; done) | (simp; omega) | (simp only [Array.size_append]; simp; omega)) ?_
  · cases q : s.heap.get? _ with
    | none => rfl
    | some o =>
      have z : (s.heap.push _).objs.size < s.heap.objs.size := Heap.lt_size q
      rw [Heap.size_push] at z
      exact absurd z (by omega)
  refine hE _ _ (fun b o e => ?_) ⟨_, Heap.get?_update_self _ (Heap.get?_push_size _ rfl) rfl, rfl⟩
  rw [Heap.get?_update_other _ _ (Nat.ne_of_gt (Heap.lt_size (Heap.get?_push_of_some _ e)))]
  exact Heap.get?_push_of_some _ (Heap.get?_push_of_some _ e)
theorem chn_iter {h : Heap} {N : Addr → Prop} {it : Addr} {ty : String} {x : Str} {t : Tok} {i : Nat} (hit : h.IsStrIter it ty x t i) : ∀ {c : Value}, Chn h N c → Chn h (fun y => N y ∧ y ≠ it) c
  | _, .non => .non
  | _, .ref a b n d e => .ref a b ⟨n, fun z => by
      obtain ⟨o, ho, hc, hd⟩ := hit
      rw [z, ho] at a
      cases a
      rw [hd] at b
      cases b
      simp at d⟩ d (chn_iter hit e)
theorem ascii_end_hot {it x1 : Addr} {x : Str} {t : Tok} {i : Nat} {Q : Option Value → Shared → Prop} (hot : HotL A x1 s.heap)
    (hit : s.heap.IsStrIter it "str_ascii_iterator" x t i) (hx : x.cps[i]? = none)
    (hQ : ∀ h', Heap.ExtBut it s.heap h' → Q none { s with heap := h' }) : wpAny (model prog w) A (pyNext (.ref it)) Q E s := by
  obtain ⟨o, ho, hc, hd⟩ := id hit
  unfold pyNext
  refine wpAny_bind (wpAny_attempt (wpAny_callSpecial?_slot (name := Str.ofString "__next__") hit.typeIs F.slot_str_ascii_iterator_next
    (wpAny_call_entry F.slot_str_ascii_iterator_next hit.typeIs F.entry_str_ascii_iterator_next ?_ (F.args_str_ascii_iterator_next_1 _))))
  show wpAny _ _ (field (.ref it) 0 >>= _) _ _ s
  refine wpAny_bind (wpAny_field ho hd (x := .str x t) rfl ?_)
  show wpAny _ _ (field (.ref it) 1 >>= _) _ _ s
  refine wpAny_bind (wpAny_field ho hd (x := .int i 0) rfl ?_)
  simp only [Int.toNat_natCast, hx]
  refine wpAny_bind (wpAny_rule (wpAny_bind (wpAny_setField ho hd (by simp) (wpAny_bind (wpAny_letGo ?_)))))
  obtain ⟨hh, C⟩ := hot
  refine stop_hot (x1 := x1) (by refine ⟨hh, ?_⟩; exact (chn_iter hit C).both fun b o vs e _ n => ⟨(Heap.get?_update_other _ _ (Ne.symm n.2)).trans e, trivial⟩) (fun h' e hk he => ?_)
  obtain ⟨oe, hoe, hce⟩ := he
  refine wpAny_bind (wpAny_isInstance (T := "StopIteration") (b := true) ⟨oe, hoe, hce⟩ isSubtype_stop ?_)
  refine wpAny_pure (hQ _ fun b o' nb e => hk _ _ ?_)
  exact (Heap.get?_update_other _ _ (Ne.symm nb)).trans e
theorem wide_end_hot {it x1 : Addr} {x : Str} {t : Tok} {i : Nat} {Q : Option Value → Shared → Prop} (hot : HotL A x1 s.heap)
    (hit : s.heap.IsStrIter it "str_iterator" x t i) (hx : x.cps[i]? = none)
    (hQ : ∀ h', Heap.ExtBut it s.heap h' → Q none { s with heap := h' }) : wpAny (model prog w) A (pyNext (.ref it)) Q E s := by
  obtain ⟨o, ho, hc, hd⟩ := id hit
  unfold pyNext
  refine wpAny_bind (wpAny_attempt (wpAny_callSpecial?_slot (name := Str.ofString "__next__") hit.typeIs F.slot_str_iterator_next
    (wpAny_call_entry F.slot_str_iterator_next hit.typeIs F.entry_str_iterator_next ?_ (F.args_str_iterator_next_1 _))))
  show wpAny _ _ (field (.ref it) 0 >>= _) _ _ s
  refine wpAny_bind (wpAny_field ho hd (x := .str x t) rfl ?_)
  show wpAny _ _ (field (.ref it) 1 >>= _) _ _ s
  refine wpAny_bind (wpAny_field ho hd (x := .int i 0) rfl ?_)
  simp only [Int.toNat_natCast, hx]
  refine wpAny_bind (wpAny_rule (wpAny_bind (wpAny_setField ho hd (by simp) (wpAny_bind (wpAny_letGo ?_)))))
  obtain ⟨hh, C⟩ := hot
  refine stop_hot (x1 := x1) (by refine ⟨hh, ?_⟩; exact (chn_iter hit C).both fun b o vs e _ n => ⟨(Heap.get?_update_other _ _ (Ne.symm n.2)).trans e, trivial⟩) (fun h' e hk he => ?_)
  obtain ⟨oe, hoe, hce⟩ := he
  refine wpAny_bind (wpAny_isInstance (T := "StopIteration") (b := true) ⟨oe, hoe, hce⟩ isSubtype_stop ?_)
  refine wpAny_pure (hQ _ fun b o' nb e => hk _ _ ?_)
  exact (Heap.get?_update_other _ _ (Ne.symm nb)).trans e
end
/-! ### walks that end while an exception is handled -/
structure TurnK (P : Program) (w : World) (K : PySem.W.Frag) (tg : Expr) (J : It) (fp : List Addr) (it : Addr) (tn : Nat → Heap → Prop) : Prop where
  mem : it ∈ fp
  obj : ∀ i h, tn i h → ∀ b ∈ fp, ∃ o, h.get? b = some o ∧ ∀ v, o.data ≠ .cell v
  keep : ∀ i h h', tn i h → (∀ b ∈ fp, ∀ o, h.get? b = some o → h'.get? b = some o) → tn i h'
  item : ∀ (X : Cx), X.prog = P → X.w = w → X.K = K → ∀ (i : Nat) (pins : List (Addr × Obj)) (s : Shared) (σ : L2.St) (H : Hp) (E : Value → Shared → Prop), Inv X pins σ H s → (∀ b ∈ fp, FpOk X pins H b) → tn i s.heap → J.go i H →
    wpAny (model P w) X.A (pyNext (.ref it)) (fun r s1 => ∃ u, r = some u ∧
      wpAny (model P w) X.A (letOwnedTupleGo tg (.ref it) u) (fun _ s2 => ∃ x H', Inv X pins σ H' s2 ∧ RelV x u ∧ J.yld i H x H' ∧ tn (i + 1) s2.heap ∧ ∀ b ∈ fp, H' b = none) E s1) E s
  done : ∀ (X : Cx), X.prog = P → X.w = w → X.K = K → ∀ (i : Nat) (pins : List (Addr × Obj)) (s : Shared) (σ : L2.St) (H : Hp) (E : Value → Shared → Prop), (∃ x1, HotL X.A x1 s.heap) → Inv X pins σ H s → (∀ b ∈ fp, FpOk X pins H b) → tn i s.heap → J.stop i H →
    wpAny (model P w) X.A (pyNext (.ref it)) (fun r s1 => r = none ∧ Inv X pins σ H s1) E s
  self : ∀ (A : Around) (i : Nat) (s : Shared) (Q : Value → Shared → Prop) (E : Value → Shared → Prop), tn i s.heap → Q (.ref it) s → wpAny (model P w) A (pyIter (.ref it)) Q E s
theorem turn_strK {P : Program} {w : World} {K : PySem.W.Frag} {tg : Expr} (it : Addr) (x : Str) (t : Tok) (ty : String) (hty : ty = "str_ascii_iterator" ∨ ty = "str_iterator") :
    TurnK P w K tg (Its x) [it] it (fun i h => h.IsStrIter it ty x t i) where
  mem := by simp
  obj := fun i h st b hb => by
    have e : b = it := by simpa using hb
    subst e
    obtain ⟨o, e, c, d⟩ := st
    exact ⟨o, e, fun v z => by rw [d] at z; cases z⟩
  keep := fun i h h' st k => let ⟨o, ho, r⟩ := st; ⟨o, k it (by simp) o ho, r⟩
  item := by
    intro X hP hw hK i pins s σ H E I hf st hg
    subst hP hw hK
    obtain ⟨f0, f1, f2, f3, f4, f5⟩ := hf it (by simp)
    have hlt : i < x.cps.size := hg
    have hx : x.cps[i]? = some x.cps[i] := Array.getElem?_eq_getElem hlt
    have hno : ["enumerate", "zip", "dict_itemiterator", "dict_reverseitemiterator", "odict_iterator", "itertools.zip_longest", "itertools.pairwise"].contains ty = false := by
      rcases hty with e | e
      · rw [e]; decide
      · rw [e]; decide
    have fin : ∀ h', h'.IsStrIter it ty x t (i + 1) → Heap.SameBut it s.heap h' → ∃ u, some (Value.str ⟨#[x.cps[i]]⟩ s.toks) = some u ∧
        wpAny (model X.prog X.w) X.A (letOwnedTupleGo tg (.ref it) u) (fun _ s2 => ∃ y H', Inv X pins σ H' s2 ∧ RelV y u ∧ (Its x).yld i H y H' ∧ s2.heap.IsStrIter it ty x t (i + 1) ∧ ∀ b ∈ [it], H' b = none) E { s with heap := h', toks := s.toks + 1 } := fun h' st' sb => by
      have I1 : Inv X pins σ H { s with heap := h', toks := s.toks + 1 } := I.turned (fun b o hb e => (sb.2 b hb).trans e) f0 f1 f3 f4 f5
      obtain ⟨oi, e, cc, dd⟩ := id st'
      exact ⟨_, rfl, go_of (s := { s with heap := h', toks := s.toks + 1 }) e cc dd hno ⟨.str ⟨#[x.cps[i]]⟩, H, I1, ⟨s.toks, rfl⟩, ⟨rfl, _, hx, rfl⟩, st', fun b hb => (hf b hb).1⟩⟩
    rcases hty with e | e
    · subst e
      exact wpAny_pyNext_ascii_item st hx fun h' st' sb => fin h' st' sb
    · subst e
      exact wpAny_pyNext_wide_item st hx fun h' st' sb => fin h' st' sb
  done := by
    intro X hP hw hK i pins s σ H E hot I hf st hg
    subst hP hw hK
    obtain ⟨f0, f1, f2, f3, f4, f5⟩ := hf it (by simp)
    obtain ⟨x1, hot⟩ := hot
    have hx : x.cps[i]? = none := Array.getElem?_eq_none hg
    rcases hty with e | e
    · rw [e] at st
      exact ascii_end_hot hot st hx fun h' eb => ⟨rfl, I.turned (t' := s.toks) (fun b o hb e => eb b o hb e) f0 f1 f3 f4 f5⟩
    · rw [e] at st
      exact wide_end_hot hot st hx fun h' eb => ⟨rfl, I.turned (t' := s.toks) (fun b o hb e => eb b o hb e) f0 f1 f3 f4 f5⟩
  self := fun A i s Q E st h => by
    rcases hty with e | e
    · rw [e] at st; exact wpAny_pyIter_striter_ascii st h
    · rw [e] at st; exact wpAny_pyIter_striter_wide st h
def PIEK (X : Cx) (pins : List (Addr × Obj)) (σ : L2.St) (tg : Expr) (R : It → Hp → Prop) (itv : Value) (s2 : Shared) : Prop :=
  ∃ (it : Addr) (fp : List Addr) (tn : Nat → Heap → Prop) (J : It) (H' : Hp), itv = .ref it ∧ Inv X pins σ H' s2 ∧ TurnK X.prog X.w X.K tg J fp it tn ∧ tn 0 s2.heap ∧ (∀ b ∈ fp, FpOk X pins H' b) ∧ R J H'
structure PIK (X : Cx) (tg iter : Expr) (wi : TI) : Prop where
  run : ∀ (pins : List (Addr × Obj)) (s : Shared) (σ : L2.St) (H : Hp) (R : It → Hp → Prop), Inv X pins σ H s → wi σ H R →
    wpAny (model X.prog X.w) X.A (eval iter X.env) (fun v s1 => wpAny (model X.prog X.w) X.A (pyIter v) (PIEK X pins σ tg R) X.xe s1) X.xe s
theorem pi_oneK {X : Cx} {tg : Expr} {pins : List (Addr × Obj)} {σ : L2.St} {H : Hp} {s : Shared} {R : It → Hp → Prop} {J : It} {tn : Nat → Heap → Prop} {tk : Nat} (I : Inv X pins σ H s) (o : Obj)
    (T : TurnK X.prog X.w X.K tg J [s.heap.objs.size] s.heap.objs.size tn) (st : tn 0 (s.heap.push o)) (q : R J H) : PIEK X pins σ tg R (.ref s.heap.objs.size) { s with heap := s.heap.push o, toks := tk } := by
  refine ⟨s.heap.objs.size, [s.heap.objs.size], tn, J, H, rfl, I.kept fun b ob e => Heap.get?_push_of_some _ e, T, st, fun b hb => ?_, q⟩
  have e : b = s.heap.objs.size := by simpa using hb
  subst e
  exact I.fpOk (Nat.le_refl _) (I.hok.fresh (Nat.le_refl _))
theorem pi_strK {X : Cx} {tg e : Expr} {te : TE} (he : PE X e te) : PIK X tg e (iStr te) := by
  refine ⟨fun pins s σ H R I h => ?_⟩
  refine thn (he.run pins s σ H _ I h) fun v s1 ⟨y, H1, I1, r1, x, ex, q⟩ => ?_
  subst ex
  obtain ⟨t, rfl⟩ := r1
  cases ha : x.cps.all (· < 128)
  · exact wpAny_pyIter_wide ha (pi_oneK (tk := s1.toks) I1 _ (turn_strK _ x t "str_iterator" (.inr rfl)) ⟨_, Heap.get?_push_size _ rfl, rfl, rfl⟩ q)
  · exact wpAny_pyIter_ascii ha (pi_oneK (tk := s1.toks) I1 _ (turn_strK _ x t "str_ascii_iterator" (.inl rfl)) ⟨_, Heap.get?_push_size _ rfl, rfl, rfl⟩ q)
section
variable {X : Cx}
/-- as the library's lc_core, the walk's end while an exception is handled -/
theorem lc_coreK {pins : List (Addr × Obj)} {s : Shared} {σ : L2.St} {H : Hp} {Q : VK} {elt tg iter : Expr} {ifs : List Expr} {scope : Scope} {own : List (Str × Nat)} {pos pos' : Pos} {wi : TI} {g : TG} {tt : TT} {te : TE} {use : Option (Value → Sem Unit)} {Qf : Value → Shared → Prop}
    (hc : HotD X) (hN : X.N.Nodup) (I : Inv X pins σ H s) (hi : PIK X tg iter wi) (ok : BlkOk X.N X.env.scope scope own)
    (hg : ∀ (s : Shared) (H : Hp) (C : Addr) (cl : List (Str × Addr)) (fp : List Addr), PG (X.blk s H scope (compEnvC scope cl C X.env) fp) tg g) (ht : ∀ (s : Shared) (H : Hp) (C : Addr) (cl : List (Str × Addr)) (fp : List Addr), PTs (X.blk s H scope (compEnvC scope cl C X.env) fp) ifs tt)
    (he : ∀ (s : Shared) (H : Hp) (C : Addr) (cl : List (Str × Addr)) (fp : List Addr), PE (X.blk s H scope (compEnvC scope cl C X.env) fp) elt te) (hs : ∀ x, foldedSetIterable iter X.env x = pure x)
    (h : tLc wi g tt te (own.map (·.2)) σ H Q)
    (hRR : ∀ D C s' m H', Inv X pins σ H' s' → Q (.ref D) H' → s'.heap.Ns C m → FpOk X pins H' C → compPost (model X.prog X.w) X.A X.xe use Qf (.ref D) C (.ok .next) s') :
    wpAny (model X.prog X.w) X.A (comprehension (.ListComp elt [⟨tg, iter, ifs, 0⟩] scope pos) scope X.env pos' (newList []) false (eval iter X.env) use) Qf X.xe s := by
  have hfree : ∀ y ∈ scope.names, y.2 = .free → ∃ c, X.env.cells.lookup y.1 = some c := fun y hy e => by
    rcases ok.free y hy e with k | k
    · exact I.ok.has _ (.inl k)
    · exact I.ok.has _ (.inr k)
  refine wpAny_comprehension_free (use := use) rfl hs (closure_ok hfree) ok.kind (fun y hy e => by rw [ok.uniq y hy, e])
    (thn (hi.run pins s σ H _ I h) fun xv s1 hx => thn hx fun itv s2 h2 => ?_)
  obtain ⟨it, fp, tn, J, H2, e, I2, T, st2, f2, q⟩ := h2
  subst e
  refine wpAny_newObj_type (newEnv_comp ?_) (by show 0 ≤ sizeLine; decide)
  generalize hD : s2.heap.objs.size = D
  have hDn : H2 D = none := I2.hok.fresh (Nat.le_of_eq hD)
  obtain ⟨W, ⟨m0, w0⟩, turn⟩ := q D hDn
  generalize hs3 : ({ s2 with heap := s2.heap.push { cls := .type "list", data := .seq ([] : List Value).toArray } } : Shared) = s3
  have I3 : Inv X pins σ (upd H2 D (.lst [])) s3 := by
    rw [← hs3]
    refine I2.laid (t' := s2.toks) (fun b o e => Heap.get?_push_of_some _ e) (Nat.le_of_eq hD) ⟨Nat.zero_le _, [], 0, .nil, ?_⟩
    rw [← hD]
    exact Heap.get?_push_size _ rfl
  have h3 : s3.heap = s2.heap.push { cls := .type "list", data := .seq ([] : List Value).toArray } := by rw [← hs3]
  have sz : ∀ b ∈ fp, b < s2.heap.objs.size := fun b hb => by
    obtain ⟨o, e, _⟩ := T.obj _ _ st2 b hb
    exact Heap.lt_size e
  have f3 : ∀ b ∈ fp, FpOk X pins (upd H2 D (.lst [])) b ∧ b < s3.heap.objs.size := fun b hb => by
    have hlt := sz b hb
    refine ⟨⟨?_, (f2 b hb).2⟩, by rw [h3, Heap.size_push]; exact Nat.lt_succ_of_lt hlt⟩
    rw [upd_ne (by rw [← hD]; exact Nat.ne_of_lt hlt)]
    exact (f2 b hb).1
  have st3 : tn 0 s3.heap := T.keep _ _ _ st2 fun b _ o e => by rw [h3]; exact Heap.get?_push_of_some _ e
  have I4 := block_start I3 ok hN f3
  have pg := hg s3 (upd H2 D (.lst [])) s3.heap.objs.size (cellsFrom (s3.heap.objs.size + 1) scope.names (cloFrom X.env.cells scope.names [])) fp
  have pt := ht s3 (upd H2 D (.lst [])) s3.heap.objs.size (cellsFrom (s3.heap.objs.size + 1) scope.names (cloFrom X.env.cells scope.names [])) fp
  have pe := he s3 (upd H2 D (.lst [])) s3.heap.objs.size (cellsFrom (s3.heap.objs.size + 1) scope.names (cloFrom X.env.cells scope.names [])) fp
  show codeAny _ _ (.compStart (.ListComp elt [⟨tg, iter, ifs, 0⟩] scope pos) 0 (.ref it) (.ref D) (compEnvC scope (cellsFrom (s3.heap.objs.size + 1) scope.names (cloFrom X.env.cells scope.names [])) s3.heap.objs.size X.env)) (compPost (model X.prog X.w) X.A X.xe use Qf (.ref D) s3.heap.objs.size) { s3 with heap := pushCells (s3.heap.push { cls := .type "dict", data := .dict #[] }) scope.names }
  have nfp : ∀ b ∈ fp, (upd H2 D (.lst [])) b = none := fun b hb => (f3 b hb).1.1
  generalize hce : compEnvC scope (cellsFrom (s3.heap.objs.size + 1) scope.names (cloFrom X.env.cells scope.names [])) s3.heap.objs.size X.env = ce at I4 pg pt pe ⊢
  have cL : ce.locals = s3.heap.objs.size := by subst hce; rfl
  generalize hH3 : upd H2 D (.lst []) = H3 at I3 I4 pg pt pe w0 nfp f3
  generalize hs4 : ({ s3 with heap := pushCells (s3.heap.push { cls := .type "dict", data := .dict #[] }) scope.names } : Shared) = s4 at I4 ⊢
  have st4 : tn 0 s4.heap := T.keep _ _ _ st3 fun b _ o e => by rw [← hs4]; exact pushCells_keeps _ _ _ _ (Heap.get?_push_of_some _ e)
  have stat : ∀ {σ' : L2.St} {H' : Hp} {s' : Shared}, Inv (X.blk s3 H3 scope ce fp) [] σ' H' s' → (∀ b ∈ fp, H' b = none) → ∀ b ∈ fp, FpOk (X.blk s3 H3 scope ce fp) [] H' b := fun {σ' H' s'} I' hn b hb =>
    ⟨hn b hb, (I'.ok.exf b hb).1, I'.ok.exfs b hb, .inl hb, fun x c e => (I'.ok.exf b hb).2 x c e, fun p hp => absurd (show p ∈ ([] : List (Addr × Obj)) ++ [] from hp) (by simp)⟩
  have loop : codeAny (model X.prog X.w) X.A (.compLoop (.ListComp elt [⟨tg, iter, ifs, 0⟩] scope pos) 0 (.ref it) (.ref D) ce) (compPost (model X.prog X.w) X.A X.xe use Qf (.ref D) s3.heap.objs.size) s4 := by
    refine compLoop_any (fun n s' => ∃ i H', Inv (X.blk s3 H3 scope ce fp) [] (wipe σ (own.map (·.2))) H' s' ∧ tn i s'.heap ∧ (∀ b ∈ fp, H' b = none) ∧ W i n H') ?_ m0 ⟨0, H3, I4, st4, nfp, w0⟩
    rintro n s5 ⟨i, H5, I5, st5, n5, w5⟩
    have out : ∀ {σ' : L2.St} {H' : Hp} {s' : Shared}, Inv (X.blk s3 H3 scope ce fp) [] σ' H' s' → Inv X pins σ H' s' := fun {σ' H' s'} I' =>
      I3.call' (ch := fp) I'.os I'.base I'.hok I'.bare fun b hb => ⟨(f3 b hb).1.2.2.2.1, (f3 b hb).1.2.1, (f3 b hb).1.2.2.2.2.1, (f3 b hb).1.2.2.2.2.2⟩
    rcases turn i n H5 w5 with ⟨stop, qq⟩ | ⟨go, Nx, hNx, step⟩
    · have td := T.done (X.blk s3 H3 scope ce fp) rfl rfl rfl i [] s5 _ H5 (fun _ _ => False) (let ⟨x1, h1, h2⟩ := hc.at (out I5); ⟨x1, h1, h2.imp fun _ _ _ _ => trivial⟩) I5 (stat I5 n5) st5 stop
      refine thnF td fun r s6 ⟨hr, I6⟩ => ?_
      subst hr
      have I7 : Inv X pins σ H5 s6 := out I6
      have nC : H5 s3.heap.objs.size = none := by
        have z : H5 ce.locals = none := I6.free
        rw [cL] at z
        exact z
      obtain ⟨m, hn, _⟩ := I6.loc
      have hn : s6.heap.Ns ce.locals m := hn
      rw [cL] at hn
      exact hRR D s3.heap.objs.size s6 m H5 I7 qq hn (I3.fpOk (Nat.le_refl _) nC)
    · have ti := T.item (X.blk s3 H3 scope ce fp) rfl rfl rfl i [] s5 _ H5 (fun _ _ => False) I5 (stat I5 n5) st5 go
      refine thnF ti fun r s6 ⟨u, hr, h6⟩ => ?_
      subst hr
      refine thnF h6 fun _ s7 ⟨x, H7, I7, r7, y7, st7, n7⟩ => ?_
      have I7' := I7.pinned (stat I7 n7) (T.obj _ _ st7)
      refine thnF (pg.run _ s7 _ H7 x u _ I7' r7 (step x H7 y7)) fun _ s8 ⟨σ8, H8, I8, hw8, q8⟩ => ?_
      refine thnF (pt.run _ s8 σ8 H8 _ I8 q8) fun b s9 ⟨H9, I9, q9⟩ => ?_
      have fin : ∀ {s' : Shared} {H' : Hp}, Inv (X.blk s3 H3 scope ce fp) ([] ++ pinsAt fp s7.heap) σ8 H' s' → Nx H' → ∃ m, m < n ∧ ∃ i H', Inv (X.blk s3 H3 scope ce fp) [] (wipe σ (own.map (·.2))) H' s' ∧ tn i s'.heap ∧ (∀ b ∈ fp, H' b = none) ∧ W i m H' := fun {s' H'} I' nx => by
        obtain ⟨m', hm, w'⟩ := hNx H' nx
        have pin' : ∀ b ∈ fp, ∀ o, s7.heap.get? b = some o → s'.heap.get? b = some o ∧ H' b = none := fun b hb o e =>
          let z := I'.pin (b, o) (List.mem_append_right _ (List.mem_append_right _ (mem_pinsAt hb e)))
          ⟨z.1, z.2.1⟩
        have hl : (wipe σ (own.map (·.2))).length = σ8.length := by rw [← hw8, wipe_length]
        refine ⟨m', hm, i + 1, H', (I'.unpinned (pins := [])).weak hl (fun j v e => ?_), T.keep _ _ _ st7 fun b hb o e => (pin' b hb o e).1, fun b hb => ?_, w'⟩
        · rw [← hw8] at e
          exact (wipe_some e).1
        · obtain ⟨o, e, _⟩ := T.obj _ _ st7 b hb
          exact (pin' b hb o e).2
      cases b with
      | false =>
        simp only [Bool.false_eq_true, if_false] at q9 ⊢
        exact fin I9 q9
      | true =>
        simp only [if_true] at q9 ⊢
        refine thnF (pe.run _ s9 σ8 H9 _ I9 q9) fun z s10 ⟨yv, H10, I10, r10, acc, hD10, hz10, nx⟩ => ?_
        exact app_ok (X := X.blk s3 H3 scope ce fp) I10 hD10 hz10 r10 fun s11 I11 => fin I11 nx
  exact codeAny_compStart_list loop (T.self X.A 0 _ _ _ st4 loop)
/-- as a value, while an exception is handled -/
theorem pe_lcK {elt tg iter : Expr} {ifs : List Expr} {scope : Scope} {own : List (Str × Nat)} {pos : Pos} {wi : TI} {g : TG} {tt : TT} {te : TE} (hc : HotD X) (hN : X.N.Nodup) (hi : PIK X tg iter wi) (ok : BlkOk X.N X.env.scope scope own)
    (hg : ∀ (s : Shared) (H : Hp) (C : Addr) (cl : List (Str × Addr)) (fp : List Addr), PG (X.blk s H scope (compEnvC scope cl C X.env) fp) tg g) (ht : ∀ (s : Shared) (H : Hp) (C : Addr) (cl : List (Str × Addr)) (fp : List Addr), PTs (X.blk s H scope (compEnvC scope cl C X.env) fp) ifs tt)
    (he : ∀ (s : Shared) (H : Hp) (C : Addr) (cl : List (Str × Addr)) (fp : List Addr), PE (X.blk s H scope (compEnvC scope cl C X.env) fp) elt te) (hs : ∀ x, foldedSetIterable iter X.env x = pure x := by intro _; rfl) :
    PE X (.ListComp elt [⟨tg, iter, ifs, 0⟩] scope pos) (tLc wi g tt te (own.map (·.2))) := by
  refine ⟨fun pins s σ H Q I h => ?_⟩
  rw [eval_ListComp]
  refine lc_coreK hc hN I hi ok hg ht he hs h fun D C s' m H' I' q hn f => ⟨m, hn, fun h'' sb => ?_⟩
  obtain ⟨f0, f1, f2, f3, f4, f5⟩ := f
  exact ⟨.ref D, H', I'.turned (t' := s'.toks) (fun b o hb e => (sb.2 b hb).trans e) f0 f1 f3 f4 f5, rfl, q⟩
end
end Bw

/-! except suites in which an iteration may end, defs that are called there -/
namespace Bw
open PySem PySem.Spec PyProof.Rows L2 L2H HotX
inductive HdsC (X : Cx) : List ExceptHandler → List (List Value × Nat × (Addr → Value → Option Addr → TS)) → Prop
  | nil : HdsC X [] []
  | cons {te : Expr} {cs : List Value} {n : Str} {i : Nat} {ts : Addr → Value → Option Addr → TS} {b₀ : Stmt} {suite : List Stmt} {pos' : Pos} {hds : List ExceptHandler} {l : List (List Value × Nat × (Addr → Value → Option Addr → TS))} (hc : ClsE X te cs)
      (hi : X.N[i]? = some n) (hln : X.env.kindOf n = some .local)
      (hsu : ∀ (a : Addr) (oe : Obj) (cls : Value) (d : Option Addr) (pn : List (Addr × Obj)), Zc cls d oe → (∃ vs, oe.data = .fields vs) → HotD (X.suite a ((a, oe) :: pn)) → PSs (X.suite a ((a, oe) :: pn)) (b₀ :: suite) (ts a cls d)) (r : HdsC X hds l) :
      HdsC X (.ExceptHandler (some te) (some n) (b₀ :: suite) pos' :: hds) ((cs, i, ts) :: l)
section
variable {X : Cx} {body : List Stmt} {h₀ : ExceptHandler} {hds : List ExceptHandler} {l : List (List Value × Nat × (Addr → Value → Option Addr → TS))} {pos : Pos} {tb : WX → TS} {Wout : WX}
theorem ps_try_mac (hs : X.stack = X.env :: X.outer) (hf : X.env.frame = some X.env.locals) (hN : X.N.Nodup) (tk : TakesC X Wout) (hsz : ∀ x ∈ l, x.1.length ≤ 1000)
    (hb : ∀ (W : WX) (pn : List (Addr × Obj)) (xe : Value → Shared → Prop), TakesC (X.tr pn xe) W → PassesOwn (model X.prog X.w) X.A X.env xe → PSs (X.tr pn xe) body (tb W))
    (hh : HdsC X (h₀ :: hds) l) : PS X (.Try body (h₀ :: hds) [] [] pos) (fun D σ H => tb (wMas X.K Wout D l) D σ H) := by
  refine ⟨fun pins s σ H D I h => ?_⟩
  have ok := I.ok
  have hfr : X.A.frames = some (X.env :: X.outer) := by rw [ok.frames, hs]
  refine wpAny_Try_except ?_
  refine wpAny_mono ((hb (wMas X.K Wout D l) (X.pn ++ pins) (fun e s₁ => wpAny (model X.prog X.w) X.A (noteFrame e X.env) (fun _ s₂ => wpAny (model X.prog X.w) X.A (setFlight e none) (fun _ s₃ =>
    wpAny (model X.prog X.w) X.A (handleBy e X.env (h₀ :: hds)) (SP X pins D) X.xe s₃) X.xe s₂) X.xe s₁) (fun u s' xx => ?_) PassesOwn.looking).run [] s σ H D (I.toTry _) h) (fun f s1 hsp => ?_) (fun e s1 he => he)
  · -- the catch
    obtain ⟨a, B, sI, pins', σ', H', cls, d, rfl, J', nb, up, sky, na, os, ag, w⟩ := xx
    have J : Inv X pins σ' H' sI := J'.ofTry ok
    have sky' : Sky B (X.env :: X.outer) a (Zb B H' cls d) X.env.locals s'.heap := by rw [← hs]; exact sky
    show wpAny (model X.prog X.w) X.A (noteFrame (.ref a) X.env) _ _ _
    refine L2N.Sky.land Zb.steady hfr hf sky' fun h3 fl3 up3 => ?_
    have notFr : ∀ {h : Heap} {o : Obj} {vs : Array Value}, h.FunFrames B (X.env :: X.outer) → h.get? a = some o → o.data = .fields vs → a ∉ frs (X.env :: X.outer) := fun {h o vs} ff e dd hm => by
      obtain ⟨_, o', e', hnf⟩ := ff.mem hm
      rw [e] at e'; cases e'
      exact hnf _ dd
    have nfr : a ∉ frs (X.env :: X.outer) := by
      obtain ⟨oe3, vs3, he3, hz3, hd3⟩ := fl3.there
      exact notFr fl3.2.2.1 he3 hd3
    have nL : a ≠ X.env.locals := fun z => nfr (List.mem_filterMap.mpr ⟨X.env, List.mem_cons_self, by rw [hf, z]⟩)
    have nF : a ∉ X.fs := fun hm => by
      obtain ⟨e, he, q⟩ := List.mem_filterMap.mp hm
      exact nfr (List.mem_filterMap.mpr ⟨e, List.mem_cons_of_mem _ he, q⟩)
    have go : ∀ {hds' : List ExceptHandler} {l' : List (List Value × Nat × (Addr → Value → Option Addr → TS))}, HdsC X hds' l' → (∀ x ∈ l', x.1.length ≤ 1000) → wMas X.K Wout D l' cls d σ' H' → ∀ h3, HandSPX.FlyingZ B (X.env :: X.outer) a (Zb B H' cls d) h3 → sI.heap.UpToSlots h3 →
        wpAny (model X.prog X.w) X.A (handleBy (.ref a) X.env hds') (SP X pins D) X.xe { s' with heap := h3 } := by
      intro hds' l' hk
      induction hk with
      | nil =>
        intro _ w h3 fl3 up3
        refine wpAny_handleBy_nil ?_
        obtain ⟨k1, k2, k3, oe, vs, T, oT, ts', he, hz, hd, h1, hr⟩ := id fl3
        unfold PySem.passOn
        refine wpAny_bind (wpAny_field he hd h1 ?_)
        rw [if_neg (show ¬ ((Value.ref T == Value.none) = true) from by simp)]
        have fin : wpAny (model X.prog X.w) X.A (setFlight (.ref a) X.env.frame) (fun _ s4 => wpAny (model X.prog X.w) X.A (throw (.ref a) : Sem Flow) (SP X pins D) X.xe s4) X.xe { s' with heap := h3 } := by
          rw [hf]
          refine HandSPX.setFlight_upZ fl3 fun h4 hh4 up4 => wpAny_throw (tk _ _ ?_)
          exact ⟨a, B, sI, pins, σ', H', cls, d, rfl, J, nb, up3.trans up4, .inr (.inr (by rw [hs]; exact hh4)), na, os, ag, w⟩
        first
          | exact wpAny_bind (wpAny_pure (wpAny_bind fin))
          | exact wpAny_bind fin
      | @cons te cs n i ts b₀ suite pos' hds2 l2 hc hi hln hsu r ih =>
        intro hz0 w h3 fl3 up3
        obtain ⟨b, hb1, hyes, hno⟩ := w
        have J3 : Inv X pins σ' H' { s' with heap := h3 } := J.landed nb fl3.1 up3 os ag
        obtain ⟨oe3, vs3, he3, hz3, hd3⟩ := fl3.there
        have S3 := J3.suite he3 hd3 na nL nF
        refine wpAny_handleBy_cons (codeAny_handlers_test ?_) (by intro q; cases q)
        -- the classes, then the match, in a heap that is kept
        have test : ∀ {R : Bool → Shared → Prop} {E : Value → Shared → Prop}, (∀ h4, (∀ b o, h3.get? b = some o → h4.get? b = some o) → R b { s' with heap := h4 }) →
            wpAny (model X.prog X.w) (X.A.mark (some (.ref a))) (eval te X.env) (fun c s₁ => wpAny (model X.prog X.w) (X.A.mark (some (.ref a))) (excMatches (.ref a) c) R E s₁) E { s' with heap := h3 } := fun {R E} q => by
          cases hc with
          | one hn =>
            rename_i x c np
            have LT : PySem.W.Looks (model X.prog X.w) h3 (typeOf (.ref a)) cls := fun A Q E s k q => wpAny_typeOf_ref (k _ _ he3) (by rw [hz3.1]; exact q)
            obtain ⟨b1, d1, h1, h2, eb⟩ := PySem.W.exmAny_cons hb1
            have w2 : some false = some d1 := h2
            cases w2
            rw [Bool.or_false] at eb
            subst eb
            have LM := PySem.W.exm_one (M := model X.prog X.w) (J3.kIn) LT h1
            obtain ⟨hg, hdbg, hm | ⟨hm, hv, hnn⟩⟩ := hn
            · exact ld_glob (X := X.suite a ((a, oe3) :: (X.pn ++ pins))) S3 hg hm (LM.here (q h3 fun _ _ z => z)) hdbg
            · exact ld_blt (X := X.suite a ((a, oe3) :: (X.pn ++ pins))) S3 hg hm hv (LM.here (q h3 fun _ _ z => z)) hnn hdbg
          | tup hn =>
            rename_i es kk np
            refine wpAny_Tuple_spliced (eval_names (Y := X.suite a ((a, oe3) :: (X.pn ++ pins))) S3 _ hn.suite ⟨?_, ?_⟩)
            · exact Nat.le_trans (hz0 _ List.mem_cons_self) (by decide)
            · have kp : ∀ b o, h3.get? b = some o → (h3.push { cls := .type "tuple", data := .seq cs.toArray }).get? b = some o := fun b o e => Heap.get?_push_of_some _ e
              have LT : PySem.W.Looks (model X.prog X.w) (h3.push { cls := .type "tuple", data := .seq cs.toArray }) (typeOf (.ref a)) cls := fun A Q E s k q => wpAny_typeOf_ref (k _ _ (kp _ _ he3)) (by rw [hz3.1]; exact q)
              have LM := PySem.W.exm_tupN (M := model X.prog X.w) (J3.kIn.keeps kp) LT (Heap.get?_push_size _ rfl) hb1
              exact LM.here (q _ kp)
        refine test fun h4 kp => ?_
        have fl4 := flying_kept fl3 kp
        have up4 : sI.heap.UpToSlots h4 := up3.trans (.of_keeps kp)
        cases b with
        | true =>
          refine codeAny_handlers_suite_as ?_
          refine HandSPX.lands_againZ fl4 fun h5 fl5 up5 => ?_
          have J5 : Inv X pins σ' H' { s' with heap := h5 } := J.landed nb fl5.1 (up4.trans up5) os ag
          obtain ⟨oe5, vs5, he5, hz5, hd5⟩ := fl5.there
          obtain ⟨c5, hc5, C5⟩ := hz5.2.2 vs5 hd5
          obtain ⟨pl, hpl, Cpl⟩ := (C5.keeps fl5.1).pins
          have J5' : Inv X (pins ++ pl) σ' H' { s' with heap := h5 } := J5.pins_of fun p hp => (List.mem_append.mp hp).elim (fun z => J5.pin p (List.mem_append_right _ z)) fun z => by
            obtain ⟨g1, g2, vq, g3⟩ := hpl p z
            have nfq : p.1 ∉ frs (X.env :: X.outer) := fun hm => by
              obtain ⟨_, o', e', hnf⟩ := fl5.2.2.1.mem hm
              rw [g1] at e'; cases e'
              exact hnf _ g3
            refine ⟨g1, g2, fun y => nfq (List.mem_filterMap.mpr ⟨X.env, List.mem_cons_self, by rw [hf, y]⟩), fun hm => ?_, fun v y => by rw [g3] at y; cases y⟩
            obtain ⟨e, he, q⟩ := List.mem_filterMap.mp hm
            exact nfq (List.mem_filterMap.mpr ⟨e, List.mem_cons_of_mem _ he, q⟩)
          have S5 := J5'.suite he5 hd5 na nL nF
          have hot : HotD (X.suite a ((a, oe5) :: (X.pn ++ (pins ++ pl)))) := ⟨(a, oe5), List.mem_cons_self, rfl, .ref (q := (a, oe5)) List.mem_cons_self hd5 hc5 (Cpl.mono fun q hq => List.mem_cons_of_mem _ (List.mem_append_right _ (List.mem_append_right _ hq)))⟩
          refine store_ok (X := X.suite a ((a, oe5) :: (X.pn ++ (pins ++ pl)))) (v := .ref a) S5 hN hi (.inl hln) rfl (fun s6 S6 => ?_) (.inr hln)
          refine wpAny_mono ((hsu a oe5 cls d (X.pn ++ (pins ++ pl)) hz5.zc ⟨_, hd5⟩ hot).run [] s6 _ H' _ S6 (hyes rfl a na)) (fun f s6 hsp => ?_) (fun _ _ z => False.elim z)
          have end_ : ∀ {σ6 : L2.St} {H6 : Hp} {Q : Shared → Prop}, Inv (X.suite a ((a, oe5) :: (X.pn ++ (pins ++ pl)))) [] σ6 H6 s6 → (∀ s7, Inv X pins (σ6.set i none) H6 s7 → Q s7) →
              wpAny (model X.prog X.w) X.A (do bindName X.env n .none; unbindBehindTheSuite X.env n pos') (fun _ s7 => Q s7) X.xe s6 := fun {σ6 H6 Q} S6 hq => gone_ok (Inv.unpinned (S6.unsuite ok)) hN hi hln hq
          cases f with
          | next =>
            obtain ⟨σ6, H6, S6, q6⟩ := hsp
            exact end_ S6 fun s7 J7 => ⟨_, _, J7, q6⟩
          | brk =>
            obtain ⟨σ6, H6, S6, q6⟩ := hsp
            exact end_ S6 fun s7 J7 => ⟨_, _, J7, q6⟩
          | cont =>
            obtain ⟨σ6, H6, S6, q6⟩ := hsp
            exact end_ S6 fun s7 J7 => ⟨_, _, J7, q6⟩
          | ret u =>
            obtain ⟨v6, σ6, H6, S6, r6, q6⟩ := hsp
            exact end_ S6 fun s7 J7 => ⟨_, _, _, J7, r6, q6⟩
        | false =>
          show wpAny _ X.A (handleBy (.ref a) X.env hds2) _ _ _
          exact ih (fun x hx => hz0 x (List.mem_cons_of_mem _ hx)) (hno rfl) h4 fl4 up4
    exact go hh hsz w h3 fl3 (up.trans up3)
  · cases f with
    | next =>
      obtain ⟨σ', H', J', q⟩ := hsp
      exact wpAny_execs_nil ⟨σ', H', J'.ofTry ok, q⟩
    | brk =>
      obtain ⟨σ', H', J', q⟩ := hsp
      exact ⟨σ', H', J'.ofTry ok, q⟩
    | cont =>
      obtain ⟨σ', H', J', q⟩ := hsp
      exact ⟨σ', H', J'.ofTry ok, q⟩
    | ret u =>
      obtain ⟨v, σ', H', J', r, q⟩ := hsp
      exact ⟨v, σ', H', J'.ofTry ok, r, q⟩
end
/-! ### defs that are called with the caught exception -/
def cxL (CX : CXT) (P : Program) (w : World) (K : PySem.W.Frag) (mg : Str → Option Value) (base : Heap) (N : List Str) (qual : Str) (scope : Scope) (f : Addr) (cd : Value) (A : Around) (outer : List Env) (s : Shared) (H : Hp) (E : XK) (pl : List (Addr × Obj)) : Cx :=
  { cxOf CX P w K mg base N qual scope f cd A outer s H E with calm := false, pn := pl }
theorem inv_startL {CX : CXT} {P : Program} {w : World} {K : PySem.W.Frag} {mg : Str → Option Value} {base : Heap} {N ps : List Str} {qual : Str} {scope : Scope} {f : Addr} {cd : Value} {A : Around} {outer : List Env} {s s1 : Shared} {H : Hp} {E : XK} {us : List Value} {vs : List V}
    (S : FnScope N ps scope) {pl : List (Addr × Obj)} (hpin : ∀ p ∈ pl, PinOk outer H s p) (e0 : Env0 P w K mg base A outer s H) (hl : vs.length = ps.length) (r : Vals vs us)
    (x : InCallC s s.heap.objs.size (bindL (envOfC qual scope s.heap.objs.size f cd).kindOf (ps.zip us) fun _ => none) (cellsFrom (s.heap.objs.size + 1) scope.names []) (bindC (envOfC qual scope s.heap.objs.size f cd).kindOf (ps.zip us) fun _ => none) s1) :
    Inv (cxL CX P w K mg base N qual scope f cd A outer s H E pl) [] (L2.start N vs) H s1 := by
  have hpl : ps.length ≤ N.length := by have := congrArg List.length S.pre; rw [List.length_take] at this; omega
  obtain ⟨h1, tk, rfl, hk⟩ := x.done
  have noA : ∀ b : Addr, b ∉ (cxL CX P w K mg base N qual scope f cd A outer s H E pl).ex := fun b z => absurd (show b ∈ ([] : List Addr) from z) (by simp)
  refine ⟨⟨e0.mod, S.kind, rfl, rfl, Nat.le_refl _, fun y z c h1 h2 => ?_, fun y hy => ?_, fun y c _ h => ?_, (fun z => Bool.noConfusion (show false = true from z)), Around.frames_deeper e0.frames, .inr ⟨rfl, rfl⟩, fun b z => absurd z (noA b), e0.bs, e0.bsz, fun b _ _ => noA b, fun b z => absurd z (noA b), e0.funs, e0.frf⟩,
    rfl, e0.bare, Un.kept hk, ⟨_, x.toInCall.ns, fun i y v h1 h2 h3 => ?_⟩, fun y c h => ⟨_, x.cell y c h⟩, e0.hok.fresh (Nat.le_refl _), fun y c h => ?_, fun q hq => ?_, e0.hok.kept hk, ?_⟩
  · exact name_of_addr x.apart (PySem.mem_of_lookup h1) (PySem.mem_of_lookup h2)
  · have hy : scope.names.lookup y = some .cell ∨ scope.names.lookup y = some .free := hy
    rcases hy with hy | hy
    · exact cell_has hy
    · exact absurd rfl (S.nofree _ (PySem.mem_of_lookup hy))
  · exact Nat.le_of_lt (x.above y c (PySem.mem_of_lookup h))
  · have hi : i < vs.length := by
      unfold L2.start at h2
      by_cases hi : i < vs.length
      · exact hi
      · rw [List.getElem?_append_right (by simpa using hi)] at h2
        rw [List.getElem?_replicate] at h2
        split at h2 <;> cases h2
    have ha : vs[i]? = some v := by
      unfold L2.start at h2
      rw [List.getElem?_append_left (by simpa using hi), List.getElem?_map] at h2
      cases e : vs[i]? with
      | none => rw [e] at h2; cases h2
      | some a => rw [e] at h2; cases h2; rfl
    obtain ⟨u, hu, rv⟩ := r.get ha
    have hp : ps[i]? = some y := by
      rw [← S.pre, List.getElem?_take_of_lt (by omega)]; exact h1
    have ndP : ps.Nodup := by rw [← S.pre]; exact S.nd.sublist (List.take_sublist _ _)
    refine ⟨u, rv, ?_⟩
    rcases S.par y (List.mem_of_getElem? hp) with k | k
    · exact .inl ⟨k, bindL_get ndP hp hu k⟩
    · obtain ⟨c, e⟩ := cell_has (n := s.heap.objs.size + 1) k
      refine .inr ⟨.inl k, c, e, ?_⟩
      have q := x.cell y c e
      rw [bindC_get ndP hp hu (by show scope.names.lookup y ≠ _; rw [k]; decide)] at q
      exact q
  · exact e0.hok.fresh (Nat.le_of_lt (x.above y c (PySem.mem_of_lookup h)))
  · have hq' : q ∈ pl := by simpa using (show q ∈ pl ++ ([] : List (Addr × Obj)) from hq)
    have z := hpin q hq'
    exact ⟨hk q.1 q.2 z.get, z.free, Nat.ne_of_lt (Heap.lt_size z.get), z.nofs, z.nocell⟩
  · unfold L2.start
    show _ = N.length
    rw [List.length_append, List.length_map, List.length_replicate]
    omega
structure FnQ0 (P : Program) (w : World) (K : PySem.W.Frag) (mg : Str → Option Value) (base : Heap) (k : Nat) (f : Addr) (fd : FuncData) (ps : List Str) (sp : SpP) : Prop where
  len : ∀ p vs H Q, sp p vs H Q → vs.length = ps.length
  run : ∀ (A : Around) (outer : List Env) (s : Shared) (H : Hp) (args : Args) (us : List Value) (vs : List V) (Q : VK) (p : Addr × Obj) (pl : List (Addr × Obj)), L2H.RoomH k A → HotP A pl p → (∀ q ∈ pl, L2H.PinOk outer H s q) → Env0 P w K mg base A outer s H → BindsTo s fd args (ps.zip us) → Vals vs us → sp p vs H Q →
    codeAny (model P w) A (.call (.ref f) args) (CR CX0 outer P w H s Q E0) s
theorem Fun_okQ {P : Program} {w : World} {K : PySem.W.Frag} {mg : Str → Option Value} {base : Heap} {x qual : Str} {st : Stmt} {f : Addr} {fd : FuncData} {N ps : List Str} {k : Nat} {sp : SpP} (F : Fun K x qual st f fd) (S : FnScope N ps (defScope st)) (len : ∀ p vs H Q, sp p vs H Q → vs.length = ps.length)
    (hbody : ∀ (cdv : Value) (A : Around) (outer : List Env) (s : Shared) (H : Hp) (vs : List V) (Q : VK) (p : Addr × Obj) (pl : List (Addr × Obj)), HotP A pl p → L2H.RoomH k (A.deeper (envOfC qual (defScope st) s.heap.objs.size f cdv)) → sp p vs H Q →
      ∃ t, PSs (cxL CX0 P w K mg base N qual (defScope st) f cdv A outer s H E0 pl).nox (defBody st) t ∧ t { nx := fun _ H' => Q .non H', rt := Q } (L2.start N vs) H) : FnQ0 P w K mg base (k + 1) f fd ps sp := by
  obtain ⟨oc, od, kV, doc, pm, an, cdv, ct, osl, rfl, lk, hcd⟩ := F.ex
  refine ⟨len, fun A outer s H args us vs Q p pl hr hot hpin e0 hb r hsp => ?_⟩
  have hl := len _ _ _ _ hsp
  have KX : K.In s.heap := e0.mod.kin.keeps fun b o e => (e0.bs b o e).1
  refine codeAny_call_function hr.depth (KX _ _ lk) rfl S.co S.gen rfl (PySem.W.codeRec_of KX hcd) (hb _ _ _ _ ?_)
  have hkind : ∀ y ∈ ps.zip us, (defScope st).names.lookup y.1 = some .local ∨ ((defScope st).names.lookup y.1 = some .cell ∧ ((cellsFrom (s.heap.objs.size + 1) (defScope st).names []).lookup y.1).isSome = true) := by
    intro y hy
    obtain ⟨n, v⟩ := y
    exact (S.par n (List.of_mem_zip hy).1).imp id fun q => ⟨q, PySem.W.cellsFrom_some _ _ _ (.inl q)⟩
  refine wpAny_newFunctionEnv_cells S.kind hkind fun env he s1 x => ?_
  subst he
  refine ⟨(e0.mod.nolimit.keeps fun b o e => (e0.bs b o e).1).keeps x.toInCall.keep, codeAny_func ?_⟩
  obtain ⟨t, ht, hq⟩ := hbody cdv A outer s H vs Q p pl hot (hr.deeper _) hsp
  refine wpAny_mono (ht.nox.run [] s1 (L2.start N vs) H _ (inv_startL S hpin e0 hl r x) hq) (fun fl s' hs => ?_) fun e s' hs => hs
  have fin : ∀ {σ' : L2.St} {H' : Hp} {v : V} {u : Value}, Inv (cxL CX0 P w K mg base N qual (defScope st) f cdv A outer s H E0 pl) [] σ' H' s' → RelV v u → Q v H' → CE outer P w H s Q u s' :=
    fun {σ' H' v u} J rv q => ⟨v, H', J.os, J.bare, J.base, J.hok, rv, q⟩
  match fl, hs with
  | .ret u, ⟨v, σ', H', J, rv, q⟩ => exact fin J rv q
  | .next, ⟨σ', H', J, q⟩ => exact fin (v := V.non) (u := Value.none) J rfl q
  | .brk, ⟨_, _, _, q⟩ => exact q.elim
  | .cont, ⟨_, _, _, q⟩ => exact q.elim
structure FnQ (P : Program) (w : World) (K : PySem.W.Frag) (mg : Str → Option Value) (base : Heap) (x : Str) (k : Nat) (ps : List Str) (sp : SpP) : Prop where
  ex : ∃ (f : Addr) (fd : FuncData), FnQ0 P w K mg base k f fd ps sp ∧ mg x = some (.ref f) ∧ PySem.W.keepIn K (.ref f) = true ∧ Binds K fd ps []
theorem pe_fq {X : Cx} {x : Str} {k : Nat} {ps : List Str} {sp : SpP} {e : Expr} {es : List Expr} {t : TA} {q pos : Pos} {a : Addr} {oe : Obj} {cls : Value} {d : Option Addr} (F : FnQ X.prog X.w X.K X.mg X.base x k ps sp) (hp : (a, oe) ∈ X.pn) (hz : Zc cls d oe) (hf : ∃ vs, oe.data = .fields vs) (hot : HotD X) (hh : X.A.handled = some (.ref a)) (hr : L2H.RoomH k X.A) (hg : Gl X x) (ha : PA X (e :: es) t)
    (hdb : (x == ("__debug__" : Str)) = false := by decide) (he : starEach (e :: es) X.env = (false, eval e X.env) :: starEach es X.env := by rfl) (hpl : (backTo pos (starEach es X.env)).any (·.1) = false := by rfl) :
    PE X (.Call (.Name x q) (e :: es) [] pos) (tCallP sp a cls d t) := by
  obtain ⟨f, fd, G, hm, hk, hb⟩ := F.ex
  refine ⟨fun pins s σ H Q I h => ?_⟩
  refine wpAny_Call_Name_kw (ld_glob I hg hm ?_ hdb)
  refine PySem.W.callWith_K (h₀ := X.base) I.ok.mod.kin hk (thn (ha.run pos pins s σ H _ I h) fun us s1 ⟨vs, H1, I1, r, q⟩ => ⟨I1.kIn, ?_⟩) he hpl
  have q := q oe hz hf
  have hl : us.length = ps.length := by rw [← r.length]; exact G.len _ _ _ _ q
  have b := hb s1 us I1.kIn (by rw [List.append_nil]; exact hl)
  rw [List.append_nil] at b
  have hpin : ∀ p ∈ X.pn, L2H.PinOk X.stack H1 s1 p := fun p hp => by
    have P1 := I1.pin p (List.mem_append_left _ hp)
    exact ⟨P1.1, P1.2.1, fun hm => (List.mem_cons.mp (I1.stkSub p.1 hm)).elim P1.2.2.1 P1.2.2.2.1, P1.2.2.2.2⟩
  have hot' : HotP X.A X.pn (a, oe) := by
    obtain ⟨p', m1, m2, m3⟩ := hot
    have e1 : p'.1 = a := by
      rw [hh] at m2
      cases m2
      rfl
    refine ⟨hp, hh, ?_⟩
    rw [e1] at m3
    exact m3
  show wpAny _ _ (call (.ref f) us) _ _ _
  refine wpAny_call (codeAny_mono (G.run X.A X.stack s1 H1 ⟨us, []⟩ us vs Q (a, oe) X.pn hr hot' hpin I1.env0 b r q) fun r s' hq => ?_)
  match r, hq with
  | .error e, hq => exact False.elim hq
  | .ok (.ret u), hq => exact I1.after hq
  | .ok .next, hq => exact False.elim hq
  | .ok .brk, hq => exact False.elim hq
  | .ok .cont, hq => exact False.elim hq
theorem hotD_of {CX : CXT} {P : Program} {w : World} {K : PySem.W.Frag} {mg : Str → Option Value} {base : Heap} {N : List Str} {qual : Str} {scope : Scope} {f : Addr} {cd : Value} {A : Around} {outer : List Env} {s : Shared} {H : Hp} {E : XK} {pl : List (Addr × Obj)} {p : Addr × Obj} (h : HotP A pl p) :
    HotD (cxL CX P w K mg base N qual scope f cd A outer s H E pl).nox := ⟨p, h.mem, h.hd, h.ch⟩
end Bw

/-! lambdas whose exceptions bear a chain that ends -/
namespace Bw
open PySem PySem.Spec PyProof.Rows L2 LamX
section
variable {X : Cx} {pins : List (Addr × Obj)} {σ : L2.St} {H HZ : Hp} {s s1 : Shared}
/-- the context of the lambda's body, entered at s from the frames outer -/
def lamCxC (X : Cx) (A : Around) (outer : List Env) (s : Shared) (H : Hp) (E : XK) (scope : Scope) (f c' : Addr) : Cx where
  prog := X.prog
  w := X.w
  K := X.K
  mg := X.mg
  base := X.base
  A := A.deeper (lamEnv X scope s.heap.objs.size f c')
  N := X.N
  s_0 := s
  H_0 := H
  env := lamEnv X scope s.heap.objs.size f c'
  outer := outer
  stack := lamEnv X scope s.heap.objs.size f c' :: outer
  ex := []
  fn := fun _ => false
  calm := true
  pn := []
  xe := fun e s' => wpAny (model X.prog X.w) (A.deeper (lamEnv X scope s.heap.objs.size f c')) (leaving (lamEnv X scope s.heap.objs.size f c') e) (fun _ s'' => CXc X.prog X.w outer H s E e s'') (fun e' s'' => CXc X.prog X.w outer H s E e' s'') s'
theorem lam_startC {A : Around} {outer : List Env} {E : XK} {scope : Scope} {f c' : Addr} {h₁ : Heap} {tk : Nat} (I : Inv X pins σ H s) (L : LamS X.env.scope scope) (e0 : Env0 X.prog X.w X.K X.mg X.base A outer s1 HZ) (hd : A.handled = none)
    (un : Un (frs X.stack) [] H HZ s.heap s1.heap) (hns : h₁.Ns s1.heap.objs.size fun y => ([] : List (Str × Value)).reverse.lookup y) (kp : ∀ b o, s1.heap.get? b = some o → h₁.get? b = some o) :
    Inv (lamCxC X A outer s1 HZ E scope f c') [] σ HZ { s1 with heap := h₁, toks := tk } := by
  have hfree := L.has I.ok
  have cm : ∀ {y c}, (cloFrom X.env.cells scope.names []).lookup y = some c → X.env.cells.lookup y = some c := fun {y c} e => by
    rcases cloFrom_mem (PySem.mem_of_lookup e) with hm | ⟨h1, h2⟩
    · cases hm
    · obtain ⟨c1, hc⟩ := hfree _ h1 rfl
      have hc : X.env.cells.lookup y = some c1 := hc
      have e2 : c = c1 := by
        rw [h2, hc] <;> rfl
      rw [e2]
      exact hc
  have look : ∀ {y}, scope.names.lookup y = some .free → ∃ c, (cloFrom X.env.cells scope.names []).lookup y = some c := fun {y} hl => by
    have hy : (y, NameKind.free) ∈ scope.names := PySem.mem_of_lookup hl
    exact mem_lookup (cloFrom_has (cells := X.env.cells) (acc := []) hy)
  have cellK : ∀ {c : Addr} {v : Option Value}, H c = none → s.heap.IsCell c v → h₁.IsCell c v := fun {c v} n ⟨o, ho, hd⟩ => by
    obtain ⟨sl, q⟩ := un.any ho n (by simp)
    exact ⟨_, kp _ _ q, hd⟩
  have noA : ∀ b : Addr, b ∉ (lamCxC X A outer s1 HZ E scope f c').ex := fun b z => absurd (show b ∈ ([] : List Addr) from z) (by simp)
  refine ⟨⟨e0.mod, L.kind, rfl, rfl, Nat.le_refl _, fun y z c e1 e2 => I.ok.inj y z c (cm e1) (cm e2), fun y hy => ?_, fun y c z _ => ?_, fun _ => hd, Around.frames_deeper e0.frames, .inr ⟨rfl, rfl⟩, fun b z => absurd z (noA b), e0.bs, e0.bsz, fun b _ _ => noA b,
      fun b z => absurd z (noA b), e0.funs, e0.frf⟩,
    rfl, e0.bare, Un.kept kp, ⟨_, hns, fun i y v e1 e2 e3 => ?_⟩, fun y c e => ?_, e0.hok.fresh (Nat.le_refl _), fun y c e => ?_, fun q hq => absurd (show q ∈ ([] : List (Addr × Obj)) ++ [] from hq) (by simp), e0.hok.kept kp, I.len⟩
  · have hy : scope.names.lookup y = some .cell ∨ scope.names.lookup y = some .free := hy
    rcases hy with hy | hy
    · exact absurd rfl (L.own _ (PySem.mem_of_lookup hy)).2
    · exact look hy
  · have z : false = true := z
    cases z
  · have e3 : Vis scope y := e3
    rcases e3 with k | k | k
    · exact absurd rfl (L.own _ (PySem.mem_of_lookup k)).1
    · exact absurd rfl (L.own _ (PySem.mem_of_lookup k)).2
    · obtain ⟨m, hn, hl⟩ := I.loc
      have hvis : Vis X.env.scope y := (L.free _ (PySem.mem_of_lookup k) rfl).elim (fun k => .inr (.inl k)) (fun k => .inr (.inr k))
      obtain ⟨w', r, q⟩ := hl i y v e1 e2 hvis
      obtain ⟨c2, h2⟩ := look k
      refine ⟨w', r, .inr ⟨.inr k, c2, h2, ?_⟩⟩
      have c1 := cm h2
      rcases q with ⟨k', _⟩ | ⟨_, c3, e', z⟩
      · have k' : X.env.scope.names.lookup y = some .local := k'
        rcases L.free _ (PySem.mem_of_lookup k) rfl with k2 | k2 <;> rw [show X.env.scope.names.lookup y = _ from k2] at k' <;> cases k'
      · rw [c1] at e'
        cases e'
        exact cellK (I.freeC y _ c1) z
  · obtain ⟨w', z⟩ := I.cell y c (cm e)
    exact ⟨w', cellK (I.freeC y c (cm e)) z⟩
  · obtain ⟨v, o, ho, hd⟩ := I.cell y c (cm e)
    exact un.free c o ho (I.freeC y c (cm e)) (by simp)
/-- x(), in the def that got the lambda: Z is that def's context, entered at s -/
theorem pe_actC {CXg : CXT} {Eg : XK} {Ng : List Str} {qg : Str} {sg : Scope} {g f c' : Addr} {cdg pm ctv : Value} {params : Arguments} {body : Expr} {scope : Scope} {k i : Nat} {a : Str} {pn : List (Addr × Obj)} {xe : Value → Shared → Prop} {W : WX} {E : XK} {tb : TE} {p1 p2 : Pos}
    (I : Inv X pins σ H s) (L : LamS X.env.scope scope) (hf : s.heap.get? f = some (PySem.W.kla_obj "<lambda>" (X.env.qual ++ "<lambda>") params body scope (cloFrom X.env.cells scope.names []) pm c' ctv)) (hfn : H f = none) (hfr : f ∉ frs X.stack)
    (hbind : bindArgs (PySem.W.kla_fn "<lambda>" (X.env.qual ++ "<lambda>") params body scope (cloFrom X.env.cells scope.names []) pm (.ref c') ctv) ⟨[], []⟩ = pure [])
    (tk : TakesC ((cxOf CXg X.prog X.w X.K X.mg X.base Ng qg sg g cdg X.A X.stack s H Eg).tr pn xe) W) (hW : ∀ cls d σ' H', E cls d H' → W cls d σ' H') (hr : Room (k + 1) (X.A.deeper (envOfC qg sg s.heap.objs.size g cdg)))
    (hbody : ∀ (A : Around) (outer : List Env) (s : Shared) (H : Hp), Room k (A.deeper (lamEnv X scope s.heap.objs.size f c')) → PE (lamCxC X A outer s H E scope f c') body tb)
    (hN : Ng[i]? = some a) (hv : Vis sg a) (hd : (a == ("__debug__" : Str)) = false := by decide) (hcd : (a == ("__classdict__" : Str)) = false := by decide) :
    PE ((cxOf CXg X.prog X.w X.K X.mg X.base Ng qg sg g cdg X.A X.stack s H Eg).tr pn xe) (.Call (.Name a p1) [] [] p2)
      (fun σZ HZ Q => σZ[i]? = some (some (.ref f)) ∧ HZ c' = some (CodeO c' (X.env.qual ++ "<lambda>")) ∧ tb σ HZ Q) := by
  refine ⟨fun pinsZ sZ σZ HZ Q IZ h => ?_⟩
  obtain ⟨hs, hc, ht⟩ := h
  refine wpAny_Call_Name_kw (thn ((pe_var (pos := p1) (i := i) hN hv hd hcd).run pinsZ sZ σZ HZ (fun v H1 => v = .ref f ∧ H1 = HZ) IZ ⟨.ref f, hs, rfl, rfl⟩) fun u s1 ⟨v, H1, I1, r1, q1⟩ => ?_)
  obtain ⟨ev, eH⟩ := q1
  subst ev
  rw [eH] at I1
  obtain rfl : u = Value.ref f := r1
  have of1 : s1.heap.get? f = some (PySem.W.kla_obj "<lambda>" (X.env.qual ++ "<lambda>") params body scope (cloFrom X.env.cells scope.names []) pm c' ctv) := I1.base.keep f _ hf hfn hfr (fun z => nomatch (show f ∈ ([] : List Addr) from z))
  refine PySem.W.callWith_F0 ⟨_, _, _, _, of1⟩ ?_
  have un : Un (frs X.stack) [] H HZ s.heap s1.heap := I1.base
  obtain ⟨⟨oc, vs, t, hoc, hdc, hvc⟩, _, _⟩ := I1.hok c' _ hc
  have rc : codeAny (model X.prog X.w) (X.A.deeper (envOfC qg sg s.heap.objs.size g cdg)) (.call (.ref f) ⟨[], []⟩) (CR (CXc X.prog X.w) (envOfC qg sg s.heap.objs.size g cdg :: X.stack) X.prog X.w HZ s1 Q E) s1 := by
    refine PySem.W.kla_callFunE hr.depth of1 rfl L.co L.gen rfl ⟨c', oc, vs, t, rfl, hoc, hdc, hvc⟩ ?_
    rw [hbind]
    refine wpAny_pure (wpAny_newFunctionEnv (fun y hy => (L.own y hy).2) (fun y hy => absurd hy (by simp)) (fun h₁ hns hsb => ⟨I1.nolimit.fresh _ hsb, ?_⟩) L.kind)
    show codeAny _ _ (.expr body (lamEnv X scope s1.heap.objs.size f c')) _ _
    have kp : ∀ b o, s1.heap.get? b = some o → h₁.get? b = some o := fun b o e => hsb.extBut b o (Nat.ne_of_lt (Heap.lt_size e)) (Heap.get?_push_of_some _ e)
    have J : Inv (lamCxC X (X.A.deeper (envOfC qg sg s.heap.objs.size g cdg)) (envOfC qg sg s.heap.objs.size g cdg :: X.stack) s1 HZ E scope f c') [] σ HZ { s1 with heap := h₁, toks := s1.toks + ([] : List (Str × Value)).length } :=
      lam_startC I L I1.env0 hr.hd un hns kp
    refine PySem.W.kla_codeExpr (wpAny_mono ((hbody _ _ s1 HZ (hr.deeper _)).run [] _ _ HZ Q J ht) (fun v s' hq => ?_) fun e s' hq => hq)
    obtain ⟨w', H', J', rv, q⟩ := hq
    exact ⟨w', H', J'.os, J'.bare, J'.base, J'.hok, rv, q⟩
  have hx : Passes (CXc X.prog X.w) ((cxOf CXg X.prog X.w X.K X.mg X.base Ng qg sg g cdg X.A X.stack s H Eg).tr pn xe) E := passesC_call tk hW
  refine wpAny_call (codeAny_mono rc fun r s' hq => ?_)
  cases r with
  | error e => exact hx pinsZ σZ HZ s1 e s' I1 hq
  | ok fl =>
    cases fl with
    | ret u => exact I1.after hq
    | next => exact False.elim hq
    | brk => exact False.elim hq
    | cont => exact False.elim hq
end
/-- the def that calls what it got: a calls it; TT: what it makes of the lambda's reading -/
def GivesC (X : Cx) (Ng : List Str) (x : Str) (sg : Scope) (g : Addr) (cdg : Value) (bg : List Stmt) (a : Str) (q : Str) (TT : (XK → Hp → VK → Prop) → Hp → VK → Prop) : Prop :=
  ∀ (f c' : Addr) (s : Shared) (H : Hp) (Q : VK) (tl : XK → Hp → VK → Prop),
    (∀ (W : WX) (pn : List (Addr × Obj)) (xe : Value → Shared → Prop) (E : XK) (p1 p2 : Pos), TakesC ((cxOf C8.CX0 X.prog X.w X.K X.mg X.base Ng x sg g cdg X.A X.stack s H C8.E0).tr pn xe) W → (∀ cls d σ' H', E cls d H' → W cls d σ' H') →
      PE ((cxOf C8.CX0 X.prog X.w X.K X.mg X.base Ng x sg g cdg X.A X.stack s H C8.E0).tr pn xe) (.Call (.Name a p1) [] [] p2) (fun σZ HZ Q => σZ[0]? = some (some (.ref f)) ∧ HZ c' = some (CodeO c' q) ∧ tl E HZ Q)) →
    H c' = some (CodeO c' q) → TT tl H Q →
    ∃ t, PSs (cxOf C8.CX0 X.prog X.w X.K X.mg X.base Ng x sg g cdg X.A X.stack s H C8.E0).nox bg t ∧ t { nx := fun _ H' => Q .non H', rt := Q } (L2.start Ng [.ref f]) H
section
variable {X : Cx}
/-- x(lambda: body) -/
theorem pe_lamcallC {T : List (Addr × Str)} {TT : (XK → Hp → VK → Prop) → Hp → VK → Prop} {x a : Str} {g c P : Addr} {k : Nat} {pg : Arguments} {bg : List Stmt} {sg : Scope} {dV kV doc pm cdv ct oc : Value} {an od : Option Addr} {osl : Array (Option Value)} {Ng : List Str}
    {params : Arguments} {body : Expr} {scope : Scope} {t : XK → TE} {p lpos pos : Pos} (hg : Gl X x) (hm : X.mg x = some (.ref g)) (hk : PySem.W.keepIn X.K (.ref g) = true)
    (lk : X.K.lookup g = some ⟨oc, od, .func (PySem.W.fnOf x x pg bg sg dV kV doc pm an cdv ct), osl⟩) (hcg : PySem.W.codeIn X.K cdv x = true) (hb : L2.Binds X.K (PySem.W.fnOf x x pg bg sg dV kV doc pm an cdv ct) [a] []) (Sg : FnScope Ng [a] sg) (hNg : Ng[0]? = some a) (hva : Vis sg a)
    (hG : GivesC X Ng x sg g cdv bg a (X.env.qual ++ "<lambda>") TT)
    (TB : TabB X.base X.mg c P) (hcode : X.env.code = .ref c) (hmT : (P, X.env.qual ++ "<lambda>") ∈ T) (hu : ∀ p ∈ T, p.1 = P → p.2 = X.env.qual ++ "<lambda>") (hr : Room (k + 2) X.A) (L : LamS X.env.scope scope) (hdef : defaultsOf params X.env = ([], []))
    (hbind : ∀ (q : Str) (cl : List (Str × Addr)) (pm cv ctv : Value), bindArgs (PySem.W.kla_fn "<lambda>" q params body scope cl pm cv ctv) ⟨[], []⟩ = pure [])
    (hbody : ∀ (A : Around) (outer : List Env) (s : Shared) (H : Hp) (E : XK) (f c' : Addr), Room k (A.deeper (lamEnv X scope s.heap.objs.size f c')) → PE (lamCxC X A outer s H E scope f c') body (t E))
    (hdb : (x == ("__debug__" : Str)) = false := by decide) (hd : (a == ("__debug__" : Str)) = false := by decide) (hcd : (a == ("__classdict__" : Str)) = false := by decide) :
    PE X (.Call (.Name x p) [.Lambda params body scope lpos] [] pos) (tLam T TT t) := by
  refine ⟨fun pins s σ H Q I h => ?_⟩
  obtain ⟨hT, h⟩ := h
  refine wpAny_Call_Name_kw (ld_glob I hg hm ?_ hdb)
  refine PySem.W.callWith_K (h₀ := X.base) I.ok.mod.kin hk ?_ (by rfl) (by rfl)
  show wpAny _ _ (spliced ((false, eval (.Lambda params body scope lpos) X.env) :: backTo pos (starEach [] X.env))) _ _ s
  refine Calls.spliced_cons (lam_make2 I TB hcode hmT hu hT hdef (L.has I.ok) fun f c' pm' ctv H1 s' I1 eN T1 hf hfn hfr hco => ?_)
  refine Calls.spliced_nil ⟨I1.kIn, ?_⟩
  have rc : codeAny (model X.prog X.w) X.A (.call (.ref g) ⟨[.ref f], []⟩) (CR C8.CX0 X.stack X.prog X.w H1 s' Q C8.E0) s' := by
    refine run_ofS (N := Ng) (ps := [a]) (us := [.ref f]) (vs := [.ref f]) lk hcg Sg hr I1.env0 (hb s' [.ref f] I1.kIn rfl) (.cons rfl .nil) rfl fun hr' => ?_
    obtain ⟨t', ht', hq'⟩ := hG f c' s' H1 Q (fun E H' Q' => t E σ H' Q') (fun W pn xe E p1 p2 tk hW => pe_actC (i := 0) I1 L hf hfn hfr (hbind _ _ _ _ _) tk hW hr' (fun A outer s H hr2 => hbody A outer s H E f c' hr2) hNg hva hd hcd) hco (h H1 eN T1)
    exact ⟨t', ht'.nox, hq'⟩
  refine wpAny_call (codeAny_mono rc fun r s2 hq => ?_)
  cases r with
  | error e => exact (show False from hq).elim
  | ok fl =>
    cases fl with
    | ret u => exact I1.after hq
    | next => exact False.elim hq
    | brk => exact False.elim hq
    | cont => exact False.elim hq
end
section
variable {P : Program} {w : World} {K : PySem.W.Frag} {mg : Str → Option Value} {base : Heap}
/-- the def x is handed a lambda without parameters, and calls it -/
structure AsksC (P : Program) (w : World) (K : PySem.W.Frag) (mg : Str → Option Value) (base : Heap) (x a : Str) (N : List Str) (st : Stmt) (k : Nat) (TT : (XK → Hp → VK → Prop) → Hp → VK → Prop) : Prop where
  ex : ∃ (g : Addr) (fd : FuncData), Fun K x x st g fd ∧ mg x = some (.ref g) ∧ Binds K fd [a] []
  sc : FnScope N [a] (defScope st)
  n0 : N[0]? = some a
  va : Vis (defScope st) a
  gives : ∀ X : Cx, X.prog = P → X.w = w → X.K = K → X.mg = mg → X.base = base → Room k X.A → ∀ (g : Addr) (cdg : Value) (q : Str), GivesC X N x (defScope st) g cdg (defBody st) a q TT
end
theorem pe_asksC {X : Cx} {x a : Str} {N : List Str} {st : Stmt} {k j : Nat} {TT : (XK → Hp → VK → Prop) → Hp → VK → Prop} {T : List (Addr × Str)} {c P : Addr} {params : Arguments} {body : Expr} {scope : Scope} {t : XK → TE} {p lpos pos : Pos}
    (A : AsksC X.prog X.w X.K X.mg X.base x a N st k TT) (hg : Gl X x) (TB : TabB X.base X.mg c P) (hcode : X.env.code = .ref c) {ql : Str} (hql : X.env.qual = ql) (hmT : (P, ql ++ "<lambda>") ∈ T) (hu : ∀ p ∈ T, p.1 = P → p.2 = ql ++ "<lambda>") (hr1 : Room k X.A) (hr : Room (j + 2) X.A) (L : lamSB X.env.scope scope = true) (hdef : defaultsOf params X.env = ([], []))
    (hbind : ∀ (q : Str) (cl : List (Str × Addr)) (pm cv ctv : Value), bindArgs (PySem.W.kla_fn "<lambda>" q params body scope cl pm cv ctv) ⟨[], []⟩ = pure [])
    (hbody : ∀ (A : Around) (outer : List Env) (s : Shared) (H : Hp) (E : XK) (f c' : Addr), Room j (A.deeper (lamEnv X scope s.heap.objs.size f c')) → PE (lamCxC X A outer s H E scope f c') body (t E))
    (hdb : (x == ("__debug__" : Str)) = false := by decide) (hd : (a == ("__debug__" : Str)) = false := by decide) (hcd : (a == ("__classdict__" : Str)) = false := by decide) :
    PE X (.Call (.Name x p) [.Lambda params body scope lpos] [] pos) (tLam T TT t) := by
  subst hql
  obtain ⟨g, fd, F, hm, hb⟩ := A.ex
  have kp := F.kp
  obtain ⟨oc, od, kV, doc, pm, an, cdv, ct, osl, rfl, lk, hcd'⟩ := F.ex
  exact pe_lamcallC hg hm kp lk hcd' hb A.sc A.n0 A.va (A.gives X rfl rfl rfl rfl rfl hr1 g cdv _) TB hcode hmT hu hr (lamS_by L) hdef hbind hbody hdb hd hcd
theorem takesLamC {X : Cx} {A : Around} {outer : List Env} {s : Shared} {H : Hp} {E : XK} {scope : Scope} {f c' : Addr} : TakesC (lamCxC X A outer s H E scope f c') (fun cls d _ H => E cls d H) := takesC_of rfl rfl rfl rfl
end Bw

/-! defs that raise, their exceptions with chains that end -/
namespace Bw
open PySem PySem.Spec PyProof.Rows L2
/-! ### defs that may raise, as their callers want them -/
structure FnY (P : Program) (w : World) (K : PySem.W.Frag) (mg : Str → Option Value) (base : Heap) (x : Str) (k : Nat) (ps : List Str) (sp : Sp) : Prop where
  ex : ∃ (f : Addr) (fd : FuncData), FnOk P w K mg base (CXc P w) k f fd ps sp ∧ mg x = some (.ref f) ∧ PySem.W.keepIn K (.ref f) = true ∧ Binds K fd ps []
structure MeY (P : Program) (w : World) (K : PySem.W.Frag) (mg : Str → Option Value) (base : Heap) (C : Addr) (m : Str) (k : Nat) (ps : List Str) (sp : Sp) : Prop where
  ex : ∃ (f : Addr) (fd : FuncData), FnOk P w K mg base (CXc P w) k f fd ps sp ∧ Meth K C m f ∧ Binds K fd ps []
structure MkrY (P : Program) (w : World) (K : PySem.W.Frag) (mg : Str → Option Value) (base : Heap) (x : Str) (C : Addr) (k : Nat) (ps : List Str) (dvs : List V) (sp : Sp) : Prop where
  ex : ∃ (f : Addr) (fd : FuncData) (ds : List Value), Mk K C f ∧ FnOk P w K mg base (CXc P w) k f fd ps sp ∧ mg x = some (.ref C) ∧ Binds K fd ps ds ∧ Vals dvs ds
section
variable {X : Cx}
/-- what a callee lets out is let out -/
abbrev LetsC (X : Cx) (E : XK) : Prop := Passes (CXc X.prog X.w) X E
theorem pe_fy {E : XK} {x : Str} {k : Nat} {ps : List Str} {sp : Sp} {e : Expr} {es : List Expr} {t : TA} {p pos : Pos} (F : FnY X.prog X.w X.K X.mg X.base x k ps sp) (hx : LetsC X E) (hr : Room k X.A) (hg : Gl X x) (ha : PA X (e :: es) t)
    (hdb : (x == ("__debug__" : Str)) = false := by decide) (he : starEach (e :: es) X.env = (false, eval e X.env) :: starEach es X.env := by rfl) (hpl : (backTo pos (starEach es X.env)).any (·.1) = false := by rfl) :
    PE X (.Call (.Name x p) (e :: es) [] pos) (tCall sp [] E t) := by
  obtain ⟨f, fd, G, hm, hk, hb⟩ := F.ex
  exact pe_call G hr hg hm hk hb .nil hx ha hdb he hpl
theorem pe_mey {E : XK} {pl : Sem Bool} {C : Addr} {m : Str} {k : Nat} {ps : List Str} {sp : Sp} {o e : Expr} {es : List Expr} {t : TA} {ta : TE} {apos pos : Pos} (he : PE X o ta) (c : Cls X.K C) (M : MeY X.prog X.w X.K X.mg X.base C m k ps sp) (hx : LetsC X E) (hr : Room k X.A) (ha : PA X (e :: es) t)
    (hst : starEach (e :: es) X.env = (false, eval e X.env) :: starEach es X.env := by rfl) (hpl : (backTo pos (starEach es X.env)).any (·.1) = false := by rfl)
    (ht : eval (.Call (.Attribute o m apos) (e :: es) [] pos) X.env = (do
      let ov ← eval o X.env
      standAt apos.atName
      let (f, first) ← holding [ov] (getMethod ov m pl)
      callWith pos f first (backTo pos (starEach (e :: es) X.env)) (backToKw pos (keywordEach [] X.env))) := by rfl) :
    PE X (.Call (.Attribute o m apos) (e :: es) [] pos) (tMeth C m sp [] E ta t) := by
  obtain ⟨f, fd, G, hm, hb⟩ := M.ex
  exact pe_meth he c hm G hr hb .nil hx ha hst hpl ht
theorem pe_mey0 {E : XK} {pl : Sem Bool} {C : Addr} {m : Str} {k : Nat} {ps : List Str} {sp : Sp} {o : Expr} {ta : TE} {apos pos : Pos} (he : PE X o ta) (c : Cls X.K C) (M : MeY X.prog X.w X.K X.mg X.base C m k ps sp) (hx : LetsC X E) (hr : Room k X.A)
    (ht : eval (.Call (.Attribute o m apos) [] [] pos) X.env = (do
      let ov ← eval o X.env
      standAt apos.atName
      let (f, first) ← holding [ov] (getMethod ov m pl)
      callWith pos f first (backTo pos (starEach [] X.env)) (backToKw pos (keywordEach [] X.env))) := by rfl) :
    PE X (.Call (.Attribute o m apos) [] [] pos) (tMeth C m sp [] E ta tNil) := by
  obtain ⟨f, fd, G, hm, hb⟩ := M.ex
  exact pe_meth0 he c hm G hr hb .nil hx ht
theorem pe_mky {E : XK} {x : Str} {C : Addr} {k : Nat} {ps : List Str} {dvs : List V} {sp : Sp} {e : Expr} {es : List Expr} {t : TA} {p pos : Pos} (M : MkrY X.prog X.w X.K X.mg X.base x C k ps dvs sp) (hx : LetsC X E) (hr : Room (k + 1) X.A) (hg : Gl X x) (ha : PA X (e :: es) t)
    (hdb : (x == ("__debug__" : Str)) = false := by decide) (he : starEach (e :: es) X.env = (false, eval e X.env) :: starEach es X.env := by rfl) (hpl : (backTo pos (starEach es X.env)).any (·.1) = false := by rfl) :
    PE X (.Call (.Name x p) (e :: es) [] pos) (tMake C sp dvs E t) := by
  obtain ⟨f, fd, ds, M, G, hm, hb, hd⟩ := M.ex
  exact pe_make M G hr hg hm hb hd hx ha hdb he hpl
theorem lets_ofC {E : XK} (tk : TakesC X (fun cls d _ H => E cls d H)) : LetsC X E := passesC_call tk fun _ _ _ _ h => h
theorem u1H {k : Nat} {A : Around} (r : L2H.RoomH k A) : A.units + 1 < cLine := by have := r.un; omega
theorem letsC0 : LetsC X E0 := fun _ _ _ _ _ _ _ h => by obtain ⟨_, _, _, _, _, _, _, _, _, _, _, _, z⟩ := h; exact z.elim
end
/-- a def's own wish -/
theorem takesY {P : Program} {w : World} {K : PySem.W.Frag} {mg : Str → Option Value} {base : Heap} {N : List Str} {qual : Str} {scope : Scope} {f : Addr} {cdv : Value} {A : Around} {outer : List Env} {s : Shared} {H : Hp} {E : XK} :
    TakesC (cxOf (CXc P w) P w K mg base N qual scope f cdv A outer s H E) (fun cls d _ H => E cls d H) := takesC_of rfl rfl rfl rfl
theorem Fun_okY {P : Program} {w : World} {K : PySem.W.Frag} {mg : Str → Option Value} {base : Heap} {x qual : Str} {st : Stmt} {f : Addr} {fd : FuncData} {N ps : List Str} {k : Nat} {sp : Sp} (F : Fun K x qual st f fd) (S : FnScope N ps (defScope st)) (len : ∀ vs H Q E, sp vs H Q E → vs.length = ps.length)
    (hbody : ∀ (cdv : Value) (A : Around) (outer : List Env) (s : Shared) (H : Hp) (vs : List V) (Q : VK) (E : XK), Room k (A.deeper (envOfC qual (defScope st) s.heap.objs.size f cdv)) → sp vs H Q E →
      ∃ t, PSs (cxOf (CXc P w) P w K mg base N qual (defScope st) f cdv A outer s H E) (defBody st) t ∧ t { nx := fun _ H' => Q .non H', rt := Q } (L2.start N vs) H) : FnOk P w K mg base (CXc P w) (k + 1) f fd ps sp := by
  obtain ⟨oc, od, kV, doc, pm, an, cdv, ct, osl, rfl, lk, hcd⟩ := F.ex
  exact fn_of lk hcd S len fun A outer s H vs Q E hr hsp => hbody cdv A outer s H vs Q E hr hsp
section
variable {X : Cx}
theorem pmk_own0N {C : Addr} {bmB : List Value} {B newId initId : String} {x : Str} {p pos : Pos} (F : ExcBaseFacts B newId initId bmB) (q : PySem.W.excIn X.K C bmB newId = true) (gC : X.mg x = some (.ref C))
    (kC : PySem.W.keepIn X.K (.ref C) = true) (r : Raises X (.ref C)) (hg : Gl X x) (hdb : (x == ("__debug__" : Str)) = false := by decide) : L2N.PMk X (.Call (.Name x p) [] [] pos) (fun _ H Q => Q (.ref C) none H) := by
  intro pins s σ H Q I h
  refine wpAny_Call_Name_kw (ld_glob I hg gC ?_ hdb)
  refine PySem.W.callWith_K0 I.kIn kC ?_
  show wpAny _ _ (call (.ref C) []) _ _ _
  obtain ⟨bm, N, nm, qn, bs, hdct, sn, sub, ab, col, dd, k0, k1, k2, k3, k5, mN, hC, hN, hni, T⟩ := exc_obj I.kIn q
  refine wpAny_call_exc_subT F T hC hN hni (fun h' e hm => ?_) (by show 0 ≤ sizeLine; exact Nat.zero_le _)
  exact L2N.mk_of I hm r h (I.hok.gone hm.new)
theorem pmk_ownVN {C : Addr} {x : Str} {p pos : Pos} (h : XpV X.K C) (gC : X.mg x = some (.ref C)) (hg : Gl X x) (hdb : (x == ("__debug__" : Str)) = false := by decide) : L2N.PMk X (.Call (.Name x p) [] [] pos) (fun _ H Q => Q (.ref C) none H) :=
  pmk_own0N F.excBase_ValueError h.q gC h.kp (raises_own h.h1 h.h2) hg hdb
end
section
variable {X : Cx} {o e : Expr} {es : List Expr} {to te : TE} {ta : TA} {f : Str} {p p' p1 p2 pos : Pos}
theorem mk_endN {pins : List (Addr × Obj)} {σ : L2.St} {H1 H2 : Hp} {Q : XK} {hp hp2 h2 : Heap} {g1 g2 : Array GenState} {d1 d2 : Drawn} {t1 t2 : Nat} {os1 os2 : OsState} {a C d : Addr} {fs : List (Str × V)} (T : Raises X (.ref C)) (I1 : Inv X pins σ H1 ⟨hp, g1, d1, t1, os1⟩)
    (ha : hp.objs.size ≤ a) (k : ∀ b o, hp.get? b = some o → hp2.get? b = some o) (un : Un (frs X.stack) [] (upd H1 a (exo a C none)) H2 hp2 h2) (hok : HOk X.prog X.w H2 h2) (ho : os2 = os1) (hb : AllBare g2)
    (ea : H2 a = some (exo a C (some d))) (ed : H2 d = some (exd d fs)) (hd1 : H1 d = none) (q : Q (.ref C) (some d) (upd (del H2 a) d (.xd fs)))   : L2N.MkP X pins σ Q (.ref a) ⟨h2, g2, d2, t2, os2⟩ := by
  obtain ⟨t0, G, J, kG, ge, hoe, na⟩ := mk_end0 (d2 := d2) (t2 := t2) I1 ha k un hok ho hb ea ed hd1
  exact ⟨a, _, _, ⟨G, g2, d2, t2, os2⟩, _, .ref C, some d, rfl, J, kG, ge, hoe, ⟨rfl, rfl, fun vs e => by cases e; rfl⟩, rfl, rfl, na, rfl, hb, T, q⟩
theorem pmk_oexN {CX : CXT} {x : Str} {C fI : Addr} {k : Nat} {fd : FuncData} {ps : List Str} {sp : Sp} {ds : List Value} {dvs : List V} (T : OexC X.K C) (iC : PySem.W.findIn X.K (.ref C) "__init__" = some (some (.ref fI))) (tI : PySem.W.typeIn X.K (.ref fI) = some (.type "function"))
    (F1 : FnOk X.prog X.w X.K X.mg X.base CX k fI fd ps sp) (hr : Room (k + 1) X.A) (hb : Binds X.K fd ps ds) (hd : Vals dvs ds) (hx : Passes CX X (fun _ _ _ => False)) (hg : Gl X x) (hm : X.mg x = some (.ref C)) (ha : PA X (e :: es) ta)
    (hdb : (x == ("__debug__" : Str)) = false := by decide) (he : starEach (e :: es) X.env = (false, eval e X.env) :: starEach es X.env := by rfl) (hpl : (backTo pos (starEach es X.env)).any (·.1) = false := by rfl) :
    L2N.PMk X (.Call (.Name x p) (e :: es) [] pos) (tMkO C sp dvs ta) := by
  intro pins s σ H Q I h
  obtain ⟨nm, q, N, bs, bm, sn, sub, ab, col, dd, k0, k1, k2, k3, k5, hC, hbm⟩ := T.cls
  refine wpAny_Call_Name_kw (ld_glob I hg hm ?_ hdb)
  refine PySem.W.callWith_K (h₀ := X.base) I.ok.mod.kin T.kC (thn (ha.run pos pins s σ H _ I h) fun us s1 ⟨vs, H1, I1, r1, hz, q1⟩ => ⟨I1.kIn, ?_⟩) he hpl
  show wpAny _ _ (call (.ref C) us) _ _ _
  obtain ⟨hp, g, dr, tk, os⟩ := s1
  have hsz : hp.objs.size ≤ hp.objs.size + 1 := Nat.le_succ _
  have hn : H1 (hp.objs.size + 1) = none := I1.hok.fresh hsz
  have hq := q1 (hp.objs.size + 1) hn
  have kk : ∀ b o, hp.get? b = some o → ((hp.push (PySem.W.kdv_tup us)).push (PySem.HandSPX.excO C hp.objs.size)).get? b = some o := fun b o e => Heap.get?_push_of_some _ (Heap.get?_push_of_some _ e)
  have hget : ((hp.push (PySem.W.kdv_tup us)).push (PySem.HandSPX.excO C hp.objs.size)).get? (hp.objs.size + 1) = some (PySem.HandSPX.excO C hp.objs.size) := by heap_get
  have I2 : Inv X pins σ (upd H1 (hp.objs.size + 1) (exo (hp.objs.size + 1) C none)) ⟨(hp.push (PySem.W.kdv_tup us)).push (PySem.HandSPX.excO C hp.objs.size), g, dr, tk, os⟩ :=
    I1.laid (t' := tk) (a := hp.objs.size + 1) (o := exo (hp.objs.size + 1) C none) (h' := (hp.push (PySem.W.kdv_tup us)).push (PySem.HandSPX.excO C hp.objs.size)) kk hsz (exo_ok hget)
  have r2 : Vals (V.ref (hp.objs.size + 1) :: (vs ++ dvs)) (Value.ref (hp.objs.size + 1) :: (us ++ ds)) := .cons rfl (r1.append hd)
  have hl : (Value.ref (hp.objs.size + 1) :: us ++ ds).length = ps.length := by
    have e := r2.length
    rw [F1.len _ _ _ _ hq] at e
    exact e.symm
  have hus : us.length ≤ sizeLine := by
    rw [← Paired.length r1, sizeLine_eq]
    omega
  refine wpAny_call (PySem.HandSPX.call_own F.excBase_ValueError (fun Y => PySem.HandSPX.refsVE_contains Y bm hbm) (I1.kIn _ _ hC) (PySem.W.looks_findIn I1.kIn iC) (fun self => PySem.W.bind_fn I1.kIn self tI) hus
    (codeAny_mono (F1.run _ X.stack _ _ ⟨Value.ref (hp.objs.size + 1) :: us, []⟩ (Value.ref (hp.objs.size + 1) :: (us ++ ds)) _ _ (fun _ _ _ => False) (hr.make C us []) (I2.env0.make C us []) (hb _ (Value.ref (hp.objs.size + 1) :: us) I2.kIn hl) r2 hq) fun r s' hq' => ?_))
  cases r with
  | error er => exact hx pins σ _ _ er s' I2 hq'
  | ok fl =>
    cases fl with
    | ret u =>
      obtain ⟨v, H2, os2, bare2, un2, hok2, rv, ev, d, fs, ea, ed, hd1, q2⟩ := hq'
      subst ev
      obtain ⟨h2, g2, d2, t2, os'⟩ := s'
      exact ⟨rv, mk_endN (raises_own T.exC T.tyC) I1 hsz kk un2 hok2 os2 bare2 ea ed hd1 q2⟩
    | next => exact False.elim hq'
    | brk => exact False.elim hq'
    | cont => exact False.elim hq'
end
section
variable {X : Cx}
theorem pmk_oex0N {CX : CXT} {x : Str} {C fI : Addr} {k : Nat} {fd : FuncData} {ps : List Str} {sp : Sp} {ds : List Value} {dvs : List V} {p pos : Pos} (T : OexC X.K C) (iC : PySem.W.findIn X.K (.ref C) "__init__" = some (some (.ref fI))) (tI : PySem.W.typeIn X.K (.ref fI) = some (.type "function"))
    (F1 : FnOk X.prog X.w X.K X.mg X.base CX k fI fd ps sp) (hr : Room (k + 1) X.A) (hb : Binds X.K fd ps ds) (hd : Vals dvs ds) (hx : Passes CX X (fun _ _ _ => False)) (hg : Gl X x) (hm : X.mg x = some (.ref C))
    (hdb : (x == ("__debug__" : Str)) = false := by decide) :
    L2N.PMk X (.Call (.Name x p) [] [] pos) (tMkO C sp dvs tNil) := by
  intro pins s σ H Q I h
  obtain ⟨nm, q, N, bs, bm, sn, sub, ab, col, dd, k0, k1, k2, k3, k5, hC, hbm⟩ := T.cls
  refine wpAny_Call_Name_kw (ld_glob I hg hm ?_ hdb)
  obtain ⟨hz, q1⟩ := h
  refine PySem.W.callWith_K0 I.kIn T.kC ?_
  show wpAny _ _ (call (.ref C) []) _ _ _
  obtain ⟨hp, g, dr, tk, os⟩ := s
  have hsz : hp.objs.size ≤ hp.objs.size + 1 := Nat.le_succ _
  have hn : H (hp.objs.size + 1) = none := I.hok.fresh hsz
  have hq := q1 (hp.objs.size + 1) hn
  have kk : ∀ b o, hp.get? b = some o → ((hp.push (PySem.W.kdv_tup [])).push (PySem.HandSPX.excO C hp.objs.size)).get? b = some o := fun b o e => Heap.get?_push_of_some _ (Heap.get?_push_of_some _ e)
  have hget : ((hp.push (PySem.W.kdv_tup [])).push (PySem.HandSPX.excO C hp.objs.size)).get? (hp.objs.size + 1) = some (PySem.HandSPX.excO C hp.objs.size) := by heap_get
  have I2 : Inv X pins σ (upd H (hp.objs.size + 1) (exo (hp.objs.size + 1) C none)) ⟨(hp.push (PySem.W.kdv_tup [])).push (PySem.HandSPX.excO C hp.objs.size), g, dr, tk, os⟩ :=
    I.laid (t' := tk) (a := hp.objs.size + 1) (o := exo (hp.objs.size + 1) C none) (h' := (hp.push (PySem.W.kdv_tup [])).push (PySem.HandSPX.excO C hp.objs.size)) kk hsz (exo_ok hget)
  have r2 : Vals (V.ref (hp.objs.size + 1) :: ([] ++ dvs)) (Value.ref (hp.objs.size + 1) :: ([] ++ ds)) := .cons rfl (Vals.append .nil hd)
  have hl : (Value.ref (hp.objs.size + 1) :: [] ++ ds).length = ps.length := by
    have e := r2.length
    rw [F1.len _ _ _ _ hq] at e
    exact e.symm
  refine wpAny_call (PySem.HandSPX.call_own F.excBase_ValueError (fun Y => PySem.HandSPX.refsVE_contains Y bm hbm) (I.kIn _ _ hC) (PySem.W.looks_findIn I.kIn iC) (fun self => PySem.W.bind_fn I.kIn self tI) (Nat.zero_le _)
    (codeAny_mono (F1.run _ X.stack _ _ ⟨Value.ref (hp.objs.size + 1) :: [], []⟩ (Value.ref (hp.objs.size + 1) :: ([] ++ ds)) _ _ (fun _ _ _ => False) (hr.make C [] []) (I2.env0.make C [] []) (show BindsTo _ _ _ (ps.zip (Value.ref (hp.objs.size + 1) :: ([] ++ ds))) from hb _ (Value.ref (hp.objs.size + 1) :: []) I2.kIn hl) r2 hq) fun r s' hq' => ?_))
  cases r with
  | error er => exact hx pins σ _ _ er s' I2 hq'
  | ok fl =>
    cases fl with
    | ret u =>
      obtain ⟨v, H2, os2, bare2, un2, hok2, rv, ev, d, fs, ea, ed, hd1, q2⟩ := hq'
      subst ev
      obtain ⟨h2, g2, d2, t2, os'⟩ := s'
      exact ⟨rv, mk_endN (raises_own T.exC T.tyC) I hsz kk un2 hok2 os2 bare2 ea ed hd1 q2⟩
    | next => exact False.elim hq'
    | brk => exact False.elim hq'
    | cont => exact False.elim hq'
theorem pmk_xN {x f : Str} {C : Addr} {k : Nat} {dvs : List V} {e : Expr} {es : List Expr} {ta : TA} {p pos : Pos} (Z : Xcl X.prog X.w X.K X.mg X.base x C k f dvs) (hr : Room (k + 1) X.A) (hg : Gl X x) (ha : PA X (e :: es) ta) (mono : ∀ σ H (Q Q' : List V → Hp → Prop), (∀ vs H, Q vs H → Q' vs H) → ta σ H Q → ta σ H Q')
    (hdb : (x == ("__debug__" : Str)) = false := by decide) (he : starEach (e :: es) X.env = (false, eval e X.env) :: starEach es X.env := by rfl) (hpl : (backTo pos (starEach es X.env)).any (·.1) = false := by rfl) :
    L2N.PMk X (.Call (.Name x p) (e :: es) [] pos) (tXmk C f dvs ta) := by
  obtain ⟨fI, fd, ds, ps, iC, tI, F, hb, hd⟩ := Z.ex
  have M := pmk_oexN (p := p) (pos := pos) Z.T iC tI F hr hb hd pass0 hg Z.hm ha hdb he hpl
  intro pins s σ H Q I h
  refine M pins s σ H Q I (mono _ _ _ _ (fun vs H1 ⟨v, ev, q⟩ => ⟨?_, fun a na => ?_⟩) h)
  · have := congrArg List.length ev
    simp only [List.length_append, List.length_cons, List.length_nil] at this
    omega
  · rw [ev]
    exact xi_end Z.T Z.no q a na
theorem pmk_x0N {x f : Str} {C : Addr} {k : Nat} {dvs : List V} {p pos : Pos} (Z : Xcl X.prog X.w X.K X.mg X.base x C k f dvs) (hr : Room (k + 1) X.A) (hg : Gl X x) (hdb : (x == ("__debug__" : Str)) = false := by decide) :
    L2N.PMk X (.Call (.Name x p) [] [] pos) (tXmk C f dvs tNil) := by
  obtain ⟨fI, fd, ds, ps, iC, tI, F, hb, hd⟩ := Z.ex
  have M := pmk_oex0N (p := p) (pos := pos) Z.T iC tI F hr hb hd pass0 hg Z.hm hdb
  intro pins s σ H Q I h
  obtain ⟨v, ev, q⟩ := h
  refine M pins s σ H Q I ⟨Nat.zero_le _, fun a na => ?_⟩
  rw [ev]
  exact xi_end Z.T Z.no q a na
end
end Bw

/-! try with except clauses over any body: what the body's calls are refused with is told once -/
namespace Bw
open PySem PySem.Spec PyProof.Rows L2 L2H HotX
theorem takes_lenC {X : Cx} {W : WX} (tk : TakesC X W) : TakesC X (fun cls d σ H => σ.length = X.N.length → W cls d σ H) := fun u s' x => by
  obtain ⟨a, B, sI, pins, σ, H, cls, d, e, I, nb, up, sky, na, os, ag, w⟩ := x
  exact tk u s' ⟨a, B, sI, pins, σ, H, cls, d, e, I, nb, up, sky, na, os, ag, w I.len⟩
theorem takesC0 {X : Cx} : TakesC X (fun _ _ _ _ => False) := fun _ _ ⟨_, _, _, _, _, _, _, _, _, _, _, _, _, _, _, _, w⟩ => w.elim
section
variable {X : Cx} {body : List Stmt} {h₀ : ExceptHandler} {hds : List ExceptHandler} {l : List (List Value × Nat × (Addr → Value → Option Addr → TS))} {pos : Pos} {tb : XK → TS} {Wout : WX}
/-- the reading of a try -/
def tTryE (K : PySem.W.Frag) (n : Nat) (Wout : WX) (l : List (List Value × Nat × (Addr → Value → Option Addr → TS))) (tb : XK → TS) : TS := fun D σ H => ∃ Ech : XK, (∀ cls d (σ' : L2.St) H', σ'.length = n → Ech cls d H' → wMas K Wout D l cls d σ' H') ∧ tb Ech D σ H
theorem ps_try_E (hs : X.stack = X.env :: X.outer) (hf : X.env.frame = some X.env.locals) (hN : X.N.Nodup) (tk : TakesC X Wout) (hsz : ∀ x ∈ l, x.1.length ≤ 1000)
    (hb : ∀ (E : XK) (pn : List (Addr × Obj)) (xe : Value → Shared → Prop), LetsC (X.tr pn xe) E → PassesOwn (model X.prog X.w) X.A X.env xe → PSs (X.tr pn xe) body (tb E))
    (hh : HdsC X (h₀ :: hds) l) : PS X (.Try body (h₀ :: hds) [] [] pos) (tTryE X.K X.N.length Wout l tb) := by
  refine ⟨fun pins s σ H D I h => ?_⟩
  refine (ps_try_mac (pos := pos) (tb := fun W D σ H => ∃ Ech : XK, (∀ cls d (σ' : L2.St) H', σ'.length = X.N.length → Ech cls d H' → W cls d σ' H') ∧ tb Ech D σ H) hs hf hN tk hsz (fun W pn xe tk' po => ⟨fun pins s σ H D I h => ?_⟩) hh).run pins s σ H D I h
  obtain ⟨Ech, hW, h3⟩ := h
  exact (hb Ech pn xe (lets_ofC ((takes_lenC tk').imp fun c d σ H e hl => hW c d σ H hl e)) po).run pins s σ H D I h3
end
end Bw

/-! tuples unpacked while an exception is handled; finally suites behind a raise, the chain told -/
namespace Bw
open PySem PySem.Spec PyProof.Rows L2 L2H HotX
open Sem (wp)
theorem chp_chn {h : Heap} {N : Addr → Prop} {pl : List (Addr × Obj)} : ∀ {c : Value}, ChP pl c → (∀ q ∈ pl, h.get? q.1 = some q.2 ∧ N q.1) → Chn h N c
  | _, .non, _ => .non
  | _, .ref a b d e, k => .ref (k _ a).1 b (k _ a).2 d (chp_chn e k)
theorem chn_titer {h : Heap} {N : Addr → Prop} {it t : Addr} {i : Nat} (hit : IsTupIter h it t i) : ∀ {c : Value}, Chn h N c → Chn h (fun y => N y ∧ y ≠ it) c
  | _, .non => .non
  | _, .ref a b n d e => .ref a b ⟨n, fun z => by
      obtain ⟨o, ho, hc, hd⟩ := hit
      rw [z, ho] at a
      cases a
      rw [hd] at b
      cases b
      simp at d⟩ d (chn_titer hit e)
theorem hotl_fresh {A : Around} {x1 : Addr} {h h' : Heap} (c : HotL A x1 h) (k : ∀ b o, h.get? b = some o → h'.get? b = some o) : HotL A x1 h' := ⟨c.1, c.2.keeps k⟩
section
variable {prog : Program} {w : World} {A : Around} {E : Value → Shared → Prop} {s : Shared}
theorem next_tuple_endH {it t : Addr} {i : Nat} {items} {Q : Option Value → Shared → Prop} {x1 : Addr} (hot : HotL A x1 s.heap)
    (hit : IsTupIter s.heap it t i) (ht : IsTup s.heap t items) (hx : items[i]? = none)
    (hQ : ∀ h', Heap.ExtBut it s.heap h' → Q none { s with heap := h' }) : wpAny (model prog w) A (pyNext (.ref it)) Q E s := by
  obtain ⟨o, ho, hc, hd⟩ := id hit
  obtain ⟨ol, hol, _, nl, hdl⟩ := ht
  unfold pyNext
  refine wpAny_bind (wpAny_attempt (wpAny_callSpecial?_slot (name := Str.ofString "__next__") hit.typeIs slot_tupleiter_next
    (wpAny_call_entry slot_tupleiter_next hit.typeIs entry_tupleiter_next ?_ (args_tupleiter_next _))))
  show wpAny _ _ (field (.ref it) 0 >>= _) _ _ s
  refine wpAny_bind (wpAny_field ho hd (x := .ref t) rfl ?_)
  show wpAny _ _ (if (Value.ref t == Value.none) = true then _ else _) _ _ s
  rw [if_neg (show ¬ ((Value.ref t == Value.none) = true) from Bool.false_ne_true)]
  show wpAny _ _ (field (.ref it) 1 >>= _) _ _ s
  refine wpAny_bind (wpAny_field ho hd (x := .int i 0) rfl ?_)
  show wpAny _ _ (seqItems? (.ref t) >>= _) _ _ s
  refine wpAny_bind (wpAny_seqItems hol hdl ?_)
  simp only [Int.toNat_natCast, hx]
  refine wpAny_bind (wpAny_rule (wpAny_bind (wpAny_setField ho hd (by simp) ?_)))
  obtain ⟨hh, C⟩ := hot
  refine stop_hot (x1 := x1) (by refine ⟨hh, ?_⟩; exact (chn_titer hit C).both fun b o vs e _ n => ⟨(Heap.get?_update_other _ _ (Ne.symm n.2)).trans e, trivial⟩) (fun h' e hk he => ?_)
  obtain ⟨oe, hoe, hce⟩ := he
  refine wpAny_bind (wpAny_isInstance (T := "StopIteration") (b := true) ⟨oe, hoe, hce⟩ isSubtype_stop ?_)
  refine wpAny_pure (hQ _ fun b o' nb e => hk _ _ ?_)
  exact (Heap.get?_update_other _ _ (Ne.symm nb)).trans e

theorem unpackItems_tupleH {t : Addr} {items : Array Value} {Q : List Value → Shared → Prop} {x1 : Addr} (hot : HotL A x1 s.heap) (ht : IsTup s.heap t items)
    (hQ : ∀ h', Heap.ExtBut s.heap.objs.size s.heap h' → Q items.toList { s with heap := h' }) : wpAny (model prog w) A (unpackItems (.ref t) items.size none) Q E s := by
  have hlt : t ≠ s.heap.objs.size := by obtain ⟨o, ho, _⟩ := ht; exact Nat.ne_of_lt (Heap.lt_size ho)
  unfold unpackItems
  refine wpAny_bind ?_
  · unfold notIterableAtAll
    refine wpAny_bind (wpAny_specialOf ht.typeIs slot_tuple_iter.lookup ?_)
    refine wpAny_pure ?_
    simp only [Bool.false_eq_true, if_false]
    refine wpAny_bind (wpAny_holding (iter_tuple ht ?_))
    refine wpAny_bind (wpAny_holding (draw_tuple hlt items.size 0 _ _ ⟨_, Heap.get?_push_size _ rfl, rfl, rfl⟩ (ht.push _) (by omega) fun h₁ hit₁ hs₁ => ?_))
    have hall : List.take items.size (List.drop 0 items.toList) = items.toList := by
      rw [List.drop_zero]; exact List.take_of_length_le (by simp)
    rw [hall]
    rw [if_neg (by simp)]
    have ht₁ : IsTup h₁ t items := (ht.push _).extBut hs₁.extBut hlt
    refine wpAny_bind (wpAny_holding (next_tuple_endH (x1 := x1) (hotl_fresh hot fun b o e => hs₁.extBut b o (Nat.ne_of_lt (Heap.lt_size e)) (Heap.get?_push_of_some _ e)) hit₁ ht₁ (by simp) fun h₂ he₂ => ?_))
    simp only [Option.isSome_none, Bool.false_eq_true, if_false]
    refine wpAny_pure (hQ h₂ fun b o hb e => he₂ b o hb (hs₁.extBut b o hb (Heap.get?_push_of_some _ e)))

theorem unpack_tupleH {t : Addr} {items : Array Value} {targets : List (Bool × (Value → Sem Unit))} {Q : Unit → Shared → Prop} {x1 : Addr} (hot : HotL A x1 s.heap) (ht : IsTup s.heap t items)
    (hn : targets.length = items.size) (hstar : targets.findIdx? (·.1) = none)
    (h : ∀ h', Heap.ExtBut s.heap.objs.size s.heap h' → wpAny (model prog w) A (assignInOrder (targets.map (·.2)) items.toList) Q E { s with heap := h' }) :
    wpAny (model prog w) A (unpack (.ref t) targets) Q E s := by
  unfold unpack
  rw [hn, hstar]
  exact wpAny_bind (wpAny_holding (unpackItems_tupleH hot ht h))
theorem assign_Tuple_tupleH {env : Env} {elts : List Expr} {x1} {pos : Pos} {t : Addr} {items : Array Value} {Q : Unit → Shared → Prop} {xh : Addr} (hot : HotL A xh s.heap) (ht : IsTup s.heap t items)
    (hn : (assignEach elts env).length = items.size) (hstar : (assignEach elts env).findIdx? (·.1) = none)
    (h : ∀ h', Heap.ExtBut s.heap.objs.size s.heap h' → wpAny (model prog w) A (assignInOrder ((assignEach elts env).map (·.2)) items.toList) Q E { s with heap := h' }) :
    wpAny (model prog w) A (assign (.Tuple elts x1 pos) env (.ref t)) Q E s := by
  rw [assign_Tuple]
  exact wpAny_bind (wpAny_standAt (unpack_tupleH hot ht hn hstar h))
end
section
variable {X : Cx} {pos : Pos}
theorem pg_tupK {es : List Expr} {k : Nat} {t : TGs} {n : Nat} (hot : HotD X) (h : PGs X es t)
    (hn : (assignEach es X.env).length = n := by rfl) (hst : (assignEach es X.env).findIdx? (·.1) = none := by rfl) : PG X (.Tuple es k pos) (gTup X.K n t) := by
  refine ⟨fun pins s σ H v u Q I r hw => ?_⟩
  obtain ⟨a, xs, e1, hq, hl, hw⟩ := hw
  subst e1
  cases r
  obtain ⟨its, rv, ht, hz⟩ := I.tuple hq
  obtain ⟨x1, hh, C⟩ := hot.at I
  refine assign_Tuple_tupleH (xh := x1) ⟨hh, C.imp fun _ _ _ _ => trivial⟩ ht (by simp [hn, ← hl, rv.length]) hst fun h' hx => ?_
  have I1 : Inv X pins σ H { s with heap := h' } := I.kept (t' := s.toks) fun b o e => hx b o (Nat.ne_of_lt (Heap.lt_size e)) e
  exact h.run pins _ σ H xs _ Q I1 (by simpa using rv) hw
end
section
variable {X : Cx} {body : List Stmt} {f₀ : Stmt} {fs : List Stmt} {pos : Pos} {tb : WX → TS} {tf tfs : TS} {Wout : WX}
theorem fin_excC {pins : List (Addr × Obj)} {D : Ends} {u : Value} {s' : Shared} (hs : X.stack = X.env :: X.outer) (hf : X.env.frame = some X.env.locals) (hex : X.ex = []) (ok : X.Ok) (tk : TakesC X Wout)
    (hsu : ∀ (a : Addr) (pn : List (Addr × Obj)), HotD (X.suite a pn) → PSs (X.suite a pn) (f₀ :: fs) tfs) (xx : XEc (X.tr (X.pn ++ pins) (fun x s₁ => wpAny (model X.prog X.w) X.A (noteFrame x X.env) (fun _ s₂ => FinallyRaised X.prog X.w X.A X.xe X.env (f₀ :: fs) (SP X pins D) x s₂) (FinallyRaised X.prog X.w X.A X.xe X.env (f₀ :: fs) (SP X pins D)) s₁)) (wFin tfs Wout) u s') :
    wpAny (model X.prog X.w) X.A (noteFrame u X.env) (fun _ s₂ => FinallyRaised X.prog X.w X.A X.xe X.env (f₀ :: fs) (SP X pins D) u s₂) (FinallyRaised X.prog X.w X.A X.xe X.env (f₀ :: fs) (SP X pins D)) s' := by
  have hfr : X.A.frames = some (X.env :: X.outer) := by rw [ok.frames, hs]
  obtain ⟨a, B, sI, pins', σ', H', cls, d, rfl, J', nb, up, sky, na, os, ag, hw⟩ := xx
  have J : Inv X pins σ' H' sI := J'.ofTry ok
  have sky' : Sky B (X.env :: X.outer) a (Zb B H' cls d) X.env.locals s'.heap := by rw [← hs]; exact sky
  -- behind the first note
  have fin : ∀ h1, HandSPX.HeldZ B (X.env :: X.outer) a (Zb B H' cls d) X.env.locals h1 → s'.heap.UpToSlots h1 → FinallyRaised X.prog X.w X.A X.xe X.env (f₀ :: fs) (SP X pins D) (.ref a) { s' with heap := h1 } := fun h1 hh1 up1 => by
    refine ⟨ref_ne_byPass a, HandSPX.againZ hf hh1.2.2.2 (HandSPX.landsZ hh1 fun h3 fl3 up3 => ?_)⟩
    have J3 : Inv X pins σ' H' { s' with heap := h3 } := J.landed nb fl3.1 ((up.trans up1).trans up3) os ag
    obtain ⟨k1, k2, k3, oe, vs, T, oT, ts, he3, hz, hd, hv1, hnT, hTe, hT, hdT, ht3⟩ := id fl3
    have nT : H' T = none := (J.inGround nb).gone hnT
    have notFr : ∀ (b : Addr) (o : Obj) (fv : Array Value), h3.get? b = some o → o.data = .fields fv → b ∉ frs (X.env :: X.outer) := fun b o fv e dd hm => by
      obtain ⟨_, o', e', hnf⟩ := k3.mem hm
      have eo : o = o' := Option.some.inj (e.symm.trans e')
      rw [← eo] at hnf
      exact hnf _ dd
    have locF : X.env.locals ∈ frs (X.env :: X.outer) := List.mem_filterMap.mpr ⟨X.env, List.mem_cons_self, hf⟩
    have fsF : ∀ b, b ∈ X.fs → b ∈ frs (X.env :: X.outer) := fun b hm => by
      obtain ⟨e, he, q⟩ := List.mem_filterMap.mp hm
      exact List.mem_filterMap.mpr ⟨e, List.mem_cons_of_mem _ he, q⟩
    have fa := notFr a oe vs he3 hd
    have fT := notFr T oT ts hT hdT
    obtain ⟨cx, hcx, Cx0⟩ := hz.2.2 vs hd
    obtain ⟨pl, hpl, Cpl⟩ := Cx0.pins
    have inB : ∀ q ∈ pl, B.get? q.1 = some q.2 := fun q hq => (hpl q hq).1
    have S3 : Inv (X.suite a ((a, oe) :: (T, oT) :: (pl ++ (X.pn ++ pins)))) [] σ' H' { s' with heap := h3 } :=
      ⟨J3.ok.suite _ _, J3.os, J3.bare, J3.base, J3.loc, J3.cell, J3.free, J3.freeC, fun p hp => by
        rw [List.append_nil] at hp
        rcases List.mem_cons.mp hp with z | hp
        · rw [z]
          exact ⟨he3, na, fun z2 => fa (by rw [show a = X.env.locals from z2]; exact locF), fun z2 => fa (fsF _ z2), fun v z2 => by
            have z3 : oe.data = .cell v := z2
            rw [hd] at z3
            cases z3⟩
        · rcases List.mem_cons.mp hp with z | hp
          · rw [z]
            exact ⟨hT, nT, fun z2 => fT (by rw [show T = X.env.locals from z2]; exact locF), fun z2 => fT (fsF _ z2), fun v z2 => by
              have z3 : oT.data = .cell v := z2
              rw [hdT] at z3
              cases z3⟩
          · rcases List.mem_append.mp hp with hp | hp
            · obtain ⟨g1, g2, vq, g3⟩ := hpl p hp
              have fp := notFr p.1 p.2 vq (fl3.1 _ _ g1) g3
              exact ⟨fl3.1 _ _ g1, g2, fun z2 => fp (by rw [show p.1 = X.env.locals from z2]; exact locF), fun z2 => fp (fsF _ z2), fun v z2 => by
                have z3 : p.2.data = .cell v := z2
                rw [g3] at z3
                cases z3⟩
            · exact J3.pin p hp, J3.hok, J3.len⟩
    have hot : HotD (X.suite a ((a, oe) :: (T, oT) :: (pl ++ (X.pn ++ pins)))) := ⟨(a, oe), List.mem_cons_self, rfl, .ref (q := (a, oe)) List.mem_cons_self hd hcx (Cpl.mono fun q hq => List.mem_cons_of_mem _ (List.mem_cons_of_mem _ (List.mem_append_left _ hq)))⟩
    refine wpAny_mono ((hsu a ((a, oe) :: (T, oT) :: (pl ++ (X.pn ++ pins))) hot).run [] { s' with heap := h3 } σ' H' { nx := fun σ2 H2 => Wout cls d σ2 H2, rt := fun _ _ => False } S3 hw) (fun g s6 hsp => ?_) fun _ _ z => False.elim z
    cases g with
    | ret u =>
      obtain ⟨_, _, _, _, _, q⟩ := hsp
      exact False.elim q
    | brk =>
      obtain ⟨_, _, _, q⟩ := hsp
      exact False.elim q
    | cont =>
      obtain ⟨_, _, _, q⟩ := hsp
      exact False.elim q
    | next =>
      obtain ⟨σ6, H6, S6, q6⟩ := hsp
      have J6 : Inv X pins σ6 H6 s6 := ⟨ok, S6.os, S6.bare, S6.base, S6.loc, S6.cell, S6.free, S6.freeC, fun p hp => S6.pin p (List.mem_append_left _ (List.mem_cons_of_mem _ (List.mem_cons_of_mem _ (List.mem_append_right _ hp)))), S6.hok, S6.len⟩
      have pa := S6.pin (a, oe) (List.mem_append_left _ List.mem_cons_self)
      have pT := S6.pin (T, oT) (List.mem_append_left _ (List.mem_cons_of_mem _ List.mem_cons_self))
      have ga : s6.heap.get? a = some oe := pa.1
      have gT : s6.heap.get? T = some oT := pT.1
      have na6 : H6 a = none := pa.2.1
      have nT6 : H6 T = none := pT.2.1
      -- what is not the exception's
      have far : ∀ b o, sI.heap.get? b = some o → b ≠ a ∧ b ≠ T := fun b o e => by
        by_cases hb : b ∈ frs X.stack
        · rw [hs] at hb
          exact ⟨fun z => fa (by rw [← z]; exact hb), fun z => fT (by rw [← z]; exact hb)⟩
        · have q := nb b o e hb
          exact ⟨fun z => by
            rw [z, k2] at q
            exact (nomatch q), fun z => by
            rw [z, hnT] at q
            cases q⟩
      have far0 : ∀ b o, X.s_0.heap.get? b = some o → b ≠ a ∧ b ≠ T := fun b o e => by
        obtain ⟨o', q⟩ := J.base.there b o e (by rw [hex]; simp)
        exact far b o' q
      have farP : ∀ p ∈ X.pn ++ pins, p.1 ≠ a ∧ p.1 ≠ T := fun p hp => far p.1 p.2 (J.pin p hp).1
      obtain ⟨G, g1, g2⟩ := restrict s6.heap fun b => !(decide (b = a) || decide (b = T))
      have gIn : ∀ b o, G.get? b = some o → s6.heap.get? b = some o ∧ b ≠ a ∧ b ≠ T := fun b o e => by
        cases q : (!(decide (b = a) || decide (b = T))) with
        | false =>
          rw [g2 b q] at e
          cases e
        | true =>
          rw [g1 b q] at e
          simp only [Bool.not_eq_true', Bool.or_eq_false_iff, decide_eq_false_iff_not] at q
          exact ⟨e, q.1, q.2⟩
      have gOf : ∀ b o, b ≠ a → b ≠ T → s6.heap.get? b = some o → G.get? b = some o := fun b o h1 h2 e => by
        rw [g1 b (by simp [h1, h2])]
        exact e
      have I6 : Inv X pins σ6 H6 { s6 with heap := G } := J6.less (fun b o e => (gIn b o e).1) gOf ⟨oe, vs, ga, hd⟩ ⟨oT, ts, gT, hdT⟩ na6 nT6 far0 farP
      -- the ground behind the suite
      have B6in : ∀ b o, (PySem.W.hideAll G (frs X.stack)).get? b = some o → s6.heap.get? b = some o := fun b o e => (gIn b o (PySem.W.of_hideAll _ e)).1
      have Bno : ∀ b, (b = a ∨ b = T) → (PySem.W.hideAll G (frs X.stack)).get? b = none := fun b hb => by
        cases q : (PySem.W.hideAll G (frs X.stack)).get? b with
        | none => rfl
        | some o =>
          obtain ⟨_, n1, n2⟩ := gIn b o (PySem.W.of_hideAll _ q)
          rcases hb with z | z
          · exact absurd z n1
          · exact absurd z n2
      have z6 : Zb (PySem.W.hideAll G (frs X.stack)) H6 cls d oe := ⟨hz.1, hz.2.1, fun vs' e => by
        rw [hd] at e
        cases e
        refine ⟨cx, hcx, chp_chn Cpl fun q hq => ?_⟩
        have pq := S6.pin q (List.mem_append_left _ (List.mem_cons_of_mem _ (List.mem_cons_of_mem _ (List.mem_append_left _ hq))))
        obtain ⟨g1, g2, vq, g3⟩ := hpl q hq
        have n1 : q.1 ≠ a := fun z => by
          rw [z, k2] at g1
          cases g1
        have n2 : q.1 ≠ T := fun z => by
          rw [z, hnT] at g1
          cases g1
        have fp := notFr q.1 q.2 vq (fl3.1 _ _ g1) g3
        exact ⟨PySem.W.hideAll_get _ (gOf _ _ n1 n2 pq.1) (by rw [hs]; exact fp), pq.2.1⟩⟩
      have fl6 : HandSPX.FlyingZ (PySem.W.hideAll G (frs X.stack)) (X.env :: X.outer) a (Zb (PySem.W.hideAll G (frs X.stack)) H6 cls d) s6.heap := by
        refine ⟨B6in, Bno a (.inl rfl), ?_, oe, vs, T, oT, ts, ga, z6, hd, hv1, Bno T (.inr rfl), hTe, gT, hdT, ht3⟩
        have ff := funFrames_none (B := PySem.W.hideAll G (frs X.stack)) J6.stack fun b hb => PySem.W.hideAll_none _ hb
        rw [← hs]
        exact ff
      show wpAny (model X.prog X.w) X.A (PySem.passOn "try.finally" (.ref a) X.env) (SP X pins D) X.xe s6
      unfold PySem.passOn
      refine wpAny_bind (wpAny_field ga hd hv1 ?_)
      rw [if_neg (show ¬ ((Value.ref T == Value.none) = true) from by simp)]
      have goOn : wpAny (model X.prog X.w) X.A (setFlight (.ref a) X.env.frame) (fun _ s7 => wpAny (model X.prog X.w) X.A (throw (.ref a) : Sem Flow) (SP X pins D) X.xe s7) X.xe s6 := by
        rw [hf]
        refine HandSPX.setFlight_upZ fl6 fun h7 hh7 up7 => wpAny_throw (tk _ _ ?_)
        refine ⟨a, PySem.W.hideAll G (frs X.stack), { s6 with heap := G }, pins, σ6, H6, cls, d, rfl, I6, fun b o e hb => PySem.W.hideAll_get _ e hb, ?_, .inr (.inr (by rw [← hs] at hh7; exact hh7)), na6, rfl, J6.bare, q6⟩
        exact Heap.UpToSlots.trans (Heap.UpToSlots.of_keeps fun b o e => (gIn b o e).1) up7
      first
        | exact wpAny_bind (wpAny_pure (wpAny_bind goOn))
        | exact wpAny_bind goOn
  show wpAny (model X.prog X.w) X.A (noteFrame (.ref a) X.env) _ _ _
  rcases sky' with ⟨hB, hn, hl, oe, vs, he0, hz, hd, hv1⟩ | fl | hh
  · exact PXN.look_newZ Zb.steady hfr hl hf he0 hB hn hd hv1 hz fin
  · exact PXN.looks_onZ Zb.steady hfr hf fl fin
  · exact HandSPX.againZ hf hh.2.2.2 (fin s'.heap hh (Heap.UpToSlots.refl _))

theorem ps_finXC (hs : X.stack = X.env :: X.outer) (hf : X.env.frame = some X.env.locals) (hex : X.ex = []) (tk : TakesC X Wout)
    (hb : ∀ (W : WX) (pn : List (Addr × Obj)) (xe : Value → Shared → Prop), TakesC (X.tr pn xe) W → PassesOwn (model X.prog X.w) X.A X.env xe → PSs (X.tr pn xe) body (tb W))
    (hfin : PSs X.nox (f₀ :: fs) tf) (hsu : ∀ (a : Addr) (pn : List (Addr × Obj)), HotD (X.suite a pn) → PSs (X.suite a pn) (f₀ :: fs) tfs) : PS X (.Try body [] [] (f₀ :: fs) pos) (tFinX tb tf tfs Wout) := by
  refine ⟨fun pins s σ H D I h => ?_⟩
  have ok := I.ok
  refine wpAny_Try_finally ?_
  refine wpAny_mono ((hb (wFin tfs Wout) (X.pn ++ pins) (fun x s₁ => wpAny (model X.prog X.w) X.A (noteFrame x X.env) (fun _ s₂ => FinallyRaised X.prog X.w X.A X.xe X.env (f₀ :: fs) (SP X pins D) x s₂) (FinallyRaised X.prog X.w X.A X.xe X.env (f₀ :: fs) (SP X pins D)) s₁)
    (fun u s' xx => ?_) PassesOwn.looking).run [] s σ H { nx := fun σ1 H1 => tf D σ1 H1, rt := fun _ _ => False } (I.toTry _) h) (fun f s1 q => ?_) (fun x s1 hx => hx)
  · exact fin_excC hs hf hex ok tk hsu xx
  · cases f with
    | next =>
      obtain ⟨σ', H', I', q2⟩ := q
      refine wpAny_execs_nil ?_
      refine wpAny_mono (hfin.run pins s1 σ' H' D ((I'.ofTry ok).wish _) q2) (fun g s2 z => ?_) fun e s1 z => z.elim
      have z' : SP X pins D g s2 := z.unwish
      cases g <;> exact z'
    | ret v =>
      obtain ⟨_, _, _, _, _, z⟩ := q
      exact z.elim
    | brk =>
      obtain ⟨_, _, _, z⟩ := q
      exact z.elim
    | cont =>
      obtain ⟨_, _, _, z⟩ := q
      exact z.elim
/-- the body and the suite by any readings of them -/
def tAnySC (X : Cx) (b : List Stmt) : TS := fun D σ H => ∀ (a : Addr) (pn : List (Addr × Obj)), HotD (X.suite a pn) → ∃ t : TS, PSs (X.suite a pn) b t ∧ t D σ H
theorem pss_anySC {b : List Stmt} (a : Addr) (pn : List (Addr × Obj)) (hot : HotD (X.suite a pn)) : PSs (X.suite a pn) b (tAnySC X b) :=
  ⟨fun pins s σ H D I h => by
    obtain ⟨t, ht, hq⟩ := h a pn hot
    exact ht.run pins s σ H D I hq⟩
def tAnyTC (X : Cx) (b : List Stmt) : WX → TS := fun W D σ H => ∀ (pn : List (Addr × Obj)) (xe : Value → Shared → Prop), TakesC (X.tr pn xe) W → PassesOwn (model X.prog X.w) X.A X.env xe → ∃ t : TS, PSs (X.tr pn xe) b t ∧ t D σ H
theorem pss_anyTC {b : List Stmt} {W : WX} {pn : List (Addr × Obj)} {xe : Value → Shared → Prop} (tk : TakesC (X.tr pn xe) W) (po : PassesOwn (model X.prog X.w) X.A X.env xe) : PSs (X.tr pn xe) b (tAnyTC X b W) :=
  ⟨fun pins s σ H D I h => by
    obtain ⟨t, ht, hq⟩ := h pn xe tk po
    exact ht.run pins s σ H D I hq⟩
def tFinAC (X : Cx) (body fs : List Stmt) (tf : TS) (Wout : WX) : TS := tFinX (tAnyTC X body) tf (tAnySC X fs) Wout
theorem ps_finAC (hs : X.stack = X.env :: X.outer) (hf : X.env.frame = some X.env.locals) (hex : X.ex = []) (tk : TakesC X Wout) (hfin : PSs X.nox (f₀ :: fs) tf) :
    PS X (.Try body [] [] (f₀ :: fs) pos) (tFinAC X body (f₀ :: fs) tf Wout) := ps_finXC hs hf hex tk (fun _ _ _ tk' po => pss_anyTC tk' po) hfin fun a pn hot => pss_anySC a pn hot
theorem w_finAC {X : Cx} {body fs : List Stmt} {tf : TS} {Wout : WX} {D : Ends} {σ : L2.St} {H : Hp} (h : ∀ (pn : List (Addr × Obj)) (xe : Value → Shared → Prop), TakesC (X.tr pn xe) (wFin (tAnySC X fs) Wout) → PassesOwn (model X.prog X.w) X.A X.env xe → ∃ t : TS, PSs (X.tr pn xe) body t ∧ t { nx := fun σ1 H1 => tf D σ1 H1, rt := fun _ _ => False } σ H) :
    tFinAC X body fs tf Wout D σ H := h
end
end Bw

open PySem PySem.Spec L2 Bw
local macro_rules | `(tactic| wtm_at "look") => `(tactic| first | assumption | with_reducible exact upd_same | ((with_reducible refine' same_at ?ws ?wt); (case ws => assumption); (case wt => wtm_at "look")) | ((with_reducible refine' kb_at ?ws ?wt ?wn); (case ws => assumption); (case wt => wtm_at "look"); (case wn => wtm_at "ne")))
local macro_rules | `(tactic| wtm_at "ne") => `(tactic| first | assumption | ((with_reducible refine Ne.symm ?ws); (case ws => assumption)) | ((with_reducible refine' ne_of_none ?wa ?wb); (case wb => assumption); (case wa => wtm_at "look")) | ((with_reducible refine' Ne.symm (ne_of_none ?wa ?wb)); (case wb => assumption); (case wa => wtm_at "look")))
local macro_rules | `(tactic| wtm_at "seq") => `(tactic| first | assumption | ((with_reducible refine' SqL.of ?ws); (case ws => wtm_at "look")) | ((with_reducible refine' SqT.of ?ws); (case ws => wtm_at "look")) | ((with_reducible refine' Same.seq ?ws ?wt); (case ws => assumption); (case wt => wtm_at "seq")) | ((with_reducible refine' same_t ?ws ?wt); (case ws => assumption); (case wt => wtm_at "seq")))
local macro_rules | `(tactic| wtm_at "ix") => `(tactic| first | assumption | exact atI_nat (j := 0) rfl | exact atI_nat (j := 1) rfl | exact atI_nat (j := 2) rfl | exact atI_nat (j := 3) rfl | exact atI_nat (j := 4) rfl)
local macro_rules | `(tactic| wtm_at "len") => `(tactic| first | (refine sz ?_; simp only [List.length_cons, List.length_nil]; omega) | (refine sz ?_; omega))
local macro_rules | `(tactic| wtm_at "fld") => `(tactic| first | assumption | exact lk_hit | ((with_reducible refine' lk_miss ?wa ?wb); (case wa => decide +kernel); (case wb => wtm_at "fld")) | rfl)
local macro_rules | `(tactic| wtm_at "tyx") => `(tactic| first | assumption | with_reducible exact tyx_int | with_reducible exact tyx_bl | with_reducible exact tyx_str | with_reducible exact tyx_non | ((with_reducible refine' tyx_lst ?wa); (case wa => wtm_at "look")) | ((with_reducible refine' tyx_tup ?wa); (case wa => wtm_at "look")))
local macro_rules | `(tactic| wtm_at "ixn") => `(tactic| first | assumption | exact Evl.ixN_nat (j := 0) (by simp) | exact Evl.ixN_nat (j := 1) (by simp) | exact Evl.ixN_nat (j := 2) (by simp) | rfl)
local macro_rules | `(tactic| wtm_at "cond") => `(tactic| first | assumption | (show (0 : Int) < _; omega) | exact mulL (by omega) | exact mulR (by omega) | exact divU (b := 64) (by omega) (by omega) (by decide) (by decide) | exact powU (a := 200) (by omega) (by decide) (by decide) (by decide))
local macro_rules | `(tactic| wtm_at "xd") => `(tactic| first | assumption | exact xdOk_none | ((with_reducible refine' XdOk.same ?wx ?ws); (case ws => assumption); (case wx => wtm_at "xd")) | ((with_reducible refine' xdOk_at ?wa); (case wa => wtm_at "look")))
local macro_rules | `(tactic| wtm_at "new") => `(tactic| (intro pN nN; generalize eN : upd _ pN _ = HN; have sN := same_gen nN eN; have hN := at_gen eN; clear eN))
local macro_rules | `(tactic| wtm_at "mut") => `(tactic| (generalize eM : upd _ _ _ = HM; have kM := kb_gen eM; have hM := at_gen eM; clear eM; (repeat (first | rw [pf_hit] at hM | rw [pf_nil] at hM | ((rw [pf_miss] at hM); rotate_left; decide +kernel)))))
local macro_rules | `(tactic| wtm_at "make") => `(tactic| (intro pR dR nR ndR neR; generalize eR : upd (upd _ dR _) pR _ = HR; have sR := same_make nR ndR eR; have hR := at_gen eR; clear eR neR))
local macro_rules | `(tactic| wtm_at "shp") => `(tactic| simp [SeqAt.shaped, PyData.canLay0, PyData.canLayAll0, PyData.depth, PyData.depthAll])
local macro_rules | `(tactic| wtm_at "kit") => `(tactic| first | exact kit_int_int | exact kit_int_bool | exact kit_int_str | exact kit_int_list | exact kit_int_tuple | exact kit_int_dict | exact kit_bool_int | exact kit_bool_bool | exact kit_bool_str | exact kit_bool_list | exact kit_bool_tuple | exact kit_bool_dict | exact kit_str_int | exact kit_str_bool | exact kit_str_str | exact kit_str_list | exact kit_str_tuple | exact kit_str_dict | exact kit_list_int | exact kit_list_bool | exact kit_list_str | exact kit_list_list | exact kit_list_tuple | exact kit_list_dict | exact kit_tuple_int | exact kit_tuple_bool | exact kit_tuple_str | exact kit_tuple_list | exact kit_tuple_tuple | exact kit_tuple_dict | exact kit_NoneType_int | exact kit_NoneType_bool | exact kit_NoneType_str | exact kit_NoneType_list | exact kit_NoneType_tuple | exact kit_NoneType_dict | exact kit_dict_int | exact kit_dict_bool | exact kit_dict_str | exact kit_dict_list | exact kit_dict_tuple | exact kit_dict_dict)
local macro_rules | `(tactic| wtm_at "w1") => `(tactic| first
  | with_reducible refine w_seq ?_
  | with_reducible refine w_next ?_
  | with_reducible refine w_set ?_
  | with_reducible refine w_asg ?_
  | with_reducible refine w_par ?_
  | with_reducible refine w_ret ?_
  | with_reducible refine w_drop ?_
  | with_reducible refine w_if ?_
  | with_reducible refine w_ifE ?_
  | ((with_reducible refine' w_var ?wv ?_); (case wv => rfl))
  | with_reducible refine w_c ?_
  | with_reducible refine w_op ?_
  | with_reducible refine w_un ?_
  | with_reducible refine w_I0 ?_
  | with_reducible refine w_U ?_
  | with_reducible refine w_pow10_5 ?_
  | with_reducible refine w_pow10_8 ?_
  | with_reducible refine w_pow10_9 ?_
  | with_reducible refine w_pow10_10 ?_
  | with_reducible refine w_pow10_11 ?_
  | with_reducible refine w_pow10_12 ?_
  | with_reducible refine w_pow10_18 ?_
  | ((with_reducible refine w_I ?wc ?_); (case' wc => try wtm_at "cond"))
  | ((with_reducible refine' w_setL ?wh ?wj ?_); (case wh => wtm_at "look"); (case wj => wtm_at "ixn"); intro hS kS eS; (try dsimp only [List.set_cons_zero, List.set_cons_succ] at eS))
  | ((with_reducible refine w_eq ?wh ?_); (case wh => rfl))
  | ((with_reducible refine w_ne ?wh ?_); (case wh => rfl))
  | with_reducible refine w_is0 ?_
  | with_reducible refine w_isnot0 ?_
  | with_reducible refine w_test ?_
  | with_reducible refine w_tB ?_
  | with_reducible refine w_bl ?_
  | ((with_reducible refine' w_isP ?wa ?wb ?wc ?_); (case wa => assumption); (case wb => assumption); (case wc => wtm_at "xd"))
  | ((with_reducible refine' w_isPt ?wa ?wb ?wc ?_); (case wa => assumption); (case wb => assumption); (case wc => wtm_at "xd"))
  | ((with_reducible refine' w_isPT ?wa ?wt ?wb ?wc ?_); (case wa => assumption); (case wt => wtm_at "look"); (case wb => assumption); (case wc => wtm_at "xd"))
  | with_reducible refine w_bmL ?_
  | with_reducible refine w_bm0 ?_
  | ((with_reducible refine' w_tyL ?wh ?_); (case wh => wtm_at "seq"))
  | with_reducible refine w_callP ?_
  | with_reducible refine w_lcE ?_
  | with_reducible refine w_lc2E ?_
  | with_reducible refine w_iStr ?_
  | with_reducible refine w_strE ?_
  | with_reducible refine w_iEnum ?_
  | ((with_reducible refine' w_enum ?wh ?_); (case wh => wtm_at "seq"))
  | with_reducible refine w_yes ?_
  | with_reducible refine w_m1 ?_
  | with_reducible refine w_sl ?_
  | with_reducible refine w_noPart ?_
  | with_reducible refine w_part ?_
  | with_reducible refine w_intE ?_
  | ((with_reducible refine' w_slS ?wh ?_); (case wh => wtm_at "len"))
  | ((with_reducible refine' w_slL ?wh ?_); (case wh => wtm_at "seq"); intro pC HC nC sC hC)
  | with_reducible refine w_m0 ?_
  | with_reducible refine w_isS ?_
  | with_reducible refine w_inS ?_
  | with_reducible refine w_notInS ?_
  | with_reducible refine w_xmk ?_
  | with_reducible refine w_xv ?_
  | with_reducible refine w_xv0 ?_
  | ((with_reducible refine' w_aug ?wv ?_); (case wv => rfl))
  | with_reducible refine w_ipI ?_
  | with_reducible refine w_rAdd ?_
  | with_reducible refine w_faug ?_
  | ((with_reducible refine' w_faug1 ?wh ?wc ?wn ?wl ?_); (case wh => wtm_at "look"); (case wc => assumption); (case wn => assumption); (case wl => wtm_at "fld"))
  | ((with_reducible refine' w_faug2 ?wh ?wl ?_); (case wh => wtm_at "look"); (case wl => (simp only [List.length_cons, List.length_nil]; omega)); wtm_at "mut")
  | with_reducible refine w_xfE ?_
  | ((with_reducible refine' w_xf ?wa ?wn ?wh ?wl ?_); (case wa => assumption); (case wn => assumption); (case wh => wtm_at "look"); (case wl => wtm_at "fld"))
  | ((with_reducible refine' w_cat ?wh ?wi ?wl ?_); (case wh => wtm_at "look"); (case wi => wtm_at "look"); (case wl => wtm_at "len"); intro pC HC nC sC hC; (try dsimp only [List.cons_append, List.nil_append] at hC))
  | with_reducible refine w_fmtE ?_
  | with_reducible refine w_joinE ?_
  | with_reducible refine w_js ?_
  | with_reducible refine w_jn ?_
  | ((with_reducible refine' w_jt ?wh ?_); (case wh => wtm_at "len"))
  | with_reducible refine w_isB ?_
  | with_reducible refine w_isnB ?_
  | with_reducible refine w_and ?_
  | with_reducible refine w_or ?_
  | with_reducible refine w_not ?_
  | with_reducible refine w_andV ?_
  | with_reducible refine w_orV ?_
  | with_reducible refine w_notV ?_
  | with_reducible refine w_chain ?_
  | with_reducible refine w_cons ?_
  | with_reducible refine w_nil ?_
  | with_reducible refine w_call ?_
  | with_reducible refine w_cb ?_
  | with_reducible refine w_tupE ?_
  | with_reducible refine w_lstE ?_
  | with_reducible refine w_abs ?_
  | with_reducible refine w_max ?_
  | with_reducible refine w_min ?_
  | with_reducible refine w_intI ?_
  | with_reducible refine w_intB ?_
  | ((with_reducible refine' w_lenL ?wh ?_); (case wh => wtm_at "seq"))
  | ((with_reducible refine' w_lenS ?wh ?_); (case wh => wtm_at "len"))
  | ((with_reducible refine' w_ixL ?wh ?wa ?_); (case wh => wtm_at "seq"); (case wa => wtm_at "ix"))
  | ((with_reducible refine' w_ixT ?wh ?wa ?_); (case wh => wtm_at "seq"); (case wa => wtm_at "ix"))
  | with_reducible refine w_gname ?_
  | with_reducible refine w_gsub ?_
  | with_reducible refine w_fldE ?_
  | ((with_reducible refine' w_fld ?wh ?wc ?wn ?wl ?_); (case wh => wtm_at "look"); (case wc => assumption); (case wn => assumption); (case wl => wtm_at "fld"))
  | with_reducible refine w_two ?_
  | with_reducible refine w_forE ?_
  | with_reducible refine w_iTup ?_
  | with_reducible refine w_iList ?_
  | with_reducible refine w_iRng1 ?_
  | with_reducible refine w_iRng2 ?_
  | ((with_reducible refine' w_itT ?wh ?_); (case wh => wtm_at "seq"))
  | ((with_reducible refine' w_itL ?wh ?_); (case wh => wtm_at "seq"))
  | with_reducible refine w_methE ?_
  | ((with_reducible refine' w_meth ?wh ?wl ?_); (case wh => wtm_at "look"); (case wl => wtm_at "fld"))
  | with_reducible refine w_makeE ?_
  | ((with_reducible refine makeG ?_); wtm_at "make")
  | ((with_reducible refine' w_isiB ?wt ?wk ?_); (case wt => wtm_at "tyx"); (case wk => wtm_at "kit"))
  | with_reducible refine w_sfld ?_
  | with_reducible refine w_gfldE ?_
  | ((with_reducible refine' w_st ?wh ?wc ?wn ?wl ?_); (case wh => wtm_at "look"); (case wc => assumption); (case wn => assumption); (case wl => (simp only [List.length_cons, List.length_nil]; omega)); wtm_at "mut")
  | ((with_reducible refine' w_gtup ?wh ?wn ?_); (case wh => wtm_at "seq"); (case wn => rfl))
  | with_reducible refine w_gcons ?_
  | with_reducible refine w_gnil ?_
  | with_reducible refine w_dnotE ?_
  | with_reducible refine w_dgetE ?_
  | with_reducible refine w_dputE ?_
  | with_reducible refine w_asg2 ?_
  | with_reducible refine w_iRng3 ?_
  | with_reducible refine w_makeK ?_
  | with_reducible refine iteT ?_
  | with_reducible refine iteF ?_
  | ((with_reducible refine' iteT' ?wb ?_); (case wb => rfl))
  | ((with_reducible refine' iteF' ?wb ?_); (case wb => rfl))
  | ((with_reducible refine newL ?wl ?_); (case wl => wtm_at "len"); wtm_at "new"))
local macro_rules | `(tactic| wtm_at "w0") => `(tactic| dsimp only [cxOf, L2H.cxH, Cx.nox, Cx.wish, L2.start, List.map_cons, List.map_nil, List.length_cons, List.length_nil, List.cons_append, List.nil_append, List.replicate, Nat.reduceAdd, Nat.reduceSub])
local macro_rules | `(tactic| wtm_at "wp") => `(tactic| repeat (wtm_at "w1"))
local macro_rules | `(tactic| wtm_at "wq") => `(tactic| repeat ((fail_if_success (with_reducible refine w_if ?_)); wtm_at "w1"))

namespace K16
def topS (i : Nat) : Stmt := PySem.Challenge.pw_blocksearch_k16_glances.main.body.getD i (.Pass ⟨0, 0, 0, 0⟩)
structure Txt (K : PySem.W.Frag) (mg : Str → Option Value) (Z : Zs) (C_CodeReader C_Block C_Row C_Walker : Addr) : Prop where
  cl_CodeReader : Cls K C_CodeReader
  m_CodeReader : mg "CodeReader" = some (.ref C_CodeReader)
  na_CodeReader_text : NoAttr K C_CodeReader "text"
  na_CodeReader_at : NoAttr K C_CodeReader "at"
  cl_Block : Cls K C_Block
  m_Block : mg "Block" = some (.ref C_Block)
  na_Block_first : NoAttr K C_Block "first"
  na_Block_last : NoAttr K C_Block "last"
  na_Block_many : NoAttr K C_Block "many"
  na_Block_most : NoAttr K C_Block "most"
  na_Block_least : NoAttr K C_Block "least"
  na_Block_coded : NoAttr K C_Block "coded"
  na_Block_counts : NoAttr K C_Block "counts"
  cl_Row : Cls K C_Row
  m_Row : mg "Row" = some (.ref C_Row)
  na_Row_word : NoAttr K C_Row "word"
  na_Row_size : NoAttr K C_Row "size"
  na_Row_kept : NoAttr K C_Row "kept"
  cl_Walker : Cls K C_Walker
  m_Walker : mg "Walker" = some (.ref C_Walker)
  na_Walker_kept : NoAttr K C_Walker "kept"
  na_Walker_at_block : NoAttr K C_Walker "at_block"
  na_Walker_at_entry : NoAttr K C_Walker "at_entry"
  na_Walker_decoded : NoAttr K C_Walker "decoded"
  c_LETTERS : ∃ t, mg "LETTERS" = some (.str "abcdefghijklmnopqrstuvwxyz" t)
  c_LONGEST : ∃ t, mg "LONGEST" = some (.int 12 t)
  c_MOST : ∃ t, mg "MOST" = some (.int 120 t)
  c_ENDS : ∃ t, mg "ENDS" = some (.str "abcdefghijklmnop" t)
  c_FURTHER : ∃ t, mg "FURTHER" = some (.str "ABCDEFGHIJKLMNOP" t)
  c_BASE : ∃ t, mg "BASE" = some (.int 16 t)
  c_SIZE : ∃ t, mg "SIZE" = some (.int 4 t)
  c_GREATEST : ∃ t, mg "GREATEST" = some (.int 8 t)
  c_MOST_PAGES : ∃ t, mg "MOST_PAGES" = some (.int 60 t)
  n_isinstance : mg "isinstance" = none
  n_bool : mg "bool" = none
  n_int : mg "int" = none
  n_str : mg "str" = none
  n_list : mg "list" = none
  n_tuple : mg "tuple" = none
  n_len : mg "len" = none
  n_all : mg "all" = none
  n_max : mg "max" = none
  n_min : mg "min" = none
  n_range : mg "range" = none
  n_abs : mg "abs" = none
  n_enumerate : mg "enumerate" = none
  n_divmod : mg "divmod" = none
  n_zip : mg "zip" = none
  x_NoNumber : XpV K Z.NoNumber
  h_NoRow : HowAt K Z Z.NoRow 10
  m_Wrong : mg "Wrong" = some (.ref Z.Wrong)
  m_NoWord : mg "NoWord" = some (.ref Z.NoWord)
  m_NoText : mg "NoText" = some (.ref Z.NoText)
  m_NoNumber : mg "NoNumber" = some (.ref Z.NoNumber)
  m_NoSize : mg "NoSize" = some (.ref Z.NoSize)
  m_NoLengths : mg "NoLengths" = some (.ref Z.NoLengths)
  m_NoQuery : mg "NoQuery" = some (.ref Z.NoQuery)
  m_NoCode : mg "NoCode" = some (.ref Z.NoCode)
  m_NoRow : mg "NoRow" = some (.ref Z.NoRow)
  m_NoEntries : mg "NoEntries" = some (.ref Z.NoEntries)
  m_NoQueryText : mg "NoQueryText" = some (.ref Z.NoQueryText)
  m_NoPages : mg "NoPages" = some (.ref Z.NoPages)
  m_NoName : mg "NoName" = some (.ref Z.NoName)
  m_NoQueries : mg "NoQueries" = some (.ref Z.NoQueries)
  m_NoShelf : mg "NoShelf" = some (.ref Z.NoShelf)
  m_NoDeed : mg "NoDeed" = some (.ref Z.NoDeed)
  m_Taken : mg "Taken" = some (.ref Z.Taken)
  m_NoPlace : mg "NoPlace" = some (.ref Z.NoPlace)
  m_NoSlot : mg "NoSlot" = some (.ref Z.NoSlot)
  n_ValueError : mg "ValueError" = none
  n_IndexError : mg "IndexError" = none
abbrev s_law_kind : Stmt := topS 64
theorem sc_law_kind : FnScope ["_law_e", "_law_names", "_law_some"] ["_law_e"] (defScope s_law_kind) := ⟨rfl, rfl, rfl, by decide +kernel, rfl, by decide +kernel, by decide +kernel⟩
abbrev s_law_how : Stmt := topS 65
theorem sc_law_how : FnScope ["_law_deed", "_law_e"] ["_law_deed"] (defScope s_law_how) := ⟨rfl, rfl, rfl, by decide +kernel, rfl, by decide +kernel, by decide +kernel⟩
section
variable {P : Program} {w : World} {K : PySem.W.Frag} {mg : Str → Option Value} {base : Heap} {Z : Zs} {C_CodeReader C_Block C_Row C_Walker : Addr}
theorem ok_kind {f : Addr} {fd : FuncData} (F : Fun K "_law_kind" "_law_kind" s_law_kind f fd) (T : Txt K mg Z C_CodeReader C_Block C_Row C_Walker) : FnP0 P w K mg base 1 f fd ["_law_e"] (spKind K Z) := by
  refine Fun.okP F sc_law_kind (fun p vs H Q h => ?_) (fun cdv A outer s H vs Q p hr h => ?_)
  · obtain ⟨D, d, i, nm, rfl, _⟩ := h
    rfl
  · obtain ⟨a, oe⟩ := p
    obtain ⟨D, d, i, nm, rfl, hz, hf, hk, hx, hn, k⟩ := h
    have hE := hk.ex
    have k0 := hk.is 0 _ rfl
    have k1 := hk.is 1 _ rfl
    have k2 := hk.is 2 _ rfl
    have k3 := hk.is 3 _ rfl
    have k4 := hk.is 4 _ rfl
    have k5 := hk.is 5 _ rfl
    have k6 := hk.is 6 _ rfl
    have k7 := hk.is 7 _ rfl
    have k8 := hk.is 8 _ rfl
    have k9 := hk.is 9 _ rfl
    have k10 := hk.is 10 _ rfl
    have k11 := hk.is 11 _ rfl
    have k12 := hk.is 12 _ rfl
    have k13 := hk.is 13 _ rfl
    have k14 := hk.is 14 _ rfl
    have k15 := hk.is 15 _ rfl
    have kv := hk.ve
    have kx := hk.ix
    have hi : i < 16 := (List.getElem?_eq_some_iff.mp hn).1
    refine ⟨_, (pss_cons (ps_set (i := 1) sc_law_kind.nd rfl (.inl rfl) (pe_lst (pa_cons pe_str (pa_cons pe_str (pa_cons pe_str (pa_cons pe_str (pa_cons pe_str (pa_cons pe_str (pa_cons pe_str (pa_cons pe_str (pa_cons pe_str pa_nil)))))))))))
 (pss_cons (ps_set (i := 1) sc_law_kind.nd rfl (.inl rfl) (pe_op op_cat (pv 1) (pe_lst (pa_cons pe_str (pa_cons pe_str (pa_cons pe_str (pa_cons pe_str (pa_cons pe_str (pa_cons pe_str (pa_cons pe_str pa_nil))))))))))
 (pss_cons (ps_set (i := 2) sc_law_kind.nd rfl (.inl rfl) (pe_lst (pa_cons (pe_callB (call_isP (a := a) (oe := oe) List.mem_cons_self hz hf) (by rfl) T.n_isinstance PyProof.Rows.boot_isinstance (pa_cons (pv 0) (pa_cons (pe_gcls T.m_NoCode rfl) pa_nil))) (pa_cons (pe_callB (call_isP (a := a) (oe := oe) List.mem_cons_self hz hf) (by rfl) T.n_isinstance PyProof.Rows.boot_isinstance (pa_cons (pv 0) (pa_cons (pe_gcls T.m_NoDeed rfl) pa_nil))) (pa_cons (pe_callB (call_isP (a := a) (oe := oe) List.mem_cons_self hz hf) (by rfl) T.n_isinstance PyProof.Rows.boot_isinstance (pa_cons (pv 0) (pa_cons (pe_gcls T.m_NoEntries rfl) pa_nil))) (pa_cons (pe_callB (call_isP (a := a) (oe := oe) List.mem_cons_self hz hf) (by rfl) T.n_isinstance PyProof.Rows.boot_isinstance (pa_cons (pv 0) (pa_cons (pe_gcls T.m_NoLengths rfl) pa_nil))) pa_nil))))))
 (pss_cons (ps_set (i := 2) sc_law_kind.nd rfl (.inl rfl) (pe_op op_cat (pv 2) (pe_lst (pa_cons (pe_callB (call_isP (a := a) (oe := oe) List.mem_cons_self hz hf) (by rfl) T.n_isinstance PyProof.Rows.boot_isinstance (pa_cons (pv 0) (pa_cons (pe_gcls T.m_NoName rfl) pa_nil))) (pa_cons (pe_callB (call_isP (a := a) (oe := oe) List.mem_cons_self hz hf) (by rfl) T.n_isinstance PyProof.Rows.boot_isinstance (pa_cons (pv 0) (pa_cons (pe_gcls T.m_NoNumber rfl) pa_nil))) (pa_cons (pe_callB (call_isP (a := a) (oe := oe) List.mem_cons_self hz hf) (by rfl) T.n_isinstance PyProof.Rows.boot_isinstance (pa_cons (pv 0) (pa_cons (pe_gcls T.m_NoPages rfl) pa_nil))) (pa_cons (pe_callB (call_isP (a := a) (oe := oe) List.mem_cons_self hz hf) (by rfl) T.n_isinstance PyProof.Rows.boot_isinstance (pa_cons (pv 0) (pa_cons (pe_gcls T.m_NoQueries rfl) pa_nil))) pa_nil)))))))
 (pss_cons (ps_set (i := 2) sc_law_kind.nd rfl (.inl rfl) (pe_op op_cat (pv 2) (pe_lst (pa_cons (pe_callB (call_isP (a := a) (oe := oe) List.mem_cons_self hz hf) (by rfl) T.n_isinstance PyProof.Rows.boot_isinstance (pa_cons (pv 0) (pa_cons (pe_gcls T.m_NoQuery rfl) pa_nil))) (pa_cons (pe_callB (call_isP (a := a) (oe := oe) List.mem_cons_self hz hf) (by rfl) T.n_isinstance PyProof.Rows.boot_isinstance (pa_cons (pv 0) (pa_cons (pe_gcls T.m_NoQueryText rfl) pa_nil))) (pa_cons (pe_callB (call_isP (a := a) (oe := oe) List.mem_cons_self hz hf) (by rfl) T.n_isinstance PyProof.Rows.boot_isinstance (pa_cons (pv 0) (pa_cons (pe_gcls T.m_NoRow rfl) pa_nil))) (pa_cons (pe_callB (call_isP (a := a) (oe := oe) List.mem_cons_self hz hf) (by rfl) T.n_isinstance PyProof.Rows.boot_isinstance (pa_cons (pv 0) (pa_cons (pe_gcls T.m_NoShelf rfl) pa_nil))) pa_nil)))))))
 (pss_cons (ps_set (i := 2) sc_law_kind.nd rfl (.inl rfl) (pe_op op_cat (pv 2) (pe_lst (pa_cons (pe_callB (call_isP (a := a) (oe := oe) List.mem_cons_self hz hf) (by rfl) T.n_isinstance PyProof.Rows.boot_isinstance (pa_cons (pv 0) (pa_cons (pe_gcls T.m_NoSize rfl) pa_nil))) (pa_cons (pe_callB (call_isP (a := a) (oe := oe) List.mem_cons_self hz hf) (by rfl) T.n_isinstance PyProof.Rows.boot_isinstance (pa_cons (pv 0) (pa_cons (pe_gcls T.m_NoText rfl) pa_nil))) (pa_cons (pe_callB (call_isP (a := a) (oe := oe) List.mem_cons_self hz hf) (by rfl) T.n_isinstance PyProof.Rows.boot_isinstance (pa_cons (pv 0) (pa_cons (pe_gcls T.m_NoWord rfl) pa_nil))) (pa_cons (pe_callB (call_isP (a := a) (oe := oe) List.mem_cons_self hz hf) (by rfl) T.n_isinstance PyProof.Rows.boot_isinstance (pa_cons (pv 0) (pa_cons (pe_gcls T.m_Taken rfl) pa_nil))) pa_nil)))))))
 (pss_cons (ps_if (PW.pt (pw_or (pt_cmpR op_ne (pe_bm PySem.F.plainAttrs_list PySem.F.slot_list_count PySem.F.type_list_count (mt_countD (huH hr)) (pv 2) (pa_cons pe_bl pa_nil)) pe_int (nomark _)) (pw_or (pt_not (pt_val (pe_callB (call_isP (a := a) (oe := oe) List.mem_cons_self hz hf) (by rfl) T.n_isinstance PyProof.Rows.boot_isinstance (pa_cons (pv 0) (pa_cons (pe_bltn (v := .ty "ValueError") (by rfl) T.n_ValueError PyProof.Rows.Boot.«ValueError» rfl) pa_nil))))) (pw_or1 (pt_val (pe_callB (call_isPT (a := a) (oe := oe) List.mem_cons_self hz hf) (by rfl) T.n_isinstance PyProof.Rows.boot_isinstance (pa_cons (pv 0) (pa_cons (pe_tup (pa_cons (pe_gcls T.m_NoPlace rfl) (pa_cons (pe_gcls T.m_NoSlot rfl) pa_nil))) pa_nil))))))))
 (pss_one (ps_ret pe_str))
 pss_nil)
 (pss_one (ps_ret (pe_ix ix_list (pv 1) (pe_bm PySem.F.plainAttrs_list PySem.F.slot_list_index PySem.F.type_list_index (mt_indexD (huH hr)) (pv 2) (pa_cons pe_bl pa_nil)) (fun _ _ => rfl))))))))))), ?_⟩
    wtm_at "w0"
    wtm_at "wp"
    rename_i p1 n1 H1 s1 h1 p2 n2 H2 s2 h2 p3 H3 n3 s3 h3 p4 n4 H4 s4 h4 p5 n5 H5 s5 h5 p6 H6 n6 s6 h6 p7 n7 H7 s7 h7 p8 H8 n8 s8 h8 p9 n9 H9 s9 h9 p10 H10 n10 s10 h10
    refine w_countT (n := 1) [decide (0 = i), decide (1 = i), decide (2 = i), decide (3 = i), decide (4 = i), decide (5 = i), decide (6 = i), decide (7 = i), decide (8 = i), decide (9 = i), decide (10 = i), decide (11 = i), decide (12 = i), decide (13 = i), decide (14 = i), decide (15 = i)] rfl (.of h10) (cnt16 hi) ?_
    wtm_at "wp"
    rename_i p11 n11 H11 s11 h11
    have hS : SqL K H11 p10 _ := .of (s11 _ _ h10)
    refine w_indexT (j := i) [decide (0 = i), decide (1 = i), decide (2 = i), decide (3 = i), decide (4 = i), decide (5 = i), decide (6 = i), decide (7 = i), decide (8 = i), decide (9 = i), decide (10 = i), decide (11 = i), decide (12 = i), decide (13 = i), decide (14 = i), decide (15 = i)] rfl hS (idx16 hi) (fun m hm => bef16 hi m hm) ?_
    have hN : SqL K H11 p3 (kindNames.map V.str) := .of (s11 _ _ (s10 _ _ (s9 _ _ (s8 _ _ (s7 _ _ (s6 _ _ (s5 _ _ (s4 _ _ h3))))))))
    refine w_ixL hN (nam16 hn) ?_
    exact k _ (s1.trans (s2.trans (s3.trans (s4.trans (s5.trans (s6.trans (s7.trans (s8.trans (s9.trans (s10.trans s11))))))))))
theorem how_gives {X : Cx} {Z : Zs} {C_CodeReader C_Block C_Row C_Walker : Addr} (T : Txt X.K X.mg Z C_CodeReader C_Block C_Row C_Walker) (f__law_kind : FnP X.prog X.w X.K X.mg X.base "_law_kind" 1 ["_law_e"] (spKind X.K Z)) (hr : Room 2 X.A) {g : Addr} {cdg : Value} {q : Str} :
    LamX.GivesTo X ["_law_deed", "_law_e"] "_law_how" (defScope s_law_how) g cdg (defBody s_law_how) "_law_deed" q (TTHow X.K Z) := by
  intro f c' s H Q tl act hc h
  have hrH : ∀ a : Addr, L2H.RoomH 1 ((X.A.deeper (PyProof.Rows.envOfC "_law_how" (defScope s_law_how) s.heap.objs.size g cdg)).mark (some (.ref a))) := fun a => roomH_mark (hr.deeper _)
  refine ⟨_, pss_cons (ps_try_mas (X := (cxOf C8.CX0 X.prog X.w X.K X.mg X.base ["_law_deed", "_law_e"] "_law_how" (defScope s_law_how) g cdg X.A X.stack s H C8.E0).nox)
      (tb := fun W D σ H => ∃ Ech : XK, (∀ cls d (σ' : L2.St) H', σ'.length = 2 → Ech cls d H' → W cls d σ' H') ∧ σ[0]? = some (some (.ref f)) ∧ H c' = some (LamX.CodeO c' q) ∧ tl Ech H (fun _ H' => D.nx σ H'))
      rfl rfl (show List.Nodup _ from sc_law_how.nd) takes0 ?hsz (fun W pn xe tk _ => ?hb)
      (.cons (.tup (.cons ⟨rfl, by decide, .inl T.m_NoCode⟩ (.cons ⟨rfl, by decide, .inl T.m_NoEntries⟩ (.cons ⟨rfl, by decide, .inl T.m_NoPages⟩ (.cons ⟨rfl, by decide, .inl T.m_NoQueryText⟩ (.cons ⟨rfl, by decide, .inl T.m_NoRow⟩ .nil)))))) (i := 1) rfl rfl
        pss_any
      (.cons (.one ⟨rfl, by decide, .inl T.m_Wrong⟩) (i := 1) rfl rfl
        pss_any
      (.cons (.tup (.cons ⟨rfl, by decide, .inl T.m_NoPlace⟩ (.cons ⟨rfl, by decide, .inl T.m_NoSlot⟩ .nil))) (i := 1) rfl rfl
        pss_any .nil)))) (pss_one (ps_ret pe_str)), ?_⟩
  case hsz =>
    intro x hx
    simp only [List.mem_cons, List.not_mem_nil, or_false] at hx
    rcases hx with rfl | rfl | rfl <;> simp
  case hb =>
    refine ⟨fun pins s' σ H' D I h' => ?_⟩
    obtain ⟨Ech, hW, h1, h2, h3⟩ := h'
    exact (pss_one (ps_expr (act _ pn xe Ech _ _ (takes_len tk) (fun cls d σ' H' e hl => hW cls d σ' H' hl e)))).run pins s' σ H' D I ⟨h1, h2, h3⟩
  · refine ⟨howE X.K Z Q, fun cls d σ' H' hl hw => ?_, rfl, hc, h⟩
    obtain ⟨x0, x1, rfl⟩ := two_of hl
    obtain ⟨D, rfl, hw | hw | hw⟩ := hw
    · obtain ⟨i, nm, hp, hn, hx, k⟩ := hw
      refine ⟨false, hp.c1, fun z => Bool.noConfusion z, fun _ => ⟨true, hp.c2, fun _ a na => fun oe pn hz hf => ⟨_, (pss_one (ps_ret (pe_fp (a := a) (oe := oe) f__law_kind List.mem_cons_self hz hf (hrH _) rfl (pa_cons (pv 1) pa_nil)))), ?_⟩, fun z => Bool.noConfusion z⟩⟩
      wtm_at "w0"
      wtm_at "wp"
      intro oe hz hf
      exact ⟨D, d, i, nm, rfl, hz, hf, hp.k, hx, hn, k⟩
    · obtain ⟨i, nm, dd, v, tv, hp, hn, rfl, hd, ht, hb, k⟩ := hw
      have hE := hp.k.ex
      have hno := hp.no
      refine ⟨true, hp.c1, fun _ a na => fun oe pn hz hf => ⟨_, (pss_cons (ps_if (pt_val (pe_callB call_isi (by rfl) T.n_isinstance PyProof.Rows.boot_isinstance (pa_cons (pe_xfc (a := a) (oe := oe) List.mem_cons_self hz hf (pv 1)) (pa_cons (pe_bltn (v := .ty "bool") (by rfl) T.n_bool PyProof.Rows.boot_bool rfl) pa_nil))))
 (pss_one (ps_ret pe_str))
 pss_nil)
 (pss_one (ps_ret (pe_tup (pa_cons (pe_fp (a := a) (oe := oe) f__law_kind List.mem_cons_self hz hf (hrH _) rfl (pa_cons (pv 1) pa_nil)) (pa_cons (pe_xfc (a := a) (oe := oe) List.mem_cons_self hz hf (pv 1)) pa_nil)))))), ?_⟩, fun z => Bool.noConfusion z⟩
      wtm_at "w0"
      wtm_at "wp"
      refine w_isiB ht hb ?_
      wtm_at "wp"
      intro oe hz hf
      refine ⟨D, _, i, nm, rfl, hz, hf, hp.k, xdOk_at hd, hn, fun H1 s1 => ?_⟩
      have hd1 := s1 _ _ hd
      wtm_at "wp"
      rename_i p n2 H2 s2 h2
      exact k p H2 (same_free s1 n2) (s1.trans s2) h2
    · obtain ⟨b, hp, hx, k⟩ := hw
      have hE := hp.ex
      have h1 := hp.ie
      have h2 := hp.np
      have h3 := hp.ns
      refine ⟨false, hp.c1, fun z => Bool.noConfusion z, fun _ => ⟨false, hp.c2, fun z => Bool.noConfusion z, fun _ => ⟨true, hp.c3, fun _ a na => fun oe pn hz hf => ⟨_, (pss_cons (ps_if (PW.pt (pw_or (pt_not (pt_val (pe_callB (call_isP (a := a) (oe := oe) List.mem_cons_self hz hf) (by rfl) T.n_isinstance PyProof.Rows.boot_isinstance (pa_cons (pv 1) (pa_cons (pe_bltn (v := .ty "IndexError") (by rfl) T.n_IndexError PyProof.Rows.Boot.«IndexError» rfl) pa_nil))))) (pw_or1 (pt_cmpR op_eq (pe_callB (call_isP (a := a) (oe := oe) List.mem_cons_self hz hf) (by rfl) T.n_isinstance PyProof.Rows.boot_isinstance (pa_cons (pv 1) (pa_cons (pe_gcls T.m_NoPlace rfl) pa_nil))) (pe_callB (call_isP (a := a) (oe := oe) List.mem_cons_self hz hf) (by rfl) T.n_isinstance PyProof.Rows.boot_isinstance (pa_cons (pv 1) (pa_cons (pe_gcls T.m_NoSlot rfl) pa_nil))) (nomark _)))))
 (pss_one (ps_ret pe_str))
 pss_nil)
 (pss_one (ps_ret (pe_ix ix_list (pe_lst (pa_cons pe_str (pa_cons pe_str pa_nil))) (pe_callTy cl_int (by rfl) T.n_int PyProof.Rows.boot_int (pa_cons (pe_callB (call_isP (a := a) (oe := oe) List.mem_cons_self hz hf) (by rfl) T.n_isinstance PyProof.Rows.boot_isinstance (pa_cons (pv 1) (pa_cons (pe_gcls T.m_NoPlace rfl) pa_nil))) pa_nil)) (fun _ _ => rfl))))), ?_⟩, fun z => Bool.noConfusion z⟩⟩⟩
      wtm_at "w0"
      cases b <;> (wtm_at "wp"; exact k _ (by assumption))
theorem how_asks {g : Addr} {fd : FuncData} (T : Txt K mg Z C_CodeReader C_Block C_Row C_Walker) (F : Fun K "_law_how" "_law_how" s_law_how g fd) (hm : mg "_law_how" = some (.ref g)) (hb : L2.Binds K fd ["_law_deed"] []) (f__law_kind : FnP P w K mg base "_law_kind" 1 ["_law_e"] (spKind K Z)) :
    Asks P w K mg base "_law_how" "_law_deed" ["_law_deed", "_law_e"] s_law_how 2 (TTHow K Z) := by
  refine ⟨⟨g, fd, F, hm, hb⟩, sc_law_how, rfl, .inl rfl, fun X e1 e2 e3 e4 e5 hr g cdg q => ?_⟩
  subst e1 e2 e3 e4 e5
  exact how_gives T f__law_kind hr
end

end K16

namespace K16
abbrev s_NoEntries___init__ : Stmt := inClass (topS 11) 0
theorem sc_NoEntries___init__ : FnScope ["self", "at"] ["self", "at"] (defScope s_NoEntries___init__) := ⟨rfl, rfl, rfl, by decide +kernel, rfl, by decide +kernel, by decide +kernel⟩
theorem xi_NoEntries {P : Program} {w : World} {K : PySem.W.Frag} {mg : Str → Option Value} {base : Heap} {D fI : Addr} (hm : mg "Wrong" = some (.ref D)) (hga : PySem.W.specialIn K (.ref D) "__getattribute__" = some (some (.builtin "type.__getattribute__"))) (hrd : PySem.W.readsIn K D (.type "type") = true) (vV : PySem.W.findCls K (.ref D) (.type "type") "__init__" = some (.val (.builtin "ValueError.__init__"))) (fd : FuncData) (F : FunD K "__init__" "NoEntries.__init__" (defArgs s_NoEntries___init__) (defBody s_NoEntries___init__) (defScope s_NoEntries___init__) [.non] [] fI fd) : FnOk P w K mg base CX0 1 fI fd selfAt (spXi K "at") :=
  ok_xinit (j := 0) F sc_NoEntries___init__ hm hga hrd vV rfl (.inl rfl) (.inl rfl) (fun _ _ _ => ⟨_, rfl⟩) (fun _ _ _ => rfl) (by decide) (by decide) (by decide)
theorem xa_NoEntries (T : Addr) (kV doc pm : Value) (an : Option Addr) (cdv ct : Value) (us its : List Value) (h1 : us.length = 1) (h2 : its.length = 1) :
    ∃ k, bindArgs (PySem.W.fnOf "__init__" "NoEntries.__init__" (defArgs s_NoEntries___init__) (defBody s_NoEntries___init__) (defScope s_NoEntries___init__) (.ref T) kV doc pm an cdv ct) ⟨us, []⟩ = seqItems? (.ref T) >>= k ∧ k (some its.toArray) = pure (selfAt.zip (us ++ its.drop 0)) := match us, its, h1, h2 with | [_], [_], _, _ => ⟨_, rfl, rfl⟩
theorem xb_NoEntries (T : Addr) (kV doc pm : Value) (an : Option Addr) (cdv ct : Value) (us its : List Value) (h1 : us.length = 2) (h2 : its.length = 1) :
    ∃ k, bindArgs (PySem.W.fnOf "__init__" "NoEntries.__init__" (defArgs s_NoEntries___init__) (defBody s_NoEntries___init__) (defScope s_NoEntries___init__) (.ref T) kV doc pm an cdv ct) ⟨us, []⟩ = seqItems? (.ref T) >>= k ∧ k (some its.toArray) = pure (selfAt.zip (us ++ its.drop 1)) := match us, its, h1, h2 with | [_, _], [_], _, _ => ⟨_, rfl, rfl⟩
abbrev s_NoCode___init__ : Stmt := inClass (topS 9) 0
theorem sc_NoCode___init__ : FnScope ["self", "at"] ["self", "at"] (defScope s_NoCode___init__) := ⟨rfl, rfl, rfl, by decide +kernel, rfl, by decide +kernel, by decide +kernel⟩
theorem xi_NoCode {P : Program} {w : World} {K : PySem.W.Frag} {mg : Str → Option Value} {base : Heap} {D fI : Addr} (hm : mg "Wrong" = some (.ref D)) (hga : PySem.W.specialIn K (.ref D) "__getattribute__" = some (some (.builtin "type.__getattribute__"))) (hrd : PySem.W.readsIn K D (.type "type") = true) (vV : PySem.W.findCls K (.ref D) (.type "type") "__init__" = some (.val (.builtin "ValueError.__init__"))) (fd : FuncData) (F : FunD K "__init__" "NoCode.__init__" (defArgs s_NoCode___init__) (defBody s_NoCode___init__) (defScope s_NoCode___init__) [.non] [] fI fd) : FnOk P w K mg base CX0 1 fI fd selfAt (spXi K "at") :=
  ok_xinit (j := 0) F sc_NoCode___init__ hm hga hrd vV rfl (.inl rfl) (.inl rfl) (fun _ _ _ => ⟨_, rfl⟩) (fun _ _ _ => rfl) (by decide) (by decide) (by decide)
theorem xa_NoCode (T : Addr) (kV doc pm : Value) (an : Option Addr) (cdv ct : Value) (us its : List Value) (h1 : us.length = 1) (h2 : its.length = 1) :
    ∃ k, bindArgs (PySem.W.fnOf "__init__" "NoCode.__init__" (defArgs s_NoCode___init__) (defBody s_NoCode___init__) (defScope s_NoCode___init__) (.ref T) kV doc pm an cdv ct) ⟨us, []⟩ = seqItems? (.ref T) >>= k ∧ k (some its.toArray) = pure (selfAt.zip (us ++ its.drop 0)) := match us, its, h1, h2 with | [_], [_], _, _ => ⟨_, rfl, rfl⟩
theorem xb_NoCode (T : Addr) (kV doc pm : Value) (an : Option Addr) (cdv ct : Value) (us its : List Value) (h1 : us.length = 2) (h2 : its.length = 1) :
    ∃ k, bindArgs (PySem.W.fnOf "__init__" "NoCode.__init__" (defArgs s_NoCode___init__) (defBody s_NoCode___init__) (defScope s_NoCode___init__) (.ref T) kV doc pm an cdv ct) ⟨us, []⟩ = seqItems? (.ref T) >>= k ∧ k (some its.toArray) = pure (selfAt.zip (us ++ its.drop 1)) := match us, its, h1, h2 with | [_, _], [_], _, _ => ⟨_, rfl, rfl⟩
abbrev s_NoRow___init__ : Stmt := inClass (topS 10) 0
theorem sc_NoRow___init__ : FnScope ["self", "at"] ["self", "at"] (defScope s_NoRow___init__) := ⟨rfl, rfl, rfl, by decide +kernel, rfl, by decide +kernel, by decide +kernel⟩
theorem xi_NoRow {P : Program} {w : World} {K : PySem.W.Frag} {mg : Str → Option Value} {base : Heap} {D fI : Addr} (hm : mg "Wrong" = some (.ref D)) (hga : PySem.W.specialIn K (.ref D) "__getattribute__" = some (some (.builtin "type.__getattribute__"))) (hrd : PySem.W.readsIn K D (.type "type") = true) (vV : PySem.W.findCls K (.ref D) (.type "type") "__init__" = some (.val (.builtin "ValueError.__init__"))) (fd : FuncData) (F : FunD K "__init__" "NoRow.__init__" (defArgs s_NoRow___init__) (defBody s_NoRow___init__) (defScope s_NoRow___init__) [.non] [] fI fd) : FnOk P w K mg base CX0 1 fI fd selfAt (spXi K "at") :=
  ok_xinit (j := 0) F sc_NoRow___init__ hm hga hrd vV rfl (.inl rfl) (.inl rfl) (fun _ _ _ => ⟨_, rfl⟩) (fun _ _ _ => rfl) (by decide) (by decide) (by decide)
theorem xa_NoRow (T : Addr) (kV doc pm : Value) (an : Option Addr) (cdv ct : Value) (us its : List Value) (h1 : us.length = 1) (h2 : its.length = 1) :
    ∃ k, bindArgs (PySem.W.fnOf "__init__" "NoRow.__init__" (defArgs s_NoRow___init__) (defBody s_NoRow___init__) (defScope s_NoRow___init__) (.ref T) kV doc pm an cdv ct) ⟨us, []⟩ = seqItems? (.ref T) >>= k ∧ k (some its.toArray) = pure (selfAt.zip (us ++ its.drop 0)) := match us, its, h1, h2 with | [_], [_], _, _ => ⟨_, rfl, rfl⟩
theorem xb_NoRow (T : Addr) (kV doc pm : Value) (an : Option Addr) (cdv ct : Value) (us its : List Value) (h1 : us.length = 2) (h2 : its.length = 1) :
    ∃ k, bindArgs (PySem.W.fnOf "__init__" "NoRow.__init__" (defArgs s_NoRow___init__) (defBody s_NoRow___init__) (defScope s_NoRow___init__) (.ref T) kV doc pm an cdv ct) ⟨us, []⟩ = seqItems? (.ref T) >>= k ∧ k (some its.toArray) = pure (selfAt.zip (us ++ its.drop 1)) := match us, its, h1, h2 with | [_, _], [_], _, _ => ⟨_, rfl, rfl⟩
end K16

namespace K16
abbrev s_is_whole : Stmt := topS 25
theorem sc_is_whole : FnScope ["thing"] ["thing"] (defScope s_is_whole) := ⟨rfl, rfl, rfl, by decide +kernel, rfl, by decide +kernel, by decide +kernel⟩
abbrev s_is_count : Stmt := topS 35
theorem sc_is_count : FnScope ["thing"] ["thing"] (defScope s_is_count) := ⟨rfl, rfl, rfl, by decide +kernel, rfl, by decide +kernel, by decide +kernel⟩
abbrev s_code : Stmt := topS 36
theorem sc_code : FnScope ["number", "told", "digit"] ["number"] (defScope s_code) := ⟨rfl, rfl, rfl, by decide +kernel, rfl, by decide +kernel, by decide +kernel⟩
abbrev s_joined_codes : Stmt := topS 37
theorem sc_joined_codes : FnScope ["numbers", "number"] ["numbers"] (defScope s_joined_codes) := ⟨rfl, rfl, rfl, by decide +kernel, rfl, by decide +kernel, by decide +kernel⟩
section
variable {P : Program} {w : World} {K : PySem.W.Frag} {mg : Str → Option Value} {base : Heap} {Z : Zs} {C_CodeReader C_Block C_Row C_Walker : Addr}
def isInt : V → Bool
  | .int _ => true
  | _ => false
def isCnt : V → Bool
  | .int i => decide (0 ≤ i)
  | _ => false
theorem cnt_nat {v : V} (h : isCnt v = true) : ∃ n : Nat, v = .int n := by
  cases v with
  | int i =>
    obtain ⟨n, rfl⟩ := Int.eq_ofNat_of_zero_le (of_decide_eq_true h)
    exact ⟨n, rfl⟩
  | _ => cases h
theorem cnt_of {n : Nat} : isCnt (.int n) = true := decide_eq_true (Int.natCast_nonneg n)
def spWhole : Sp := fun vs H Q _ => ∃ v, vs = [v] ∧ Thg H v ∧ Q (.bl (isInt v)) H
def spCount : Sp := fun vs H Q _ => ∃ v, vs = [v] ∧ Thg H v ∧ Q (.bl (isCnt v)) H
theorem ok_whole {f : Addr} {fd : FuncData} (F : Fun K "is_whole" "is_whole" s_is_whole f fd) (T : Txt K mg Z C_CodeReader C_Block C_Row C_Walker) : FnOk P w K mg base CX0 1 f fd ["thing"] spWhole := by
  refine F.ok sc_is_whole (fun vs H Q E h => ?_) (fun cdv A outer s H vs Q E hr h => ?_)
  · obtain ⟨v, rfl, _⟩ := h
    rfl
  · obtain ⟨v, rfl, hv, k⟩ := h
    refine ⟨_, (pss_one (ps_ret (pe_and (pe_callB call_isi (by rfl) T.n_isinstance PyProof.Rows.boot_isinstance (pa_cons (pv 0) (pa_cons (pe_bltn (v := .ty "int") (by rfl) T.n_int PyProof.Rows.boot_int rfl) pa_nil))) (pe_one (pe_not (pe_callB call_isi (by rfl) T.n_isinstance PyProof.Rows.boot_isinstance (pa_cons (pv 0) (pa_cons (pe_bltn (v := .ty "bool") (by rfl) T.n_bool PyProof.Rows.boot_bool rfl) pa_nil)))))))), ?_⟩
    wtm_at "w0"
    cases hv <;> (wtm_at "wp"; exact k)
theorem ok_count {f : Addr} {fd : FuncData} (F : Fun K "is_count" "is_count" s_is_count f fd) (T : Txt K mg Z C_CodeReader C_Block C_Row C_Walker) (f_is_whole : Fn P w K mg base "is_whole" 1 ["thing"] spWhole) : FnOk P w K mg base CX0 2 f fd ["thing"] spCount := by
  refine F.ok sc_is_count (fun vs H Q E h => ?_) (fun cdv A outer s H vs Q E hr h => ?_)
  · obtain ⟨v, rfl, _⟩ := h
    rfl
  · obtain ⟨v, rfl, hv, k⟩ := h
    refine ⟨_, (pss_one (ps_ret (pe_and (pe_fn f_is_whole (hr.mono (by omega)) rfl (pa_cons (pv 0) pa_nil)) (pe_one (pe_cmpR op_ge (pv 0) pe_int (nomark _)))))), ?_⟩
    wtm_at "w0"
    wtm_at "wp"
    refine ⟨v, rfl, hv, ?_⟩
    cases hv <;> (wtm_at "wp"; exact k)
def endsS : Str := "abcdefghijklmnop"
def furS : Str := "ABCDEFGHIJKLMNOP"
theorem ends_l : endsS.cps.toList = (List.range 16).map (97 + ·) := by decide +kernel
theorem fur_l : furS.cps.toList = (List.range 16).map (65 + ·) := by decide +kernel
theorem ends_at {n : Nat} (h : n < 16) : atI endsS.cps.toList (n : Int) = some (97 + n) := atI_nat (by rw [ends_l, List.getElem?_map, List.getElem?_range h]; rfl)
theorem fur_at {n : Nat} (h : n < 16) : atI furS.cps.toList (n : Int) = some (65 + n) := atI_nat (by rw [fur_l, List.getElem?_map, List.getElem?_range h]; rfl)
def codeS (n : Nat) : Str := S (CM.codeL n)
/-- the code of a number; what is none is refused -/
def spCode (K : PySem.W.Frag) (Z : Zs) : Sp := fun vs H Q E => ∃ v, vs = [v] ∧ ((∃ n : Nat, v = .int n ∧ n < 16 ^ 201 ∧ ∀ H', Same H H' → Q (.str (codeS n)) H') ∨ (Thg H v ∧ isCnt v = false ∧ E (.ref Z.NoNumber) none H))
theorem ok_code {f : Addr} {fd : FuncData} (F : Fun K "code" "code" s_code f fd) (T : Txt K mg Z C_CodeReader C_Block C_Row C_Walker) (f_is_count : Fn P w K mg base "is_count" 2 ["thing"] spCount) : FnOk P w K mg base (L2.CX P w) 3 f fd ["number"] (spCode K Z) := by
  refine F.okX sc_code (fun vs H Q E h => ?_) (fun cdv A outer s H vs Q E hr h => ?_)
  · obtain ⟨v, rfl, _⟩ := h
    rfl
  · obtain ⟨v, rfl, h⟩ := h
    refine ⟨_, (pss_cons (ps_if (pt_not (pt_val (pe_fn f_is_count (hr.mono (by omega)) rfl (pa_cons (pv 0) pa_nil))))
 (pss_one (ps_raise rfl takesX (pmk_ownV T.x_NoNumber T.m_NoNumber rfl)))
 pss_nil)
 (pss_cons (ps_set (i := 1) sc_code.nd rfl (.inl rfl) pe_str)
 (pss_cons (ps_while (passes_of rfl) (pt_cmpR op_ge (pv 0) (pe_gint T.c_BASE rfl) (nomark _))
 (pss_cons (ps_asg (pe_callB cl_divmod (by rfl) T.n_divmod PyProof.Rows.boot_divmod (pa_cons (pv 0) (pa_cons (pe_gint T.c_BASE rfl) pa_nil))) (pg_tup rfl (pgs_cons (pg_name (i := 0) sc_code.nd rfl (.inl rfl)) (pgs_cons (pg_name (i := 2) sc_code.nd rfl (.inl rfl)) pgs_nil))))
 (pss_one (ps_aug (i := 1) sc_code.nd rfl (.inl rfl) (pe_ix ix_str (pe_gstr T.c_FURTHER rfl) (pv 2) (fun _ _ => rfl)) ip_addS))))
 (pss_one (ps_ret (pe_op op_addS (pv 1) (pe_ix ix_str (pe_gstr T.c_ENDS rfl) (pv 0) (fun _ _ => rfl)))))))), ?_⟩
    wtm_at "w0"
    wtm_at "wp"
    rcases h with ⟨n, rfl, hn, k⟩ | ⟨hv, hc, ke⟩
    · have hlen := CM.codeL_len (k := 200) hn
      refine ⟨_, rfl, .int _, ?_⟩
      rw [cnt_of]
      wtm_at "wp"
      refine ⟨fun m σ H' => Same H H' ∧ ∃ (u : Nat) (t : Str) (dv : Option V), σ = [some (.int u), some (.str t), dv] ∧ t.cps.toList ++ CM.codeL u = CM.codeL n ∧ u = m, ⟨n, .refl _, n, "", none, rfl, rfl, rfl⟩, ?_⟩
      rintro m σ H' ⟨s1, u, t, dv, rfl, et, rfl⟩
      have htl : t.length + (CM.codeL u).length ≤ 201 := by
        have := congrArg List.length et
        rw [List.length_append, len_cps] at this
        omega
      wtm_at "wp"
      refine w_dec (fun h1 => ?_) (fun h1 => ?_)
      · have hu : 16 ≤ u := by omega
        rw [CM.codeL_ge hu] at et
        refine w_loopT ?_
        wtm_at "wp"
        refine w_divmod (by decide) (by decide) (fun p H2 n2 s2 hp => ?_)
        wtm_at "wp"
        refine w_ixS (c := 65 + u % 16) (by decide +kernel) (fur_at (Nat.mod_lt u (by decide))) ?_
        wtm_at "wp"
        refine w_addS (sz (by have : (⟨#[65 + u % 16]⟩ : Str).length = 1 := rfl; omega)) ?_
        refine ⟨u / 16, by omega, s1.trans s2, u / 16, t ++ ⟨#[65 + u % 16]⟩, _, rfl, ?_, rfl⟩
        rw [cps_append, ← et, List.append_assoc]
        rfl
      · have hu : u < 16 := by omega
        rw [CM.codeL_lt hu] at et
        wtm_at "wp"
        refine w_ixS (c := 97 + u) (by decide +kernel) (ends_at hu) ?_
        refine w_addS (sz (by have : (⟨#[97 + u]⟩ : Str).length = 1 := rfl; omega)) ?_
        have e : t ++ ⟨#[97 + u]⟩ = codeS n := str_ext (by rw [cps_append, codeS, cps_S, ← et])
        rw [e]
        exact k _ s1
    · refine ⟨v, rfl, hv, ?_⟩
      rw [hc]
      wtm_at "wp"
      exact ke
def badC (x : V) : Bool := !isCnt x
/-- a list of numbers, or the first wrong place -/
def spLookC (K : PySem.W.Frag) (Z : Zs) : Sp := fun vs H Q E => ∃ v, vs = [v] ∧
  ((∃ (a : Addr) (xs : List V), v = .ref a ∧ H a = some (.lst xs) ∧ xs.length ≤ 20000 ∧ (∀ x ∈ xs, Thg H x) ∧ (xs.findIdx? badC = none → ∀ H', Same H H' → Q .non H') ∧ (∀ j : Nat, xs.findIdx? badC = some j → Raz E H Z.NoRow (.int j))) ∨
   (NoL H v ∧ Raz E H Z.NoRow .non))
theorem find_take {xs : List V} {p : V → Bool} : ∀ {i : Nat}, i ≤ xs.length → (∀ m x, m < i → xs[m]? = some x → p x = false) → (∀ x, xs[i]? = some x → p x = true → xs.findIdx? p = some i) ∧ (i = xs.length → xs.findIdx? p = none) := by
  induction xs with
  | nil =>
    intro i hi h
    exact ⟨fun x hx => by simp at hx, fun _ => rfl⟩
  | cons y r ih =>
    intro i hi h
    cases i with
    | zero =>
      refine ⟨fun x hx hp => ?_, fun z => by simp at z⟩
      simp at hx
      subst hx
      simp [List.findIdx?_cons, hp]
    | succ i =>
      have h0 := h 0 y (by omega) rfl
      obtain ⟨h1, h2⟩ := ih (i := i) (by simpa using hi) (fun m x hm hx => h (m + 1) x (by omega) (by simpa using hx))
      refine ⟨fun x hx hp => ?_, fun z => ?_⟩
      · rw [List.findIdx?_cons, h0, h1 x (by simpa using hx) hp]
        rfl
      · rw [List.findIdx?_cons, h0, h2 (by simpa using z)]
        rfl
/-- the codes of numbers in turn -/
def joinC (ns : List Nat) : Str := S (ns.map CM.codeL).flatten
abbrev nV (n : Nat) : V := .int n
def spJoinC (K : PySem.W.Frag) : Sp := fun vs H Q _ => ∃ (a : Addr) (ns : List Nat), vs = [.ref a] ∧ SqL K H a (ns.map nV) ∧ ns.length ≤ 20000 ∧ (∀ n ∈ ns, n < 16 ^ 201) ∧ ∀ H', Same H H' → Q (.str (joinC ns)) H'
theorem tl_joinC : ∀ ns : List Nat, (Str.join "" (ns.map codeS)).cps.toList = (ns.map CM.codeL).flatten
  | [] => rfl
  | [n] => by
    show (codeS n).cps.toList = _
    simp [codeS, cps_S]
  | n :: m :: r => by
    show (codeS n ++ "" ++ Str.join "" ((m :: r).map codeS)).cps.toList = _
    rw [cps_append, cps_append, tl_joinC (m :: r)]
    simp [codeS, cps_S]
    rfl
theorem join_codes (ns : List Nat) : Txt.join "" (ns.map codeS) = joinC ns := by
  rw [txt_join]
  exact str_ext (by rw [tl_joinC]; rfl)
theorem sum_le {c : Nat} : ∀ {l : List Nat}, (∀ x ∈ l, x ≤ c) → l.sum ≤ l.length * c
  | [], _ => by simp
  | y :: r, h => by
    have h1 := h y List.mem_cons_self
    have h2 := sum_le (l := r) (fun x hx => h x (List.mem_cons_of_mem _ hx))
    simp only [List.sum_cons, List.length_cons, Nat.add_mul, Nat.one_mul]
    omega
theorem codes_sum {ns : List Nat} (h : ∀ n ∈ ns, n < 16 ^ 201) : ((ns.map codeS).map (·.length)).sum ≤ ns.length * 201 := by
  have := sum_le (l := (ns.map codeS).map (·.length)) (c := 201) (fun x hx => by
    rw [List.map_map] at hx
    obtain ⟨n, hn, rfl⟩ := List.mem_map.mp hx
    show (S (CM.codeL n)).length ≤ 201
    rw [len_S]
    exact CM.codeL_len (k := 200) (h n hn))
  rwa [List.length_map, List.length_map] at this
theorem ok_joinc {f : Addr} {fd : FuncData} (F : Fun K "joined_codes" "joined_codes" s_joined_codes f fd) (T : Txt K mg Z C_CodeReader C_Block C_Row C_Walker) (f_code : FnX P w K mg base "code" 3 ["number"] (spCode K Z)) : FnOk P w K mg base (L2.CX P w) 4 f fd ["numbers"] (spJoinC K) := by
  refine F.okX sc_joined_codes (fun vs H Q E h => ?_) (fun cdv A outer s H vs Q E hr h => ?_)
  · obtain ⟨a, ns, rfl, _⟩ := h
    rfl
  · obtain ⟨a, ns, rfl, hS, hl, hn, k⟩ := h
    refine ⟨_, (pss_one (ps_ret (pe_join pe_str (pe_lc (own := [("number", 1)]) (g := gName 1) (tt := tYes) rfl sc_joined_codes.nd (show PI _ _ _ (iList K _) from (pi_list (pv 0))) (blkOk_by (own := [("number", 1)]) (N := ["numbers", "number"]) (sc := defScope s_joined_codes) (by decide +kernel)) (fun _ _ _ _ _ => pg_name (i := 1) sc_joined_codes.nd rfl (Or.inl rfl)) (fun _ _ _ _ _ => pts_nil) (fun _ _ _ _ _ => (pe_fx f_code lets0 (hr.mono (by omega)) rfl (pa_cons (pv 1) pa_nil))))))), ?_⟩
    wtm_at "w0"
    wtm_at "wp"
    refine lc_fin (fin_list (xs := ns.map nV)) (fun i acc H' => Same H H' ∧ acc = ((ns.take i).map codeS).map V.str) (fun D H2 nD s2 hD => ⟨s2, rfl⟩) (fun i acc H2 _ h => h.1.seq hS) ?_ ?_
    · rintro D i v acc H3 H4 nD hi ha ⟨s3, e3⟩ hD ⟨rfl, hv⟩
      rw [List.length_map] at hi
      rw [List.getElem?_map] at hv
      obtain ⟨n, hnw, rfl⟩ := Option.map_eq_some_iff.mp hv
      wtm_at "wp"
      refine ⟨rfl, ?_⟩
      wtm_at "wp"
      refine ⟨_, rfl, .inl ⟨n, rfl, hn n (List.mem_of_getElem? hnw), fun H5 s5 => ?_⟩⟩
      refine w_acc (s5 _ _ hD) ha hi (sz (by omega)) (fun H6 k6 h6 => ⟨k6.same (s3.trans s5) nD, ?_⟩)
      rw [e3, take_succL hnw]
      simp
    · rintro D acc H3 nD ⟨s3, e3⟩ ha hD
      rw [List.length_map, List.take_length] at e3
      have hs := codes_sum hn
      wtm_at "wp"
      refine w_join e3 (.of hD) (by have : ("" : Str).length = 0 := rfl; rw [this]; omega) ?_
      rw [join_codes]
      exact k _ s3

end
end K16

namespace K16
abbrev s_CodeReader___init__ : Stmt := inClass (topS 38) 0
theorem sc_CodeReader___init__ : FnScope ["self", "text"] ["self", "text"] (defScope s_CodeReader___init__) := ⟨rfl, rfl, rfl, by decide +kernel, rfl, by decide +kernel, by decide +kernel⟩
abbrev s_CodeReader_is_done : Stmt := inClass (topS 38) 1
theorem sc_CodeReader_is_done : FnScope ["self"] ["self"] (defScope s_CodeReader_is_done) := ⟨rfl, rfl, rfl, by decide +kernel, rfl, by decide +kernel, by decide +kernel⟩
abbrev s_CodeReader_next_number : Stmt := inClass (topS 38) 2
theorem sc_CodeReader_next_number : FnScope ["self", "begin", "told", "scale", "sign"] ["self"] (defScope s_CodeReader_next_number) := ⟨rfl, rfl, rfl, by decide +kernel, rfl, by decide +kernel, by decide +kernel⟩
section
variable {P : Program} {w : World} {K : PySem.W.Frag} {mg : Str → Option Value} {base : Heap} {Z : Zs} {C_CodeReader C_Block C_Row C_Walker : Addr}
/-- a reader of a text, at a place -/
def Rd (C : Addr) (H : Hp) (r : Addr) (x : Str) (i : Nat) : Prop := ∃ d, H r = some (.ins C d [("text", .str x), ("at", .int i)])
theorem Rd.same {C : Addr} {H H' : Hp} {r : Addr} {x : Str} {i : Nat} (h : Rd C H r x i) (s : Same H H') : Rd C H' r x i := by
  obtain ⟨d, h⟩ := h
  exact ⟨d, s _ _ h⟩
theorem Rd.kb {C l : Addr} {H H' : Hp} {r : Addr} {x : Str} {i : Nat} (h : Rd C H r x i) (s : KB l H H') (n : r ≠ l) : Rd C H' r x i := by
  obtain ⟨d, h⟩ := h
  exact ⟨d, s _ _ h n⟩
def spRdI (C : Addr) (Z : Zs) : Sp := fun vs H Q E => ∃ (r d : Addr) (v : V), vs = [.ref r, v] ∧ H r = some (.ins C d []) ∧ ((∃ x, v = .str x ∧ ∀ H', KB r H H' → Rd C H' r x 0 → Q .non H') ∨ (Odd H v ∧ Raz E H Z.NoCode .non))
theorem ok_rdi {f : Addr} {fd : FuncData} (F : Fun K "__init__" "CodeReader.__init__" s_CodeReader___init__ f fd) (T : Txt K mg Z C_CodeReader C_Block C_Row C_Walker) (x0_NoCode : Xcl P w K mg base "NoCode" Z.NoCode 1 "at" [.non]) : FnOk P w K mg base (L2.CX P w) 3 f fd ["self", "text"] (spRdI C_CodeReader Z) := by
  have c1 := T.cl_CodeReader
  have n1 := T.na_CodeReader_text
  have n2 := T.na_CodeReader_at
  refine F.okX sc_CodeReader___init__ (fun vs H Q E h => ?_) (fun cdv A outer s H vs Q E hr h => ?_)
  · obtain ⟨r, d, v, rfl, _⟩ := h
    rfl
  · obtain ⟨r, d, v, rfl, hrr, h⟩ := h
    refine ⟨_, (pss_cons (ps_if (pt_not (pt_val (pe_callB call_isi (by rfl) T.n_isinstance PyProof.Rows.boot_isinstance (pa_cons (pv 1) (pa_cons (pe_bltn (v := .ty "str") (by rfl) T.n_str PyProof.Rows.boot_str rfl) pa_nil)))))
 (pss_one (ps_raise rfl takesX (pmk_x0 x0_NoCode (hr.mono (by omega)) rfl)))
 pss_nil)
 (pss_cons (ps_fld (pv 0) (pv 1) rfl)
 (pss_one (ps_fld (pv 0) pe_int rfl)))), ?_⟩
    wtm_at "w0"
    rcases h with ⟨x, rfl, k⟩ | ⟨hv, ke⟩
    · wtm_at "wp"
      rename_i H1 k1 e1 H2 k2 e2
      exact k _ (k1.trans k2) ⟨d, e2⟩
    · obtain ⟨_, tv, ht, hk⟩ := hv.ty (K := K)
      wtm_at "wp"
      refine w_isiB ht hk ?_
      wtm_at "wp"
      intro d H2 nd s2 hd
      exact ke d H2 nd s2 hd
def spDone (C : Addr) : Sp := fun vs H Q _ => ∃ (r : Addr) (x : Str) (i : Nat), vs = [.ref r] ∧ Rd C H r x i ∧ x.length ≤ 50000 ∧ Q (.bl (decide (i = x.length))) H
theorem ok_done {f : Addr} {fd : FuncData} (F : Fun K "is_done" "CodeReader.is_done" s_CodeReader_is_done f fd) (T : Txt K mg Z C_CodeReader C_Block C_Row C_Walker) : FnOk P w K mg base CX0 1 f fd ["self"] (spDone C_CodeReader) := by
  have c1 := T.cl_CodeReader
  have n1 := T.na_CodeReader_text
  have n2 := T.na_CodeReader_at
  refine F.ok sc_CodeReader_is_done (fun vs H Q E h => ?_) (fun cdv A outer s H vs Q E hr h => ?_)
  · obtain ⟨r, x, i, rfl, _⟩ := h
    rfl
  · obtain ⟨r, x, i, rfl, ⟨d, hd⟩, hl, k⟩ := h
    refine ⟨_, (pss_one (ps_ret (pe_cmpR op_eq (pe_fld (pv 0) rfl) (pe_callB cl_len (by rfl) T.n_len PySem.boot_len (pa_cons (pe_fld (pv 0) rfl) pa_nil)) (nomark _)))), ?_⟩
    wtm_at "w0"
    wtm_at "wp"
    have e : decide (V.int (i : Int) = V.int (x.length : Int)) = decide (i = x.length) := by
      by_cases h : i = x.length
      · rw [decide_eq_true h, decide_eq_true (by rw [h])]
      · rw [decide_eq_false h, decide_eq_false (fun z => h (by have := V.int.inj z; omega))]
    rw [e]
    exact k
theorem cut_one {x : Str} {i : Nat} {c : Nat} {r : List Nat} (h : x.cps.toList.drop i = c :: r) : cutS x (some (i : Int)) (some ((i : Int) + 1)) = ⟨#[c]⟩ := by
  have hl : i < x.length := by
    rw [← len_cps]
    apply Nat.lt_of_not_le
    intro z
    rw [List.drop_eq_nil_of_le z] at h
    cases h
  have h1 : HT.sIx x.length 0 (some (i : Int)) = i := by
    unfold HT.sIx
    simp only
    split <;> omega
  have h2 : HT.sIx x.length x.length (some ((i : Int) + 1)) = i + 1 := by
    unfold HT.sIx
    simp only
    split <;> omega
  unfold cutS
  rw [h1, h2, h]
  have : i + 1 - i = 1 := by omega
  rw [this]
  rfl
theorem cut_end {x : Str} : cutS x (some (x.length : Int)) (some ((x.length : Int) + 1)) = "" := by
  have h1 : HT.sIx x.length 0 (some (x.length : Int)) = x.length := by
    unfold HT.sIx
    simp only
    split <;> omega
  unfold cutS
  rw [h1, List.drop_eq_nil_of_le (by rw [len_cps]; exact Nat.le_refl _), List.take_nil]
  rfl

theorem mem_ends {c : Nat} : c ∈ endsS.cps.toList ↔ 97 ≤ c ∧ c ≤ 112 := by
  rw [ends_l, List.mem_map]
  constructor
  · rintro ⟨a, h, rfl⟩
    have := List.mem_range.mp h
    omega
  · intro h
    exact ⟨c - 97, List.mem_range.mpr (by omega), by omega⟩
theorem mem_fur {c : Nat} : c ∈ furS.cps.toList ↔ 65 ≤ c ∧ c ≤ 80 := by
  rw [fur_l, List.mem_map]
  constructor
  · rintro ⟨a, h, rfl⟩
    have := List.mem_range.mp h
    omega
  · intro h
    exact ⟨c - 65, List.mem_range.mpr (by omega), by omega⟩
theorem occ_ends : ∀ d < 16, Builtin.Str.occurrences endsS ⟨#[97 + d]⟩ 0 endsS.length 1 = [d] := by decide +kernel
theorem occ_fur : ∀ d < 16, Builtin.Str.occurrences furS ⟨#[65 + d]⟩ 0 furS.length 1 = [d] := by decide +kernel
def spNext (C : Addr) (Z : Zs) : Sp := fun vs H Q E => ∃ (r : Addr) (x : Str) (i : Nat), vs = [.ref r] ∧ Rd C H r x i ∧ x.length ≤ 20000 ∧ i ≤ x.length ∧
  (∀ n j, CM.rdNum (x.cps.toList.drop i) i 0 1 true = .ok (n, j) → ∀ H', KB r H H' → Rd C H' r x j → Q (.int n) H') ∧
  (∀ k, CM.rdNum (x.cps.toList.drop i) i 0 1 true = .error k → ∀ d H', H d = none → KB r H H' → H' d = some (.xd [("at", .int k)]) → E (.ref Z.NoCode) (some d) H')
theorem ok_next {f : Addr} {fd : FuncData} (F : Fun K "next_number" "CodeReader.next_number" s_CodeReader_next_number f fd) (T : Txt K mg Z C_CodeReader C_Block C_Row C_Walker) (x1_NoCode : Xcl P w K mg base "NoCode" Z.NoCode 1 "at" []) : FnOk P w K mg base (L2.CX P w) 3 f fd ["self"] (spNext C_CodeReader Z) := by
  have c1 := T.cl_CodeReader
  have n1 := T.na_CodeReader_text
  have n2 := T.na_CodeReader_at
  refine F.okX sc_CodeReader_next_number (fun vs H Q E h => ?_) (fun cdv A outer s H vs Q E hr h => ?_)
  · obtain ⟨r, x, i, rfl, _⟩ := h
    rfl
  · obtain ⟨r, x, i0, rfl, ⟨d, hd⟩, hl, hi0, k, ke⟩ := h
    refine ⟨_, (pss_cons (ps_set (i := 1) sc_CodeReader_next_number.nd rfl (.inl rfl) (pe_fld (pv 0) rfl))
 (pss_cons (ps_asg (pe_tup (pa_cons pe_int (pa_cons pe_int pa_nil))) (pg_tup rfl (pgs_cons (pg_name (i := 2) sc_CodeReader_next_number.nd rfl (.inl rfl)) (pgs_cons (pg_name (i := 3) sc_CodeReader_next_number.nd rfl (.inl rfl)) pgs_nil))))
 (pss_one (ps_while (passes_of rfl) (pt_val pe_bl)
 (pss_cons (ps_set (i := 4) sc_CodeReader_next_number.nd rfl (.inl rfl) (pe_slice sl_str (pe_fld (pv 0) rfl) (po_some (pe_fld (pv 0) rfl)) (po_some (pe_op op_add (pe_fld (pv 0) rfl) pe_int))))
 (pss_cons (ps_if (PW.pt (pw_or (pt_cmpR op_eq (pv 4) pe_str (nomark _)) (pw_or (pt_cmpR op_notInS (pv 4) (pe_op op_addS (pe_gstr T.c_ENDS rfl) (pe_gstr T.c_FURTHER rfl)) (by rfl)) (pw_or1 (PW.pt (pw_and (pt_cmpR op_eq (pv 4) (pe_ix ix_str (pe_gstr T.c_ENDS rfl) pe_int (fun _ _ => rfl)) (nomark _)) (pw_and1 (pt_cmpR op_gt (pe_fld (pv 0) rfl) (pv 1) (nomark _)))))))))
 (pss_one (ps_raise rfl takesX (pmk_x x1_NoCode (hr.mono (by omega)) rfl (pa_cons (pe_fld (pv 0) rfl) pa_nil) monoF)))
 pss_nil)
 (pss_cons (ps_fldaug (pv 0) pe_int in_add)
 (pss_cons (ps_if (pt_cmpR op_inS (pv 4) (pe_gstr T.c_ENDS rfl) (by rfl))
 (pss_one (ps_ret (pe_op op_add (pv 2) (pe_op op_mulU (pv 3) (pe_m1 PySem.F.slot_str_index PySem.F.type_str_index mt_sidx (pe_gstr T.c_ENDS rfl) (pv 4))))))
 pss_nil)
 (pss_cons (ps_aug (i := 2) sc_CodeReader_next_number.nd rfl (.inl rfl) (pe_op op_mulU (pv 3) (pe_m1 PySem.F.slot_str_index PySem.F.type_str_index mt_sidx (pe_gstr T.c_FURTHER rfl) (pv 4))) ip_add)
 (pss_one (ps_aug (i := 3) sc_CodeReader_next_number.nd rfl (.inl rfl) (pe_gint T.c_BASE rfl) ip_mulU))))))))))), ?_⟩
    wtm_at "w0"
    wtm_at "wp"
    rename_i pt nt HT st ht
    have nrt : r ≠ pt := ne_of_none hd nt
    refine ⟨fun m σ H' => ∃ (i told scale : Nat) (sg : Option V), σ = [some (.ref r), some (.int i0), some (.int told), some (.int scale), sg] ∧ KB r H H' ∧ H' r = some (.ins C_CodeReader d [("text", .str x), ("at", .int i)]) ∧ CM.rdNum (x.cps.toList.drop i) i told scale (decide (i = i0)) = CM.rdNum (x.cps.toList.drop i0) i0 0 1 true ∧ i0 ≤ i ∧ i ≤ x.length ∧ m = x.length - i, ⟨x.length - i0, i0, 0, 1, _, rfl, KB.of st, st _ _ hd, by rw [decide_eq_true rfl], Nat.le_refl _, hi0, rfl⟩, ?_⟩
    rintro m σ H1 ⟨i, told, scale, sg, rfl, kb1, h1, e1, hi1, hi2, rfl⟩
    wtm_at "wp"
    refine w_loopT ?_
    wtm_at "wp"
    cases hc : x.cps.toList.drop i with
    | nil =>
      have hi : i = x.length := by
        have := List.drop_eq_nil_iff.mp hc
        rw [len_cps] at this
        omega
      rw [hc, CM.rdNum] at e1
      subst hi
      rw [cut_end]
      wtm_at "wp"
      intro d2 H2 nd2 s2 hd2
      exact ke _ e1.symm d2 H2 (kb_newD kb1 h1 nd2) (kb1.trans (KB.of s2)) hd2
    | cons c rest =>
      have hi : i < x.length := by
        rw [← len_cps]
        apply Nat.lt_of_not_le
        intro z
        rw [List.drop_eq_nil_of_le z] at hc
        cases hc
      rw [hc, CM.rd_cons] at e1
      rw [cut_one hc]
      wtm_at "wp"
      have hraise : (CM.rdNum (x.cps.toList.drop i0) i0 0 1 true = .error i) → ∀ d2 H2, H1 d2 = none → Same H1 H2 → H2 d2 = some (.xd [("at", .int (i : Int))]) → E (.ref Z.NoCode) (some d2) H2 := fun e d2 H2 nd2 s2 hd2 => ke _ e d2 H2 (kb_newD kb1 h1 nd2) (kb1.trans (KB.of s2)) hd2
      refine w_addS (sz (by decide +kernel)) ?_
      wtm_at "wp"
      have hmem : (c ∈ (("abcdefghijklmnop" : Str) ++ ("ABCDEFGHIJKLMNOP" : Str)).cps.toList) ↔ (c ∈ endsS.cps.toList ∨ c ∈ furS.cps.toList) := by
        rw [cps_append, List.mem_append]
        rfl
      have hcnxt : x.cps.toList.drop (i + 1) = rest := CM.drop_next hc
      have hatI : ((i : Int) + 1) = ((i + 1 : Nat) : Int) := by omega
      have h97 : (V.str ⟨#[c]⟩ = V.str ⟨#[97]⟩) ↔ c = 97 := by
        constructor
        · intro z
          have := congrArg (fun y : Str => y.cps.toList) (V.str.inj z)
          simpa using this
        · intro z
          rw [z]
      cases he : CM.eIx c with
      | some dg =>
        obtain ⟨hcd, hdg⟩ := CM.eIx_some he
        have hin : c ∈ endsS.cps.toList := mem_ends.mpr (by omega)
        rw [decide_eq_true (hmem.mpr (.inl hin))]
        wtm_at "wp"
        refine w_ixS (c := 97) (by decide +kernel) (by decide +kernel) ?_
        rw [he] at e1
        simp only at e1
        subst hcd
        have fin : ∀ H2, KB r H1 H2 → H2 r = some (.ins C_CodeReader d [("text", .str x), ("at", .int ((i : Int) + 1))]) → CM.rdNum (x.cps.toList.drop i0) i0 0 1 true = .ok (told + scale * dg, i + 1) → Q (.int ((told : Int) + (scale : Int) * (dg : Int))) H2 := fun H2 k2 h2 e => by
          have := k _ _ e H2 (kb1.trans k2) ⟨d, hatI ▸ h2⟩
          rwa [Int.natCast_add, Int.natCast_mul] at this
        have hm : CMulU (scale : Int) (dg : Int) := mulR (by rw [Int.natAbs_natCast]; omega)
        refine w_eq rfl ?_
        wtm_at "wp"
        refine w_dec (fun z => ?_) (fun z => ?_)
        · have hd0 : dg = 0 := by have := h97.mp z; omega
          wtm_at "wp"
          refine w_dec (fun z2 => ?_) (fun z2 => ?_)
          · wtm_at "wp"
            rw [if_pos ⟨hd0, decide_eq_false (by omega)⟩] at e1
            intro d2 H2 nd2 s2 hd2
            exact hraise e1.symm d2 H2 nd2 s2 hd2
          · rw [if_neg (fun y => by have := of_decide_eq_false y.2; omega)] at e1
            wtm_at "wp"
            rename_i H2 k2 h2
            refine iteT' (decide_eq_true hin) ?_
            wtm_at "wp"
            refine w_sidx (occ_ends dg hdg) ?_
            wtm_at "wp"
            exact fin _ k2 h2 e1.symm
        · rw [if_neg (fun y => z (h97.mpr (by omega)))] at e1
          wtm_at "wp"
          rename_i H2 k2 h2
          refine iteT' (decide_eq_true hin) ?_
          wtm_at "wp"
          refine w_sidx (occ_ends dg hdg) ?_
          wtm_at "wp"
          exact fin _ k2 h2 e1.symm
      | none =>
        rw [he] at e1
        simp only at e1
        have hnin : ¬ c ∈ endsS.cps.toList := fun z => by
          have h := mem_ends.mp z
          unfold CM.eIx at he
          rw [if_pos h] at he
          cases he
        cases hf : CM.fIx c with
        | none =>
          rw [hf] at e1
          simp only at e1
          have hnf : ¬ c ∈ furS.cps.toList := fun z => by
            have h := mem_fur.mp z
            unfold CM.fIx at hf
            rw [if_pos h] at hf
            cases hf
          rw [decide_eq_false (fun z => (hmem.mp z).elim hnin hnf)]
          wtm_at "wp"
          intro d2 H2 nd2 s2 hd2
          exact hraise e1.symm d2 H2 nd2 s2 hd2
        | some dg =>
          rw [hf] at e1
          simp only at e1
          obtain ⟨hcd, hdg⟩ := CM.fIx_some hf
          rw [decide_eq_true (hmem.mpr (.inr (mem_fur.mpr (by omega))))]
          wtm_at "wp"
          refine w_ixS (c := 97) (by decide +kernel) (by decide +kernel) ?_
          refine w_eq rfl ?_
          wtm_at "wp"
          rw [decide_eq_false (fun z => by have := h97.mp z; omega)]
          wtm_at "wp"
          rename_i H2 k2 h2
          refine iteF' (decide_eq_false hnin) ?_
          wtm_at "wp"
          subst hcd
          have hm : CMulU (scale : Int) (dg : Int) := mulR (by rw [Int.natAbs_natCast]; omega)
          refine w_sidx (occ_fur dg hdg) ?_
          wtm_at "wp"
          refine ⟨x.length - (i + 1), by omega, i + 1, told + scale * dg, scale * 16, some (.str ⟨#[65 + dg]⟩), ?_, kb1.trans k2, hatI ▸ h2, ?_, by omega, by omega, rfl⟩
          · rw [Int.natCast_add, Int.natCast_mul, Int.natCast_mul]
            rfl
          · rw [← e1, decide_eq_false (by omega), hcnxt]

end
end K16

namespace K16
section
variable {P : Program} {w : World} {K : PySem.W.Frag} {mg : Str → Option Value} {base : Heap} {Z : Zs} {C_CodeReader C_Block C_Row C_Walker : Addr}
abbrev s_gaps : Stmt := topS 39
theorem sc_gaps : FnScope ["numbers", "last", "told", "number"] ["numbers"] (defScope s_gaps) := ⟨rfl, rfl, rfl, by decide +kernel, rfl, by decide +kernel, by decide +kernel⟩
abbrev s_CodeReader_rising : Stmt := inClass (topS 38) 3
theorem sc_CodeReader_rising : FnScope ["self", "many", "told", "last"] ["self", "many"] (defScope s_CodeReader_rising) := ⟨rfl, rfl, rfl, by decide +kernel, rfl, by decide +kernel, by decide +kernel⟩
abbrev s_is_rising : Stmt := topS 40
theorem sc_is_rising : FnScope ["numbers", "number", "one", "other"] ["numbers"] (defScope s_is_rising) := ⟨rfl, rfl, rfl, by decide +kernel, rfl, by decide +kernel, by decide +kernel⟩
abbrev s_is_entry : Stmt := topS 41
theorem sc_is_entry : FnScope ["thing"] ["thing"] (defScope s_is_entry) := ⟨rfl, rfl, rfl, by decide +kernel, rfl, by decide +kernel, by decide +kernel⟩
def spGaps (K : PySem.W.Frag) : Sp := fun vs H Q _ => ∃ (a : Addr) (ns : List Nat), vs = [.ref a] ∧ (SqL K H a (ns.map nV) ∨ SqT K H a (ns.map nV)) ∧ CM.Rising 0 ns ∧ ns.length ≤ 20000 ∧ ∀ p H', H p = none → Same H H' → H' p = some (.lst ((CM.gapsN 0 ns).map nV)) → Q (.ref p) H'
theorem ok_gaps {f : Addr} {fd : FuncData} (F : Fun K "gaps" "gaps" s_gaps f fd) (T : Txt K mg Z C_CodeReader C_Block C_Row C_Walker) : FnOk P w K mg base CX0 1 f fd ["numbers"] (spGaps K) := by
  refine F.ok sc_gaps (fun vs H Q E h => ?_) (fun cdv A outer s H vs Q E hr h => ?_)
  · obtain ⟨a, ns, rfl, _⟩ := h
    rfl
  · obtain ⟨a, ns, rfl, hS, hR, hl, k⟩ := h
    rcases hS with hS | hS
    · refine ⟨_, (pss_cons (ps_set (i := 1) sc_gaps.nd rfl (.inl rfl) (pe_un un_neg pe_int))
 (pss_cons (ps_set (i := 2) sc_gaps.nd rfl (.inl rfl) (pe_lst pa_nil))
 (pss_cons (ps_for PassesOwn.never rfl (pi_list (pv 0)) (pg_name (i := 3) sc_gaps.nd rfl (.inl rfl))
 (pss_cons (ps_expr (pe_bm PySem.F.plainAttrs_list PySem.F.slot_list_append PySem.F.type_list_append mt_append (pv 2) (pa_cons (pe_op op_sub (pe_op op_sub (pv 3) (pv 1)) pe_int) pa_nil)))
 (pss_one (ps_set (i := 1) sc_gaps.nd rfl (.inl rfl) (pv 3)))))
 (pss_one (ps_ret (pv 2)))))), ?_⟩
      wtm_at "w0"
      wtm_at "wp"
      rename_i l nl H1 s1 h1
      refine for_fin (fin_list (xs := ns.map nV)) (fun i σ H' => ∃ (v3 : Option V), σ = [some (.ref a), some (.int ((CM.nextB 0 (ns.take i) : Nat) - 1)), some (.ref l), v3] ∧ Same H H' ∧ H' l = some (.lst ((CM.gapsN 0 (ns.take i)).map nV))) ⟨_, rfl, s1, h1⟩ (fun i σ H' _ h => by obtain ⟨_, _, h, _⟩ := h; exact h.seq hS) ?_ ?_
      · rintro i x σ H2 H2' hi ⟨v3, rfl, s2, h2⟩ ⟨rfl, hx⟩
        rw [List.length_map] at hi
        rw [List.getElem?_map] at hx
        obtain ⟨n, hn, rfl⟩ := Option.map_eq_some_iff.mp hx
        have hle := CM.rising_at hR hn
        wtm_at "wp"
        refine w_append h2 (Nat.lt_of_le_of_lt (by rw [List.length_map, CM.gaps_len, List.length_take]; omega : _ ≤ 20000) (by decide)) (fun H3 k3 h3 => ?_)
        wtm_at "wp"
        have et : ns.take (i + 1) = ns.take i ++ [n] := take_succL hn
        refine ⟨some (.int n), ?_, k3.same s2 nl, ?_⟩
        · rw [et, CM.nextB_snoc]
          have : (((n + 1 : Nat) : Int) - 1) = (n : Int) := by omega
          rw [this]
          rfl
        · rw [h3, et, CM.gaps_snoc, List.map_append]
          have : (n : Int) - ((CM.nextB 0 (ns.take i) : Nat) - 1) - 1 = ((n - CM.nextB 0 (ns.take i) : Nat) : Int) := by omega
          rw [this]
          rfl
      · rintro σ H2 ⟨v3, rfl, s2, h2⟩
        rw [List.length_map, List.take_length] at h2
        wtm_at "wp"
        exact k l _ nl s2 h2
    · refine ⟨_, (pss_cons (ps_set (i := 1) sc_gaps.nd rfl (.inl rfl) (pe_un un_neg pe_int))
 (pss_cons (ps_set (i := 2) sc_gaps.nd rfl (.inl rfl) (pe_lst pa_nil))
 (pss_cons (ps_for PassesOwn.never rfl (pi_tup (pv 0)) (pg_name (i := 3) sc_gaps.nd rfl (.inl rfl))
 (pss_cons (ps_expr (pe_bm PySem.F.plainAttrs_list PySem.F.slot_list_append PySem.F.type_list_append mt_append (pv 2) (pa_cons (pe_op op_sub (pe_op op_sub (pv 3) (pv 1)) pe_int) pa_nil)))
 (pss_one (ps_set (i := 1) sc_gaps.nd rfl (.inl rfl) (pv 3)))))
 (pss_one (ps_ret (pv 2)))))), ?_⟩
      wtm_at "w0"
      wtm_at "wp"
      rename_i l nl H1 s1 h1
      refine for_fin (fin_tup (xs := ns.map nV)) (fun i σ H' => ∃ (v3 : Option V), σ = [some (.ref a), some (.int ((CM.nextB 0 (ns.take i) : Nat) - 1)), some (.ref l), v3] ∧ Same H H' ∧ H' l = some (.lst ((CM.gapsN 0 (ns.take i)).map nV))) ⟨_, rfl, s1, h1⟩ (fun i σ H' _ h => by obtain ⟨_, _, h, _⟩ := h; exact extn_tup (extn_same h) hS) ?_ ?_
      · rintro i x σ H2 H2' hi ⟨v3, rfl, s2, h2⟩ ⟨rfl, hx⟩
        rw [List.length_map] at hi
        rw [List.getElem?_map] at hx
        obtain ⟨n, hn, rfl⟩ := Option.map_eq_some_iff.mp hx
        have hle := CM.rising_at hR hn
        wtm_at "wp"
        refine w_append h2 (Nat.lt_of_le_of_lt (by rw [List.length_map, CM.gaps_len, List.length_take]; omega : _ ≤ 20000) (by decide)) (fun H3 k3 h3 => ?_)
        wtm_at "wp"
        have et : ns.take (i + 1) = ns.take i ++ [n] := take_succL hn
        refine ⟨some (.int n), ?_, k3.same s2 nl, ?_⟩
        · rw [et, CM.nextB_snoc]
          have : (((n + 1 : Nat) : Int) - 1) = (n : Int) := by omega
          rw [this]
          rfl
        · rw [h3, et, CM.gaps_snoc, List.map_append]
          have : (n : Int) - ((CM.nextB 0 (ns.take i) : Nat) - 1) - 1 = ((n - CM.nextB 0 (ns.take i) : Nat) : Int) := by omega
          rw [this]
          rfl
      · rintro σ H2 ⟨v3, rfl, s2, h2⟩
        rw [List.length_map, List.take_length] at h2
        wtm_at "wp"
        exact k l _ nl s2 h2
/-- what is read further -/
def cont (gs : List Nat) : Except Nat (List Nat × Nat) → Except Nat (List Nat × Nat)
  | .ok (ns, j) => .ok (gs ++ ns, j)
  | .error e => .error e
def spRise (C : Addr) (Z : Zs) : Sp := fun vs H Q E => ∃ (r : Addr) (x : Str) (i many : Nat), vs = [.ref r, .int many] ∧ Rd C H r x i ∧ x.length ≤ 20000 ∧ i ≤ x.length ∧
  (∀ gs j, CM.rdMany x.cps.toList many i = .ok (gs, j) → ∀ l H', H l = none → KB r H H' → H' l = some (.lst ((CM.unGap 0 gs).map nV)) → Rd C H' r x j → Q (.ref l) H') ∧
  (∀ k : Nat, CM.rdMany x.cps.toList many i = .error k → ∀ d H', H d = none → KB r H H' → H' d = some (.xd [("at", .int k)]) → E (.ref Z.NoCode) (some d) H')
theorem ok_rise {f : Addr} {fd : FuncData} (F : Fun K "rising" "CodeReader.rising" s_CodeReader_rising f fd) (T : Txt K mg Z C_CodeReader C_Block C_Row C_Walker) (me_CodeReader_next_number : MeX P w K mg base C_CodeReader "next_number" 3 ["self"] (spNext C_CodeReader Z)) : FnOk P w K mg base (L2.CX P w) 4 f fd ["self", "many"] (spRise C_CodeReader Z) := by
  have c1 := T.cl_CodeReader
  refine F.okX sc_CodeReader_rising (fun vs H Q E h => ?_) (fun cdv A outer s H vs Q E hr h => ?_)
  · obtain ⟨r, x, i, many, rfl, _⟩ := h
    rfl
  · obtain ⟨r, x, i0, many, rfl, hR, hl, hi0, k, ke⟩ := h
    refine ⟨_, (pss_cons (ps_set (i := 2) sc_CodeReader_rising.nd rfl (.inl rfl) (pe_lst pa_nil))
 (pss_cons (ps_set (i := 3) sc_CodeReader_rising.nd rfl (.inl rfl) (pe_un un_neg pe_int))
 (pss_cons (ps_while (passes_of rfl) (pt_cmpR op_lt (pe_callB cl_len (by rfl) T.n_len PySem.boot_len (pa_cons (pv 2) pa_nil)) (pv 1) (nomark _))
 (pss_cons (ps_aug (i := 3) sc_CodeReader_rising.nd rfl (.inl rfl) (pe_op op_add pe_int (pe_mex0 (pv 0) T.cl_CodeReader me_CodeReader_next_number (lets_of takesX) (hr.mono (by omega)))) ip_add)
 (pss_one (ps_expr (pe_bm PySem.F.plainAttrs_list PySem.F.slot_list_append PySem.F.type_list_append mt_append (pv 2) (pa_cons (pv 3) pa_nil))))))
 (pss_one (ps_ret (pv 2)))))), ?_⟩
    wtm_at "w0"
    wtm_at "wp"
    rename_i l nl H3 s3 h3
    have h2l : r ≠ l := by
      obtain ⟨d, h2⟩ := hR
      exact ne_of_none h2 nl
    refine ⟨fun m σ H' => ∃ (i : Nat) (gs : List Nat), σ = [some (.ref r), some (.int many), some (.ref l), some (.int ((CM.nextB 0 (CM.unGap 0 gs) : Nat) - 1))] ∧ KB r H H' ∧ H' l = some (.lst ((CM.unGap 0 gs).map nV)) ∧ Rd C_CodeReader H' r x i ∧ i ≤ x.length ∧ gs.length ≤ i ∧ gs.length ≤ many ∧ CM.rdMany x.cps.toList many i0 = cont gs (CM.rdMany x.cps.toList (many - gs.length) i) ∧ m = many - gs.length, ⟨many, i0, [], rfl, KB.of s3, h3, hR.same s3, hi0, by simp, by simp, ?_, rfl⟩, ?_⟩
    · show _ = cont [] (CM.rdMany x.cps.toList many i0)
      cases CM.rdMany x.cps.toList many i0 with
      | ok q => rfl
      | error e => rfl
    rintro m σ H4 ⟨i, gs, rfl, k4, h4, r4, hi, ha, hg, e4, rfl⟩
    have r4' := r4
    obtain ⟨d4, hr4⟩ := r4'
    wtm_at "wp"
    rw [List.length_map, CM.un_len]
    rcases Nat.lt_or_ge gs.length many with hlt | hge
    · rw [decide_eq_true (by omega)]
      refine w_loopT ?_
      wtm_at "wp"
      obtain ⟨q, hq⟩ : ∃ q, many - gs.length = q + 1 := ⟨many - gs.length - 1, by omega⟩
      have estep : CM.rdMany x.cps.toList (many - gs.length) i = (match CM.rdNum (x.cps.toList.drop i) i 0 1 true with
        | .error e => .error e
        | .ok (n, j) => match CM.rdMany x.cps.toList q j with
          | .error e => .error e
          | .ok (ns, j2) => .ok (n :: ns, j2)) := by rw [hq]; rfl
      refine ⟨r, x, i, rfl, r4, by omega, hi, fun n j hrd H5 k5 r5 => ?_, fun kk hrd d5 H5 nd5 k5 hd5 => ?_⟩
      · obtain ⟨hj1, hj2⟩ := CM.rd_le hrd
        rw [List.length_drop, len_cps] at hj2
        have h5 := k5 _ _ h4 h2l.symm
        wtm_at "wp"
        refine w_append h5 (Nat.lt_of_le_of_lt (by rw [List.length_map, CM.un_len]; omega : _ ≤ 20000) (by decide)) (fun H6 k6 h6 => ?_)
        refine ⟨many - (gs ++ [n]).length, by simp; omega, j, gs ++ [n], ?_, kb2 (k4.trans k5) k6 nl, ?_, r5.kb k6 h2l, by omega, by simp; omega, by simp; omega, ?_, rfl⟩
        · rw [CM.un_snoc, CM.nextB_snoc]
          have : ((CM.nextB 0 (CM.unGap 0 gs) : Nat) : Int) - 1 + (1 + (n : Int)) = ((CM.nextB 0 (CM.unGap 0 gs) + n + 1 : Nat) : Int) - 1 := by omega
          rw [this]
          rfl
        · rw [h6, CM.un_snoc, List.map_append]
          have : ((CM.nextB 0 (CM.unGap 0 gs) : Nat) : Int) - 1 + (1 + (n : Int)) = ((CM.nextB 0 (CM.unGap 0 gs) + n : Nat) : Int) := by omega
          rw [this]
          rfl
        · rw [e4, estep, hrd]
          have hq' : many - (gs ++ [n]).length = q := by simp; omega
          rw [hq']
          simp only
          cases CM.rdMany x.cps.toList q j with
          | ok z => simp [cont]
          | error e => rfl
      · refine ke kk ?_ d5 H5 ?_ (k4.trans k5) hd5
        · rw [e4, estep, hrd]
          rfl
        · obtain ⟨d0, hR0⟩ := hR
          exact kb_newD k4 hr4 nd5
    · rw [decide_eq_false (by omega)]
      wtm_at "wp"
      have h0 : many - gs.length = 0 := by omega
      refine k gs i ?_ l H4 nl k4 h4 r4
      rw [e4, h0]
      simp [CM.rdMany, cont]
def adj : List Nat → List Bool
  | a :: b :: r => decide (a < b) :: adj (b :: r)
  | _ => []
theorem adj_len : ∀ ns : List Nat, (adj ns).length = ns.length - 1
  | [] => rfl
  | [_] => rfl
  | _ :: b :: r => by
    rw [adj, List.length_cons, adj_len (b :: r)]
    simp
theorem adj_at : ∀ {ns : List Nat} {i a b : Nat}, ns[i]? = some a → ns[i + 1]? = some b → (adj ns)[i]? = some (decide (a < b))
  | [], i, a, b, h, _ => by cases h
  | [_], i, a, b, _, h => by simp at h
  | x :: y :: r, 0, a, b, h1, h2 => by
    cases h1
    cases h2
    rfl
  | x :: y :: r, i + 1, a, b, h1, h2 => by
    rw [adj, List.getElem?_cons_succ]
    exact adj_at (by simpa using h1) (by simpa using h2)
theorem adj_ris : ∀ (ns : List Nat) (a : Nat), risD (a : Int) (ns.map nD) = (adj (a :: ns)).all id
  | [], _ => rfl
  | n :: r, a => by
    rw [List.map_cons]
    show (decide ((a : Int) < (n : Int)) && risD (n : Int) (r.map nD)) = _
    rw [adj, List.all_cons, adj_ris r n]
    congr 1
    show decide ((a : Int) < (n : Int)) = decide (a < n)
    rw [decide_eq_decide]
    omega
theorem adj_ris0 : ∀ (ns : List Nat), risD (-1) (ns.map nD) = (adj ns).all id
  | [] => rfl
  | n :: r => by
    rw [List.map_cons]
    show (decide ((-1 : Int) < (n : Int)) && risD (n : Int) (r.map nD)) = _
    rw [decide_eq_true (by omega), Bool.true_and, adj_ris]
def cntD : PyData → Bool
  | .int i => decide (0 ≤ i)
  | _ => false
theorem cntD_of {H : Hp} {v : V} {d : PyData} (h : Rp H v d) : isCnt v = cntD d := by
  cases h <;> rfl
theorem cntD_all : ∀ {ps : List PyData}, ps.all cntD = true → ∃ ns : List Nat, ps = ns.map nD
  | [], _ => ⟨[], rfl⟩
  | d :: r, h => by
    rw [List.all_cons, Bool.and_eq_true] at h
    obtain ⟨ns, rfl⟩ := cntD_all h.2
    cases d with
    | int i =>
      obtain ⟨m, rfl⟩ := Int.eq_ofNat_of_zero_le (of_decide_eq_true h.1)
      exact ⟨m :: ns, rfl⟩
    | _ => cases h.1
theorem cntD_no : ∀ {ps : List PyData} {l : Int}, (-1) ≤ l → risD l ps = true → ps.all cntD = true
  | [], _, _, _ => rfl
  | d :: r, l, hl, h => by
    cases d with
    | int i =>
      unfold risD at h
      rw [Bool.and_eq_true] at h
      have h1 := of_decide_eq_true h.1
      rw [List.all_cons, cntD_no (l := i) (by omega) h.2, Bool.and_true]
      exact decide_eq_true (by omega)
    | _ => cases h
theorem rp_natsT {H : Hp} : ∀ {ns : List Nat} {xs : List V}, RpAll H xs (ns.map nD) → xs = ns.map nV
  | [], _, .nil => rfl
  | n :: r, _, .cons h t => by
    cases h
    rw [rp_natsT t]
    rfl
def spIsR (K : PySem.W.Frag) : Sp := fun vs H Q _ => ∃ (a : Addr) (xs : List V) (ps : List PyData), vs = [.ref a] ∧ H a = some (.tup xs) ∧ RpAll H xs ps ∧ 1 ≤ xs.length ∧ xs.length ≤ 1000 ∧ ∀ H', Same H H' → Q (.bl (risD (-1) ps)) H'
theorem ok_isr {f : Addr} {fd : FuncData} (F : Fun K "is_rising" "is_rising" s_is_rising f fd) (T : Txt K mg Z C_CodeReader C_Block C_Row C_Walker) (f_is_count : Fn P w K mg base "is_count" 2 ["thing"] spCount) : FnOk P w K mg base CX0 3 f fd ["numbers"] (spIsR K) := by
  refine F.ok sc_is_rising (fun vs H Q E h => ?_) (fun cdv A outer s H vs Q E hr h => ?_)
  · obtain ⟨a, xs, ps, rfl, _⟩ := h
    rfl
  · obtain ⟨a, xs, ps, rfl, ha, rr, hl1, hl, k⟩ := h
    have hlen := rr.length
    refine ⟨_, (pss_cons (ps_if (pt_not (pt_val (pe_callB (cr_all rfl) (by rfl) T.n_all PyProof.Rows.boot_all (pa_cons (pe_lc (own := [("number", 1)]) (g := gName 1) (tt := tYes) rfl sc_is_rising.nd (show PI _ _ _ (iTup K _) from (pi_tup (pv 0))) (blkOk_by (own := [("number", 1)]) (N := ["numbers", "number", "one", "other"]) (sc := defScope s_is_rising) (by decide +kernel)) (fun _ _ _ _ _ => pg_name (i := 1) sc_is_rising.nd rfl (Or.inl rfl)) (fun _ _ _ _ _ => pts_nil) (fun _ _ _ _ _ => (pe_fn f_is_count (hr.mono (by omega)) rfl (pa_cons (pv 1) pa_nil)))) pa_nil))))
 (pss_one (ps_ret pe_bl))
 pss_nil)
 (pss_one (ps_ret (pe_callB (cr_all rfl) (by rfl) T.n_all PyProof.Rows.boot_all (pa_cons (pe_lc (own := [("one", 2), ("other", 3)]) (g := gTup K 2 (gCons (gName 2) (gCons (gName 3) gNil))) (tt := tYes) rfl sc_is_rising.nd (RZ.pi_zipA (by rfl) T.n_zip (pa_cons (pv 0) (pa_cons (pe_slice (show SlR _ (rSlA K) from sl_tupA) (pv 0) (po_some pe_int) po_none) pa_nil))) (blkOk_by (own := [("one", 2), ("other", 3)]) (N := ["numbers", "number", "one", "other"]) (sc := defScope s_is_rising) (by decide +kernel)) (fun _ _ _ _ _ => (pg_tup rfl (pgs_cons (pg_name (i := 2) sc_is_rising.nd rfl (.inl rfl)) (pgs_cons (pg_name (i := 3) sc_is_rising.nd rfl (.inl rfl)) pgs_nil)))) (fun _ _ _ _ _ => pts_nil) (fun _ _ _ _ _ => (pe_cmpR op_lt (pv 2) (pv 3) (nomark _)))) pa_nil))))), ?_⟩
    wtm_at "w0"
    wtm_at "wp"
    refine lc_fin (fin_tup (xs := xs)) (fun i acc H' => Same H H' ∧ acc = ((ps.take i).map cntD).map V.bl) (fun D H2 nD s2 hD => ⟨s2, rfl⟩) (fun i acc H2 _ h => .of (h.1 _ _ ha)) ?_ ?_
    · rintro D i v acc H3 H4 nD hi hac ⟨s3, e3⟩ hD ⟨rfl, hv⟩
      obtain ⟨d, g1, g2⟩ := rr.at hv
      wtm_at "wp"
      refine ⟨rfl, ?_⟩
      wtm_at "wp"
      refine ⟨v, rfl, (g2.same s3).thg, ?_⟩
      refine w_acc hD hac hi (sz (by omega)) (fun H6 k6 h6 => ⟨k6.same s3 nD, ?_⟩)
      rw [e3, take_succL g1, cntD_of g2]
      simp
    · rintro D acc H3 nD ⟨s3, e3⟩ hac hD
      rw [hlen, List.take_length] at e3
      wtm_at "wp"
      refine w_all e3 (.of hD) ?_
      have ea : ((ps.map cntD).all id) = ps.all cntD := by
        rw [List.all_map]
        rfl
      rw [ea]
      cases hb : ps.all cntD with
      | false =>
        wtm_at "wp"
        have : risD (-1) ps = false := by
          cases hr' : risD (-1) ps with
          | false => rfl
          | true => rw [cntD_no (Int.le_refl _) hr'] at hb; cases hb
        rw [this] at k
        exact k _ s3
      | true =>
        obtain ⟨ns, rfl⟩ := cntD_all hb
        have ex := rp_natsT rr
        subst ex
        have ha3 := s3 _ _ ha
        rw [List.length_map] at hl1 hl
        wtm_at "wp"
        refine w_zipA ?_
        wtm_at "wp"
        refine w_slA2 (i := 1) ha3 (by rw [List.length_map]; exact hl1) (fun t4 H4 s4 h4 => ?_)
        wtm_at "wp"
        have ha4 := s4 _ _ ha3
        refine ⟨a, t4, ns.map nV, (ns.map nV).drop 1, rfl, .inr ⟨.of ha4, .of h4, ?_⟩⟩
        refine lc_fin (fin_zipT (K := K) (a := a) (b := t4) (xs := ns.map nV) (ys := (ns.map nV).drop 1) (ns.length - 1) (by simp)) (fun i acc H' => Same H4 H' ∧ acc = ((adj ns).take i).map V.bl) (fun D H2 nD s2 hD => ⟨s2, rfl⟩) (fun i acc H2 _ h => ⟨.of (h.1 _ _ ha4), .of (h.1 _ _ h4)⟩) ?_ ?_
        · rintro D i v acc H5 H6 nD hi hac ⟨s5, e5⟩ hD ⟨tt, x, y, rfl, nT, sT, hT, hx, hy⟩
          rw [List.getElem?_map] at hx
          obtain ⟨p, hp, rfl⟩ := Option.map_eq_some_iff.mp hx
          rw [List.getElem?_drop, List.getElem?_map] at hy
          obtain ⟨q, hq, rfl⟩ := Option.map_eq_some_iff.mp hy
          rw [Nat.add_comm] at hq
          have had := adj_at hp hq
          wtm_at "wp"
          refine ⟨rfl, ?_⟩
          wtm_at "wp"
          refine w_acc (sT _ _ hD) hac hi (sz (by omega)) (fun H7 k7 h7 => ⟨k7.same (s5.trans sT) nD, ?_⟩)
          rw [e5, take_succL had, List.map_append]
          have : decide ((p : Int) < (q : Int)) = decide (p < q) := by
            rw [decide_eq_decide]
            omega
          rw [this]
          rfl
        · rintro D acc H5 nD ⟨s5, e5⟩ hac hD
          rw [← adj_len, List.take_length] at e5
          wtm_at "wp"
          refine w_all e5 (.of hD) ?_
          rw [adj_ris0] at k
          exact k _ (s3.trans (s4.trans s5))
def spIsE (K : PySem.W.Frag) : Sp := fun vs H Q _ => ∃ (v : V) (L : Nat) (d : PyData), vs = [v] ∧ Rp H v d ∧ Fit L d ∧ L ≤ 50 ∧ ∀ H', Same H H' → Q (.bl (isE d)) H'
theorem isE_two {ds : List PyData} (h : ds.length ≠ 2) : isE (.tuple ds) = false := by
  cases hi : isE (.tuple ds) with
  | false => rfl
  | true =>
    obtain ⟨e, he, _⟩ := isE_of hi
    unfold eD at he
    cases he
    exact absurd rfl h
theorem ok_ise {f : Addr} {fd : FuncData} (F : Fun K "is_entry" "is_entry" s_is_entry f fd) (T : Txt K mg Z C_CodeReader C_Block C_Row C_Walker) (f_is_count : Fn P w K mg base "is_count" 2 ["thing"] spCount) (f_is_rising : Fn P w K mg base "is_rising" 3 ["numbers"] (spIsR K)) : FnOk P w K mg base CX0 4 f fd ["thing"] (spIsE K) := by
  refine F.ok sc_is_entry (fun vs H Q E h => ?_) (fun cdv A outer s H vs Q E hr h => ?_)
  · obtain ⟨v, L, d, rfl, _⟩ := h
    rfl
  · obtain ⟨v, L, d, rfl, hR, hF, hL, k⟩ := h
    have kn : isE d = false → ∀ H', Same H H' → Q (.bl false) H' := fun e H' s => e ▸ k H' s
    refine ⟨_, (pss_cons (ps_if (PW.pt (pw_or (pt_not (pt_val (pe_callB call_isi (by rfl) T.n_isinstance PyProof.Rows.boot_isinstance (pa_cons (pv 0) (pa_cons (pe_bltn (v := .ty "tuple") (by rfl) T.n_tuple PyProof.Rows.boot_tuple rfl) pa_nil))))) (pw_or (pt_cmpR op_ne (pe_callB cl_len (by rfl) T.n_len PySem.boot_len (pa_cons (pv 0) pa_nil)) pe_int (nomark _)) (pw_or1 (pt_not (pt_val (pe_fn f_is_count (hr.mono (by omega)) rfl (pa_cons (pe_ix ix_tup (pv 0) pe_int (fun _ _ => rfl)) pa_nil))))))))
 (pss_one (ps_ret pe_bl))
 pss_nil)
 (pss_one (ps_ret (pe_and (pe_callB call_isi (by rfl) T.n_isinstance PyProof.Rows.boot_isinstance (pa_cons (pe_ix ix_tup (pv 0) pe_int (fun _ _ => rfl)) (pa_cons (pe_bltn (v := .ty "tuple") (by rfl) T.n_tuple PyProof.Rows.boot_tuple rfl) pa_nil))) (pe_and (pe_cmpR (op_neD hr.units) (pe_ix ix_tup (pv 0) pe_int (fun _ _ => rfl)) (pe_tup pa_nil) (nomark _)) (pe_one (pe_fn f_is_rising (hr.mono (by omega)) rfl (pa_cons (pe_ix ix_tup (pv 0) pe_int (fun _ _ => rfl)) pa_nil)))))))), ?_⟩
    wtm_at "w0"
    wtm_at "wp"
    cases hR with
    | non => wtm_at "wp"; exact kn rfl _ (.refl _)
    | bl b => wtm_at "wp"; exact kn rfl _ (.refl _)
    | int i => wtm_at "wp"; exact kn rfl _ (.refl _)
    | str x => wtm_at "wp"; exact kn rfl _ (.refl _)
    | lst h r => wtm_at "wp"; exact kn rfl _ (.refl _)
    | @tup a xs ds ha rr =>
      have hlen := rr.length
      wtm_at "wp"
      refine w_lenT (.of ha) ?_
      wtm_at "wp"
      refine w_decN (fun g => ?_) (fun g => ?_)
      · have hx2 : xs.length = 2 := by have := V.int.inj g; omega
        obtain ⟨L', rfl⟩ : ∃ L', L = L' + 1 := ⟨L - 1, by
          cases L with
          | zero => rcases hF with (h | ⟨b, h⟩ | ⟨i, h⟩) | ⟨y, h, _⟩ <;> cases h
          | succ L => omega⟩
        obtain ⟨_, hfit⟩ := hF.tup
        cases rr with
        | nil => simp at hx2
        | @cons x1 d1 xs1 ds1 r1 rr1 =>
          cases rr1 with
          | nil => simp at hx2
          | @cons x2 d2 xs2 ds2 r2 rr2 =>
            cases rr2 with
            | cons _ _ => simp at hx2
            | nil =>
              wtm_at "wp"
              refine ⟨x1, rfl, r1.thg, ?_⟩
              rw [cntD_of r1]
              have nox : cntD d1 = false → isE (.tuple [d1, d2]) = false := fun hc => by
                cases hi : isE (.tuple [d1, d2]) with
                | false => rfl
                | true =>
                  obtain ⟨e, he, _⟩ := isE_of hi
                  unfold eD at he
                  cases he
                  have h0 : cntD (.int (e.1 : Int)) = true := by
                    unfold cntD
                    exact decide_eq_true (by omega)
                  rw [h0] at hc
                  cases hc
              cases hc : cntD d1 with
              | false =>
                wtm_at "wp"
                exact kn (nox hc) _ (.refl _)
              | true =>
                have hd1 : ∃ m : Nat, d1 = .int m := by
                  cases d1 with
                  | int i => obtain ⟨m, rfl⟩ := Int.eq_ofNat_of_zero_le (of_decide_eq_true hc); exact ⟨m, rfl⟩
                  | _ => cases hc
                obtain ⟨m, rfl⟩ := hd1
                wtm_at "wp"
                cases r2 with
                | non => wtm_at "wp"; exact kn rfl _ (.refl _)
                | bl b => wtm_at "wp"; exact kn rfl _ (.refl _)
                | int i => wtm_at "wp"; exact kn rfl _ (.refl _)
                | str x => wtm_at "wp"; exact kn rfl _ (.refl _)
                | lst h r => wtm_at "wp"; exact kn rfl _ (.refl _)
                | @tup a2 ys es h2 rr2 =>
                  have hf2 := hfit (.tuple es) (by simp)
                  obtain ⟨L2, rfl⟩ : ∃ L2, L' = L2 + 1 := ⟨L' - 1, by
                    cases L' with
                    | zero => rcases hf2 with (h | ⟨b, h⟩ | ⟨i, h⟩) | ⟨y, h, _⟩ <;> cases h
                    | succ L => omega⟩
                  have hes := hf2.tup.1
                  have hyl := rr2.length
                  wtm_at "wp"
                  rename_i q3 n3 H3 s3 h3
                  refine w_neD (same_dp s3 (Rp.tup h2 rr2).dp) (.tup (.of h3) .nil) (hf2.good.shaped (by omega)) (by simp [SeqAt.shaped, PyData.canLay0, PyData.canLayAll0, PyData.depth, PyData.depthAll]) (k := es.isEmpty) (by cases es <;> simp [PyData.eqv, PyData.eqvAll]) ?_
                  refine ⟨_, rfl, ?_⟩
                  have ha3 := s3 _ _ ha
                  cases hes0 : es with
                  | nil =>
                    refine iteF' rfl ?_
                    refine kn ?_ _ s3
                    rw [hes0]
                    simp [isE]
                  | cons e0 er =>
                    rw [← hes0]
                    have hne : es.isEmpty = false := by rw [hes0]; rfl
                    rw [hne]
                    refine iteT' rfl ?_
                    wtm_at "wp"
                    refine ⟨a2, ys, es, rfl, s3 _ _ h2, rr2.same s3, by rw [hyl, hes0]; simp, by omega, fun H4 s4 => ?_⟩
                    have e9 : isE (.tuple [.int (m : Int), .tuple es]) = risD (-1) es := by
                      show (decide ((0 : Int) ≤ (m : Int)) && ((!es.isEmpty) && risD (-1) es)) = _
                      rw [decide_eq_true (by omega), hne]
                      rfl
                    rw [e9] at k
                    exact k _ (s3.trans s4)
      · wtm_at "wp"
        exact kn (isE_two (fun z => g (by rw [hlen, z]; rfl))) _ (.refl _)

end
end K16

namespace K16
section
variable {P : Program} {w : World} {K : PySem.W.Frag} {mg : Str → Option Value} {base : Heap} {Z : Zs} {C_CodeReader C_Block C_Row C_Walker : Addr}
abbrev s_look_entries : Stmt := topS 42
theorem sc_look_entries : FnScope ["entries", "last", "at", "entry"] ["entries"] (defScope s_look_entries) := ⟨rfl, rfl, rfl, by decide +kernel, rfl, by decide +kernel, by decide +kernel⟩
abbrev s_code_entries : Stmt := topS 43
theorem sc_code_entries : FnScope ["entries", "numbers", "slot", "places"] ["entries"] (defScope s_code_entries) := ⟨rfl, rfl, rfl, by decide +kernel, rfl, by decide +kernel, by decide +kernel⟩
abbrev s_decode_entries : Stmt := topS 44
theorem sc_decode_entries : FnScope ["text", "reader", "slots", "told", "slot"] ["text"] (defScope s_decode_entries) := ⟨rfl, rfl, rfl, by decide +kernel, rfl, by decide +kernel, by decide +kernel⟩
/-- a list of entries, or the first wrong place -/
def spLookE (K : PySem.W.Frag) (Z : Zs) : Sp := fun vs H Q E => ∃ v, vs = [v] ∧
  ((∃ (a : Addr) (xs : List V) (ds : List PyData) (L : Nat), v = .ref a ∧ H a = some (.lst xs) ∧ RpAll H xs ds ∧ xs.length ≤ 1000 ∧ (∀ d ∈ ds, Fit L d) ∧ L ≤ 50 ∧ (wrE (-1) 0 ds = none → ∀ H', Same H H' → Q .non H') ∧ (∀ j : Nat, wrE (-1) 0 ds = some j → Raz E H Z.NoEntries (.int j))) ∨
   (NoL H v ∧ Raz E H Z.NoEntries .non))
theorem wrE_step {d : PyData} {r : List PyData} {l : Int} {k : Nat} : wrE l k (d :: r) = if isE d = true ∧ l < slotD d then wrE (slotD d) (k + 1) r else some k := rfl
theorem ent_ref {H : Hp} {v : V} {d : PyData} (h : Rp H v d) (hi : isE d = true) : ∃ (a b : Addr) (e : Etr), v = .ref a ∧ d = eD e ∧ e.2 ≠ [] ∧ CM.Rising 0 e.2 ∧ H a = some (.tup [.int e.1, .ref b]) ∧ H b = some (.tup (e.2.map nV)) := by
  obtain ⟨e, rfl, h1, h2⟩ := isE_of hi
  cases h with
  | @tup a xs _ ha rr =>
    cases rr with
    | cons r1 rr1 =>
      cases r1
      cases rr1 with
      | cons r2 rr2 =>
        cases rr2
        cases r2 with
        | @tup b ys _ hb rb =>
          have := rp_natsT rb
          subst this
          exact ⟨a, b, e, rfl, rfl, h1, h2, ha, hb⟩
theorem ok_looke {f : Addr} {fd : FuncData} (F : Fun K "look_entries" "look_entries" s_look_entries f fd) (T : Txt K mg Z C_CodeReader C_Block C_Row C_Walker) (f_is_entry : Fn P w K mg base "is_entry" 4 ["thing"] (spIsE K)) (x0_NoEntries : Xcl P w K mg base "NoEntries" Z.NoEntries 1 "at" [.non]) (x1_NoEntries : Xcl P w K mg base "NoEntries" Z.NoEntries 1 "at" []) : FnOk P w K mg base (L2.CX P w) 5 f fd ["entries"] (spLookE K Z) := by
  refine F.okX sc_look_entries (fun vs H Q E h => ?_) (fun cdv A outer s H vs Q E hr h => ?_)
  · obtain ⟨v, rfl, _⟩ := h
    rfl
  · obtain ⟨v, rfl, h⟩ := h
    refine ⟨_, (pss_cons (ps_if (pt_not (pt_val (pe_callB call_isi (by rfl) T.n_isinstance PyProof.Rows.boot_isinstance (pa_cons (pv 0) (pa_cons (pe_bltn (v := .ty "list") (by rfl) T.n_list PyProof.Rows.boot_list rfl) pa_nil)))))
 (pss_one (ps_raise rfl takesX (pmk_x0 x0_NoEntries (hr.mono (by omega)) rfl)))
 pss_nil)
 (pss_cons (ps_set (i := 1) sc_look_entries.nd rfl (.inl rfl) (pe_un un_neg pe_int))
 (pss_one (ps_for (passes_of rfl) rfl (pi_enum (by rfl) T.n_enumerate (pa_cons (pv 0) pa_nil)) (pg_tup rfl (pgs_cons (pg_name (i := 2) sc_look_entries.nd rfl (.inl rfl)) (pgs_cons (pg_name (i := 3) sc_look_entries.nd rfl (.inl rfl)) pgs_nil)))
 (pss_cons (ps_if (PW.pt (pw_or (pt_not (pt_val (pe_fn f_is_entry (hr.mono (by omega)) rfl (pa_cons (pv 3) pa_nil)))) (pw_or1 (pt_cmpR op_le (pe_ix ix_tup (pv 3) pe_int (fun _ _ => rfl)) (pv 1) (nomark _)))))
 (pss_one (ps_raise rfl takesX (pmk_x x1_NoEntries (hr.mono (by omega)) rfl (pa_cons (pv 2) pa_nil) monoV)))
 pss_nil)
 (pss_one (ps_set (i := 1) sc_look_entries.nd rfl (.inl rfl) (pe_ix ix_tup (pv 3) pe_int (fun _ _ => rfl))))))))), ?_⟩
    wtm_at "w0"
    rcases h with ⟨a, xs, ds, L, rfl, ha, rr, hl, hF, hL, k, ke⟩ | ⟨hv, ke⟩
    · have hlen := rr.length
      wtm_at "wp"
      refine for_fin (fin_enum (xs := xs)) (fun i σ H' => ∃ (v2 v3 : Option V) (l : Int), σ = [some (.ref a), some (.int l), v2, v3] ∧ Same H H' ∧ wrE (-1) 0 ds = wrE l i (ds.drop i)) ⟨_, _, _, rfl, .refl _, rfl⟩ (fun i σ H' _ h => by obtain ⟨_, _, _, _, h, _⟩ := h; exact .of (h _ _ ha)) ?_ ?_
      · rintro i z σ H2 H3 hi ⟨v2, v3, l, rfl, s2, e2⟩ ⟨t, x, rfl, nt, st, ht, hx⟩
        obtain ⟨d, g1, g2⟩ := rr.at hx
        have S3 := s2.trans st
        have ed : ds.drop i = d :: ds.drop (i + 1) := by
          rw [List.drop_eq_getElem_cons (by omega)]
          congr 1
          have := List.getElem?_eq_getElem (l := ds) (i := i) (by omega)
          rw [this] at g1
          exact Option.some.inj g1
        rw [ed, wrE_step] at e2
        have raze : wrE (-1) 0 ds = some i → ∀ d H4, H3 d = none → ∀ H5, Same H3 H4 → Same H4 H5 → H4 d = none → H5 d = some (.xd [("at", .int (i : Int))]) → E (.ref Z.NoEntries) (some d) H5 := fun e d H4 nd H5 s4 s5 nd4 hd => ke i e d H5 (same_free S3 nd) (S3.trans (s4.trans s5)) hd
        wtm_at "wp"
        refine ⟨x, L, d, rfl, g2.same S3, hF d (List.mem_of_getElem? g1), hL, fun H4 s4 => ?_⟩
        cases hi : isE d with
        | false =>
          rw [if_neg (fun z => by rw [hi] at z; cases z.1)] at e2
          wtm_at "wp"
          intro dx H5 nd5 s5 hd5
          exact ke i e2 dx H5 (same_free (S3.trans s4) nd5) ((S3.trans s4).trans s5) hd5
        | true =>
          obtain ⟨xa, xb, e, rfl, rfl, h1, h2, hxa, hxb⟩ := ent_ref ((g2.same S3).same s4) hi
          have hsl : slotD (eD e) = (e.1 : Int) := rfl
          rw [hsl] at e2
          wtm_at "wp"
          refine w_dec (fun q1 => ?_) (fun q1 => ?_)
          · wtm_at "wp"
            rw [if_neg (fun z => by omega)] at e2
            intro dx H5 nd5 s5 hd5
            exact ke i e2 dx H5 (same_free (S3.trans s4) nd5) ((S3.trans s4).trans s5) hd5
          · rw [if_pos ⟨hi, by omega⟩] at e2
            wtm_at "wp"
            exact ⟨_, _, _, rfl, S3.trans s4, e2⟩
      · rintro σ H2 ⟨v2, v3, l, rfl, s2, e2⟩
        rw [hlen, List.drop_length] at e2
        wtm_at "wp"
        exact k e2 _ s2
    · obtain ⟨tv, ht, hk⟩ := hv.ty (K := K)
      wtm_at "wp"
      refine w_isiB ht hk ?_
      wtm_at "wp"
      intro d H2 nd s2 hd
      exact ke d H2 nd s2 hd
def spCodeE (K : PySem.W.Frag) (Z : Zs) : Sp := fun vs H Q E => ∃ v, vs = [v] ∧
  ((∃ (a : Addr) (xs : List V) (ds : List PyData) (L : Nat), v = .ref a ∧ H a = some (.lst xs) ∧ RpAll H xs ds ∧ xs.length ≤ 100 ∧ (∀ d ∈ ds, Fit L d) ∧ L ≤ 50 ∧ (∀ es, ds = es.map eD → EntOk 0 es → (∀ e ∈ es, e.1 < 16 ^ 100 ∧ e.2.length ≤ 120 ∧ ∀ n ∈ e.2, n < 16 ^ 100) ∧ ∀ H', Same H H' → Q (.str (joinC (numsE es))) H') ∧ (∀ j : Nat, wrE (-1) 0 ds = some j → Raz E H Z.NoEntries (.int j))) ∨
   (NoL H v ∧ Raz E H Z.NoEntries .non))
theorem ents_at {H : Hp} {xs : List V} {es : List Etr} (rr : RpAll H xs (es.map eD)) {i : Nat} {x : V} (hx : xs[i]? = some x) : ∃ (a b : Addr) (e : Etr), es[i]? = some e ∧ x = .ref a ∧ H a = some (.tup [.int e.1, .ref b]) ∧ H b = some (.tup (e.2.map nV)) := by
  obtain ⟨d, g1, g2⟩ := rr.at hx
  rw [List.getElem?_map] at g1
  obtain ⟨e, he, rfl⟩ := Option.map_eq_some_iff.mp g1
  cases g2 with
  | @tup a xs _ ha rr =>
    cases rr with
    | cons r1 rr1 =>
      cases r1
      cases rr1 with
      | cons r2 rr2 =>
        cases rr2
        cases r2 with
        | @tup b ys _ hb rb =>
          have := rp_natsT rb
          subst this
          exact ⟨a, b, e, he, rfl, ha, hb⟩
theorem nums_len {es : List Etr} {c : Nat} (h : ∀ e ∈ es, e.2.length ≤ c ∧ e.2 ≠ []) : (numsT es).length ≤ es.length * (c + 1) := by
  induction es with
  | nil => simp [numsT]
  | cons e r ih =>
    have h1 := (h e List.mem_cons_self).1
    have h2 := ih fun e' he => h e' (List.mem_cons_of_mem _ he)
    have en : numsT (e :: r) = (e.2.length - 1) :: (CM.gapsN 0 e.2 ++ numsT r) := by
      unfold numsT
      simp
    rw [en, List.length_cons, List.length_append, CM.gaps_len, List.length_cons, Nat.succ_mul]
    omega
theorem nums_lt {es : List Etr} {b : Nat} (hb : es.length < b) (h : ∀ e ∈ es, e.1 < b ∧ e.2.length < b ∧ ∀ n ∈ e.2, n < b) : ∀ n ∈ numsE es, n < b := by
  intro n hn
  unfold numsE at hn
  rcases List.mem_cons.mp hn with rfl | hn
  · exact hb
  · rcases List.mem_append.mp hn with hn | hn
    · exact CM.gaps_le (fun m hm => by
        obtain ⟨e, he, rfl⟩ := List.mem_map.mp hm
        exact (h e he).1) n hn
    · unfold numsT at hn
      obtain ⟨l, hl, hn⟩ := List.mem_flatten.mp hn
      obtain ⟨e, he, rfl⟩ := List.mem_map.mp hl
      rcases List.mem_cons.mp hn with rfl | hn
      · have := (h e he).2.1
        omega
      · exact CM.gaps_le (h e he).2.2 n hn
theorem ok_codee {f : Addr} {fd : FuncData} (F : Fun K "code_entries" "code_entries" s_code_entries f fd) (T : Txt K mg Z C_CodeReader C_Block C_Row C_Walker) (f_look_entries : FnX P w K mg base "look_entries" 5 ["entries"] (spLookE K Z)) (f_gaps : Fn P w K mg base "gaps" 1 ["numbers"] (spGaps K)) (f_joined_codes : FnX P w K mg base "joined_codes" 4 ["numbers"] (spJoinC K)) : FnOk P w K mg base (L2.CX P w) 6 f fd ["entries"] (spCodeE K Z) := by
  refine F.okX sc_code_entries (fun vs H Q E h => ?_) (fun cdv A outer s H vs Q E hr h => ?_)
  · obtain ⟨v, rfl, _⟩ := h
    rfl
  · obtain ⟨v, rfl, h⟩ := h
    refine ⟨_, (pss_cons (ps_expr (pe_fx f_look_entries (lets_of takesX) (hr.mono (by omega)) rfl (pa_cons (pv 0) pa_nil)))
 (pss_cons (ps_set (i := 1) sc_code_entries.nd rfl (.inl rfl) (pe_op op_cat (pe_lst (pa_cons (pe_callB cl_len (by rfl) T.n_len PySem.boot_len (pa_cons (pv 0) pa_nil)) pa_nil)) (pe_fn f_gaps (hr.mono (by omega)) rfl (pa_cons (pe_lc (own := [("slot", 2), ("places", 3)]) (g := gTup K 2 (gCons (gName 2) (gCons (gName 3) gNil))) (tt := tYes) rfl sc_code_entries.nd (show PI _ _ _ (iList K _) from (pi_list (pv 0))) (blkOk_by (own := [("slot", 2), ("places", 3)]) (N := ["entries", "numbers", "slot", "places"]) (sc := defScope s_code_entries) (by decide +kernel)) (fun _ _ _ _ _ => (pg_tup rfl (pgs_cons (pg_name (i := 2) sc_code_entries.nd rfl (.inl rfl)) (pgs_cons (pg_name (i := 3) sc_code_entries.nd rfl (.inl rfl)) pgs_nil)))) (fun _ _ _ _ _ => pts_nil) (fun _ _ _ _ _ => (pv 2))) pa_nil))))
 (pss_cons (ps_for (passes_of rfl) rfl (pi_list (pv 0)) (pg_tup rfl (pgs_cons (pg_name (i := 2) sc_code_entries.nd rfl (.inl rfl)) (pgs_cons (pg_name (i := 3) sc_code_entries.nd rfl (.inl rfl)) pgs_nil)))
 (pss_one (ps_aug (i := 1) sc_code_entries.nd rfl (.inl rfl) (pe_op op_cat (pe_lst (pa_cons (pe_op op_sub (pe_callB cl_len (by rfl) T.n_len PySem.boot_len (pa_cons (pv 3) pa_nil)) pe_int) pa_nil)) (pe_fn f_gaps (hr.mono (by omega)) rfl (pa_cons (pv 3) pa_nil))) ip_ext)))
 (pss_one (ps_ret (pe_fx f_joined_codes (lets_of takesX) (hr.mono (by omega)) rfl (pa_cons (pv 1) pa_nil))))))), ?_⟩
    wtm_at "w0"
    wtm_at "wp"
    rcases h with ⟨a, xs, ds, L, rfl, ha, rr, hl, hF, hL, k, ke⟩ | ⟨hv, ke⟩
    · refine ⟨_, rfl, .inl ⟨a, xs, ds, L, rfl, ha, rr, by omega, hF, hL, fun hb H1 s1 => ?_, ke⟩⟩
      obtain ⟨es, rfl, hok⟩ := wrE_none (b := 0) hb
      obtain ⟨hsm, k⟩ := k es rfl hok
      have ha1 := s1 _ _ ha
      have rr1 := rr.same s1
      have hlen := rr.length
      rw [List.length_map] at hlen
      wtm_at "wp"
      rename_i l2 n2 H2 s2 h2
      have ha2 := s2 _ _ ha1
      have rr2 := rr1.same s2
      refine lc_fin (fin_list (xs := xs)) (fun i acc H' => Same H2 H' ∧ acc = ((es.take i).map (·.1)).map nV) (fun D H3 nD s3 hD => ⟨s3, rfl⟩) (fun i acc H3 _ h => .of (h.1 _ _ ha2)) ?_ ?_
      · rintro D i v acc H3 H4 nD hi hac ⟨s3, e3⟩ hD ⟨rfl, hv⟩
        obtain ⟨xa, xb, e, he, rfl, hxa, hxb⟩ := ents_at (rr2.same s3) hv
        wtm_at "wp"
        refine ⟨rfl, ?_⟩
        wtm_at "wp"
        refine w_acc hD hac hi (sz (by omega)) (fun H6 k6 h6 => ⟨k6.same s3 nD, ?_⟩)
        rw [e3, take_succL he]
        simp
      · rintro D acc H3 nD ⟨s3, e3⟩ hac hD
        rw [hlen, List.take_length] at e3
        subst e3
        wtm_at "wp"
        refine ⟨D, es.map (·.1), rfl, .inl (.of hD), hok.1, by rw [List.length_map]; omega, fun p4 H4 n4 s4 h4 => ?_⟩
        have g2 := s4 _ _ (s3 _ _ h2)
        refine w_cat g2 h4 (sz (by simp [CM.gaps_len]; omega)) (fun l5 H5 n5 s5 h5 => ?_)
        have S5 : Same H H5 := s1.trans (s2.trans (s3.trans (s4.trans s5)))
        have n50 : H l5 = none := same_free (s1.trans (s2.trans (s3.trans s4))) n5
        have ha5 := S5 _ _ ha
        have h5' : H5 l5 = some (.lst ((es.length :: (CM.gapsN 0 (es.map (·.1)) ++ numsT (es.take 0))).map nV)) := by
          rw [h5, hlen]
          simp [numsT]
        have hps : ∀ e ∈ es, e.2.length ≤ 120 ∧ e.2 ≠ [] := fun e he => ⟨(hsm e he).2.1, (hok.2 e he).1⟩
        wtm_at "wp"
        refine for_fin (fin_list (xs := xs)) (fun i σ H' => ∃ (v2 v3 : Option V), σ = [some (.ref a), some (.ref l5), v2, v3] ∧ Same H H' ∧ H' l5 = some (.lst ((es.length :: (CM.gapsN 0 (es.map (·.1)) ++ numsT (es.take i))).map nV))) ⟨_, _, rfl, S5, h5'⟩ (fun i σ H' _ h => by obtain ⟨_, _, _, h, _⟩ := h; exact .of (h _ _ ha)) ?_ ?_
        · rintro i y σ H6 H7 hi ⟨v2, v3, rfl, s6, h6⟩ ⟨rfl, hy⟩
          obtain ⟨xa, xb, e, he, rfl, hxa, hxb⟩ := ents_at (rr.same s6) hy
          have hem := List.mem_of_getElem? he
          wtm_at "wp"
          refine w_lenT (.of hxb) ?_
          wtm_at "wp"
          rename_i l8 n8 H8 s8 h8
          have hpe := hps e hem
          have hl0 : e.2.length ≠ 0 := fun z => hpe.2 (List.eq_nil_of_length_eq_zero z)
          refine ⟨xb, e.2, rfl, .inr (.of (s8 _ _ hxb)), (hok.2 e hem).2, by omega, fun p9 H9 n9 s9 h9 => ?_⟩
          refine w_cat (s9 _ _ h8) h9 (sz (by simp [CM.gaps_len]; omega)) (fun l10 H10 n10 s10 h10 => ?_)
          have hnl := nums_len (es := es.take i) (fun e' he' => hps e' (List.mem_of_mem_take he'))
          have hel : (es.take i).length * 121 ≤ 100 * 121 := Nat.mul_le_mul_right _ (by rw [List.length_take]; omega)
          refine w_ext2 (s10 _ _ (s9 _ _ (s8 _ _ h6))) h10 ?_ (fun H11 k11 h11 => ?_)
          · simp [CM.gaps_len]
            omega
          · refine ⟨_, _, rfl, k11.same (s6.trans (s8.trans (s9.trans s10))) n50, ?_⟩
            rw [h11, take_succL he, numsT_snoc]
            have : (((e.2.map nV).length : Nat) : Int) - 1 = ((e.2.length - 1 : Nat) : Int) := by
              rw [List.length_map]
              omega
            rw [this]
            simp
        · rintro σ H6 ⟨v2, v3, rfl, s6, h6⟩
          rw [hlen, List.take_length] at h6
          wtm_at "wp"
          have hnl := nums_len hps
          have hel : es.length * 121 ≤ 100 * 121 := Nat.mul_le_mul_right _ (by omega)
          refine ⟨l5, numsE es, rfl, .of h6, ?_, ?_, fun H7 s7 => k _ (s6.trans s7)⟩
          · unfold numsE
            rw [List.length_cons, List.length_append, CM.gaps_len, List.length_map]
            omega
          · refine nums_lt (Nat.lt_of_le_of_lt (by omega : es.length ≤ 100) (by decide)) (fun e he => ?_)
            obtain ⟨q1, q2, q3⟩ := hsm e he
            have hb : 16 ^ 100 < 16 ^ 201 := by decide
            exact ⟨by omega, Nat.lt_of_le_of_lt q2 (by decide), fun n hn => Nat.lt_trans (q3 n hn) hb⟩
    · exact ⟨v, rfl, .inr ⟨hv, ke⟩⟩
def spDecE (K : PySem.W.Frag) : Sp := fun vs H Q _ => ∃ (x : Str) (es : List Etr), vs = [.str x] ∧ x.length ≤ 20000 ∧ rdEnt x.cps.toList = .ok es ∧ ∀ p H', H p = none → Same H H' → Rp H' (.ref p) (.list (es.map eD)) → Q (.ref p) H'
def contE (es : List Etr) : Except Nat (List Etr × Nat) → Except Nat (List Etr × Nat)
  | .ok (fs, j) => .ok (es ++ fs, j)
  | .error e => .error e
theorem nD_inj : ∀ {a b : List Nat}, a.map nD = b.map nD → a = b
  | [], [], _ => rfl
  | [], _ :: _, h => by cases h
  | _ :: _, [], h => by cases h
  | x :: r, y :: q, h => by
    rw [List.map_cons, List.map_cons] at h
    injection h with h1 h2
    have h3 : (x : Int) = (y : Int) := PyData.int.inj h1
    rw [nD_inj h2, show x = y by omega]
theorem eD_inj : ∀ {a b : List Etr}, a.map eD = b.map eD → a = b
  | [], [], _ => rfl
  | [], _ :: _, h => by cases h
  | _ :: _, [], h => by cases h
  | x :: r, y :: q, h => by
    rw [List.map_cons, List.map_cons] at h
    injection h with h1 h2
    unfold eD at h1
    have h3 := PyData.tuple.inj h1
    injection h3 with h4 h5
    injection h5 with h6 _
    have h7 : (x.1 : Int) = (y.1 : Int) := PyData.int.inj h4
    have h8 := nD_inj (PyData.tuple.inj h6)
    have h9 : x = y := Prod.ext (by omega) h8
    rw [eD_inj h2, h9]
theorem noL_eD (e : Etr) : noL (eD e) = true := by
  have h : noLs (e.2.map nD) = true := noLs_all fun d hd => by
    obtain ⟨n, _, rfl⟩ := List.mem_map.mp hd
    rfl
  simp [eD, noL, noLs, h]
theorem noLs_es (es : List Etr) : noLs (es.map eD) = true := noLs_all fun d hd => by
  obtain ⟨e, _, rfl⟩ := List.mem_map.mp hd
  exact noL_eD e
theorem rpAll_nats {H : Hp} : ∀ ns : List Nat, RpAll H (ns.map nV) (ns.map nD)
  | [] => .nil
  | n :: r => .cons (.int _) (rpAll_nats r)
theorem ok_dece {f : Addr} {fd : FuncData} (F : Fun K "decode_entries" "decode_entries" s_decode_entries f fd) (T : Txt K mg Z C_CodeReader C_Block C_Row C_Walker) (mk_CodeReader_1 : MkrX P w K mg base "CodeReader" C_CodeReader 3 ["self", "text"] [] (spRdI C_CodeReader Z)) (me_CodeReader_is_done : Me P w K mg base C_CodeReader "is_done" 1 ["self"] (spDone C_CodeReader)) (me_CodeReader_next_number : MeX P w K mg base C_CodeReader "next_number" 3 ["self"] (spNext C_CodeReader Z)) (me_CodeReader_rising : MeX P w K mg base C_CodeReader "rising" 4 ["self", "many"] (spRise C_CodeReader Z)) : FnOk P w K mg base CX0 7 f fd ["text"] (spDecE K) := by
  have c1 := T.cl_CodeReader
  refine F.ok sc_decode_entries (fun vs H Q E h => ?_) (fun cdv A outer s H vs Q E hr h => ?_)
  · obtain ⟨x, es, rfl, _⟩ := h
    rfl
  · obtain ⟨x, es, rfl, hl, hes, k⟩ := h
    refine ⟨_, (pss_cons (ps_set (i := 1) sc_decode_entries.nd rfl (.inr rfl) (pe_mkx mk_CodeReader_1 lets0 (hr.mono (by omega)) rfl (pa_cons (pv 0) pa_nil)))
 (pss_cons (ps_set (i := 2) sc_decode_entries.nd rfl (.inl rfl) (pe_mex (pv 1) T.cl_CodeReader me_CodeReader_rising lets0 (hr.mono (by omega)) (pa_cons (pe_mex0 (pv 1) T.cl_CodeReader me_CodeReader_next_number lets0 (hr.mono (by omega))) pa_nil)))
 (pss_cons (ps_setLc (i := 3) (own := [("slot", 4)]) (g := gName 4) (tt := tYes) rfl sc_decode_entries.nd rfl rfl (sw_true rfl rfl rfl (by decide +kernel)) (show PI _ _ _ (iList K _) from (pi_list (pv 2))) (blkOk_by (own := [("slot", 4)]) (N := ["text", "reader", "slots", "told", "slot"]) (sc := defScope s_decode_entries) (by decide +kernel)) (fun _ _ _ _ _ => pg_name (i := 4) sc_decode_entries.nd rfl (Or.inl rfl)) (fun _ _ _ _ _ => pts_nil) (fun _ _ _ _ _ => (pe_tup (pa_cons (pv 4) (pa_cons (pe_callTy (show CallR _ _ (rTupOf K) from cl_tuple) (by rfl) T.n_tuple PyProof.Rows.boot_tuple (pa_cons (pe_mex (pv 1) T.cl_CodeReader me_CodeReader_rising lets0 (hr.mono (by omega)) (pa_cons (pe_op op_add pe_int (pe_mex0 (pv 1) T.cl_CodeReader me_CodeReader_next_number lets0 (hr.mono (by omega)))) pa_nil)) pa_nil)) pa_nil)))))
 (pss_cons (ps_if (pt_not (pt_val (pe_me0 (pv 1) T.cl_CodeReader me_CodeReader_is_done (hr.mono (by omega)))))
 (pss_one (ps_never))
 pss_nil)
 (pss_one (ps_ret (pv 3))))))), ?_⟩
    wtm_at "w0"
    wtm_at "wp"
    rename_i r dr nr nd H1 s1 h1
    refine ⟨r, dr, _, rfl, h1, .inl ⟨x, rfl, fun H2 k2 h2 => ⟨rfl, ?_⟩⟩⟩
    have s2 : Same H H2 := k2.same s1 nr
    have nrd : ∀ {J : Hp} {i : Nat} {t : Addr} {ys : List V}, Rd C_CodeReader J r x i → J t = some (.tup ys) → t ≠ r := fun hJ ht z => by
      obtain ⟨d, hd⟩ := hJ
      rw [z, hd] at ht
      cases ht
    have fl : ∀ {e : Nat}, rdEnt x.cps.toList ≠ .error e := fun {e} z => by rw [hes] at z; cases z
    have h2' := h2
    obtain ⟨d2, hr2⟩ := h2'
    wtm_at "wp"
    have e0 : rdEnt x.cps.toList = match CM.rdNum (x.cps.toList.drop 0) 0 0 1 true with
      | .error e => .error e
      | .ok (m, j) => match CM.rdMany x.cps.toList m j with
        | .error e => .error e
        | .ok (gs, j2) => match rdTail x.cps.toList (CM.unGap 0 gs) j2 with
          | .error e => .error e
          | .ok (es, j3) => if j3 = x.cps.toList.length then .ok es else .error j3 := rfl
    refine ⟨r, x, 0, rfl, h2, by omega, by omega, fun m j hrd H3 k3 r3 => ?_, fun kk hrd d3 H3 nd3 k3 hd3 => ?_⟩
    · rw [hrd] at e0
      simp only at e0
      obtain ⟨hj1, hj2⟩ := CM.rd_le hrd
      rw [List.length_drop, len_cps] at hj2
      have s3 : Same H H3 := k3.same s2 nr
      have r3' := r3
      obtain ⟨d3, hr3⟩ := r3'
      wtm_at "wp"
      refine ⟨r, x, j, m, rfl, r3, by omega, by omega, fun gs j2 hmn l H4 n4 k4 h4 r4 => ?_, fun kk hmn d4 H4 nd4 k4 hd4 => ?_⟩
      · rw [hmn] at e0
        simp only at e0
        obtain ⟨hgl, hjm, hjt⟩ := CM.many_le hmn
        have hj2l := hjt (by rw [len_cps]; omega)
        rw [len_cps] at hj2l
        have s4 : Same H H4 := k4.same s3 nr
        have nlr : l ≠ r := (ne_of_none hr3 n4).symm
        wtm_at "wp"
        intro D nD
        have nDr : r ≠ D := by
          obtain ⟨d4, hr4⟩ := r4
          exact ne_of_none hr4 nD
        have hgl2 : gs.length ≤ x.length := by omega
        refine lc_finD (fin_list (xs := (CM.unGap 0 gs).map nV)) nD (fun i acc H' => Same H H' ∧ KB r H4 H' ∧ ∃ (j : Nat) (es : List Etr), Rd C_CodeReader H' r x j ∧ j ≤ x.length ∧ RpAll H' acc (es.map eD) ∧ rdTail x.cps.toList (CM.unGap 0 gs) j2 = contE es (rdTail x.cps.toList ((CM.unGap 0 gs).drop i) j)) (fun H5 s5 hD => ⟨s4.trans s5, KB.of s5, j2, [], r4.same s5, hj2l, .nil, ?_⟩) (fun i acc H5 _ h => .of (h.2.1 _ _ h4 nlr)) ?_ ?_
        · rw [List.drop_zero]
          cases rdTail x.cps.toList (CM.unGap 0 gs) j2 with
          | ok q => rfl
          | error e => rfl
        · rintro i v acc Hz H5 hi hac ⟨s5, k5, j5, es5, r5, hj5, ra5, e5⟩ hD ⟨rfl, hv⟩
          rw [List.getElem?_map] at hv
          obtain ⟨sl, hsl, rfl⟩ := Option.map_eq_some_iff.mp hv
          rw [List.length_map, CM.un_len] at hi
          have ed : (CM.unGap 0 gs).drop i = sl :: (CM.unGap 0 gs).drop (i + 1) := by
            rw [List.drop_eq_getElem_cons (by rw [CM.un_len]; omega)]
            congr 1
            have := List.getElem?_eq_getElem (l := CM.unGap 0 gs) (i := i) (by rw [CM.un_len]; omega)
            rw [this] at hsl
            exact Option.some.inj hsl
          rw [ed] at e5
          have e6 : rdTail x.cps.toList (sl :: (CM.unGap 0 gs).drop (i + 1)) j5 = match CM.rdNum (x.cps.toList.drop j5) j5 0 1 true with
            | .error e => .error e
            | .ok (c, j) => match CM.rdMany x.cps.toList (1 + c) j with
              | .error e => .error e
              | .ok (gs', j2) => match rdTail x.cps.toList ((CM.unGap 0 gs).drop (i + 1)) j2 with
                | .error e => .error e
                | .ok (es, j3) => .ok ((sl, CM.unGap 0 gs') :: es, j3) := rfl
          have r5' := r5
          obtain ⟨d5, hr5⟩ := r5'
          wtm_at "wp"
          refine ⟨rfl, ?_⟩
          wtm_at "wp"
          refine ⟨r, x, j5, rfl, r5, by omega, hj5, fun c j6 hrd H6 k6 r6 => ?_, fun kk hrd d6 H6 nd6 k6 hd6 => ?_⟩
          · rw [hrd] at e6
            simp only at e6
            obtain ⟨hj61, hj62⟩ := CM.rd_le hrd
            rw [List.length_drop, len_cps] at hj62
            have s6 : Same H H6 := k6.same s5 nr
            have r6' := r6
            obtain ⟨d6, hr6⟩ := r6'
            have e1 : (1 : Int) + (c : Int) = ((1 + c : Nat) : Int) := by omega
            wtm_at "wp"
            rw [e1]
            refine ⟨r, x, j6, 1 + c, rfl, r6, by omega, by omega, fun gs7 j7 hmn7 l7 H7 n7 k7 h7 r7 => ?_, fun kk hmn7 d7 H7 nd7 k7 hd7 => ?_⟩
            · rw [hmn7] at e6
              simp only at e6
              obtain ⟨_, _, hjt7⟩ := CM.many_le hmn7
              have hj7l := hjt7 (by rw [len_cps]; omega)
              rw [len_cps] at hj7l
              have s7 : Same H H7 := k7.same s6 nr
              wtm_at "wp"
              refine w_tupOf (.of h7) (fun t8 H8 n8 s8 h8 => ?_)
              wtm_at "wp"
              rename_i t9 n9 H9 s9 h9
              have k59 : KB r H5 H9 := k6.trans (k7.trans (KB.of (s8.trans s9)))
              have hD9 := k59 _ _ hD nDr.symm
              have r9 := r7.same (s8.trans s9)
              refine w_acc (n := gs.length) hD9 hac hi (sz (by omega)) (fun H10 k10 h10 => ?_)
              have tk : TupK H5 H10 := fun q ys hq => k10 _ _ (k59 _ _ hq (nrd r5 hq)) (fun z => by rw [z, hD] at hq; cases hq)
              have n8D : t8 ≠ D := fun z => by rw [z, k7 _ _ (k6 _ _ hD nDr.symm) nDr.symm] at n8; cases n8
              have n9D : t9 ≠ D := fun z => by rw [z, s8 _ _ (k7 _ _ (k6 _ _ hD nDr.symm) nDr.symm)] at n9; cases n9
              refine ⟨k10.same (s7.trans (s8.trans s9)) (same_free s4 nD), kb2 (k5.trans k59) k10 nD, j7, es5 ++ [(sl, CM.unGap 0 gs7)], r9.kb k10 nDr, hj7l, ?_, ?_⟩
              · rw [List.map_append]
                exact (ra5.tupk tk (noLs_es es5)).append (.cons (.tup (k10 _ _ h9 n9D) (.cons (.int _) (.cons (.tup (k10 _ _ (s9 _ _ h8) n8D) (rpAll_nats _)) .nil))) .nil)
              · rw [e5, e6]
                cases rdTail x.cps.toList ((CM.unGap 0 gs).drop (i + 1)) j7 with
                | ok q => simp [contE]
                | error e => rfl
            · rw [hmn7] at e6
              rw [e6] at e5
              rw [e5] at e0
              exact absurd e0 fl
          · rw [hrd] at e6
            rw [e6] at e5
            rw [e5] at e0
            exact absurd e0 fl
        · rintro acc H5 ⟨s5, k5, j5, es5, r5, hj5, ra5, e5⟩ hac hD
          have ez : (CM.unGap 0 gs).drop ((CM.unGap 0 gs).map nV).length = [] := by
            rw [List.length_map, List.drop_length]
          rw [ez] at e5
          have e5' : rdTail x.cps.toList (CM.unGap 0 gs) j2 = .ok (es5, j5) := by
            rw [e5]
            simp [rdTail, contE]
          rw [e5'] at e0
          simp only at e0
          rw [len_cps] at e0
          have r5' := r5
          obtain ⟨d5, hr5⟩ := r5'
          wtm_at "wp"
          refine ⟨r, x, j5, rfl, r5, by omega, ?_⟩
          by_cases hj : j5 = x.length
          · rw [if_pos hj] at e0
            rw [decide_eq_true hj]
            wtm_at "wp"
            rw [hes] at e0
            cases e0
            exact k D H5 (same_free s4 nD) s5 (.lst hD ra5)
          · rw [if_neg hj] at e0
            exact absurd e0 fl
      · rw [hmn] at e0
        exact absurd e0 fl
    · rw [hrd] at e0
      exact absurd e0 fl

end
end K16

namespace K16
section
variable {P : Program} {w : World} {K : PySem.W.Frag} {mg : Str → Option Value} {base : Heap} {Z : Zs} {C_CodeReader C_Block C_Row C_Walker : Addr}
abbrev s_Block___init__ : Stmt := inClass (topS 49) 0
theorem sc_Block___init__ : FnScope ["self", "entries", "lengths", "counts", "slot", "places"] ["self", "entries", "lengths"] (defScope s_Block___init__) := ⟨rfl, rfl, rfl, by decide +kernel, rfl, by decide +kernel, by decide +kernel⟩
abbrev s_Block_entries : Stmt := inClass (topS 49) 1
theorem sc_Block_entries : FnScope ["self"] ["self"] (defScope s_Block_entries) := ⟨rfl, rfl, rfl, by decide +kernel, rfl, by decide +kernel, by decide +kernel⟩
abbrev s_Block___len__ : Stmt := inClass (topS 49) 4
theorem sc_Block___len__ : FnScope ["self"] ["self"] (defScope s_Block___len__) := ⟨rfl, rfl, rfl, by decide +kernel, rfl, by decide +kernel, by decide +kernel⟩
abbrev cV (e : Etr) : V := nV e.2.length
theorem atI_lst {α : Type} {xs : List α} {x : α} (h : xs[xs.length - 1]? = some x) : atI xs (-1) = some x := by
  have h0 : xs ≠ [] := fun z => by
    rw [z] at h
    cases h
  have e : xs = xs.dropLast ++ [x] := by
    have h1 := List.dropLast_concat_getLast h0
    rw [← List.getLast?_eq_getElem?, List.getLast?_eq_some_getLast h0] at h
    rw [← Option.some.inj h]
    exact h1.symm
  rw [e]
  exact L2.atI_last _ _
theorem fit_eD' {e : Etr} (h : e.2.length ≤ 120) : Fit 5 (eD e) := fit_tup (by simp) (fun d hd => by
  simp only [List.mem_cons, List.not_mem_nil, or_false] at hd
  rcases hd with rfl | rfl
  · exact fit_int
  · exact fit_tup (by rw [List.length_map]; omega) (fun x hx => by
      obtain ⟨m, _, rfl⟩ := List.mem_map.mp hx
      exact fit_int))
/-- a block; all that it holds lies within N -/
def BlkN (N : Addr → Prop) (C : Addr) (H : Hp) (r : Addr) (ls : List Nat) (es : List Etr) : Prop := BlkP es ∧ ∃ d t, N r ∧ N t ∧ H r = some (.ins C d [("first", nV (fstE es)), ("last", nV (lstE es)), ("many", nV es.length), ("most", nV (mostE es)), ("least", nV (leastE ls es)), ("coded", .str (joinC (numsE es))), ("counts", .ref t)]) ∧ H t = some (.tup (es.map cV))
theorem big100 {es : List Etr} (h : SmlR es) : ∀ e ∈ es, e.1 < 16 ^ 100 ∧ e.2.length ≤ 120 ∧ ∀ n ∈ e.2, n < 16 ^ 100 := fun e he => ⟨Nat.lt_trans (h e he).1 (by decide), (h e he).2.1, fun n hn => Nat.lt_trans ((h e he).2.2 n hn) (by decide)⟩
def spBlk (C : Addr) : Sp := fun vs H Q _ => ∃ (r d a l : Addr) (xs : List V) (es : List Etr) (ls : List Nat), vs = [.ref r, .ref a, .ref l] ∧ H r = some (.ins C d []) ∧ H a = some (.lst xs) ∧ RpAll H xs (es.map eD) ∧ BlkP es ∧ H l = some (.lst (ls.map nV)) ∧ (∀ e ∈ es, e.1 < ls.length) ∧
  ∀ H', KB r H H' → BlkN (fun c => c = r ∨ H c = none) C H' r ls es → Q .non H'
theorem ok_blk {f : Addr} {fd : FuncData} (F : Fun K "__init__" "Block.__init__" s_Block___init__ f fd) (T : Txt K mg Z C_CodeReader C_Block C_Row C_Walker) (f_code_entries : FnX P w K mg base "code_entries" 6 ["entries"] (spCodeE K Z)) : FnOk P w K mg base CX0 7 f fd ["self", "entries", "lengths"] (spBlk C_Block) := by
  have c1 := T.cl_Block
  have n1 := T.na_Block_first
  have n2 := T.na_Block_last
  have n3 := T.na_Block_many
  have n4 := T.na_Block_most
  have n5 := T.na_Block_least
  have n6 := T.na_Block_coded
  have n7 := T.na_Block_counts
  refine F.ok sc_Block___init__ (fun vs H Q E h => ?_) (fun cdv A outer s H vs Q E hr h => ?_)
  · obtain ⟨r, d, a, l, xs, es, ls, rfl, _⟩ := h
    rfl
  · obtain ⟨r, d, a, l, xs, es, ls, rfl, hd, ha, rr, hP, hl, hsl, k⟩ := h
    have hE := hP.ok
    have hne := hP.ne
    have hlen := hP.len
    have hsm := hP.sml
    have hxl := rr.length
    rw [List.length_map] at hxl
    refine ⟨_, (pss_cons (ps_setLc (i := 3) (own := [("slot", 4), ("places", 5)]) (g := gTup K 2 (gCons (gName 4) (gCons (gName 5) gNil))) (tt := tYes) rfl sc_Block___init__.nd rfl rfl (sw_true rfl rfl rfl (by decide +kernel)) (show PI _ _ _ (iList K _) from (pi_list (pv 1))) (blkOk_by (own := [("slot", 4), ("places", 5)]) (N := ["self", "entries", "lengths", "counts", "slot", "places"]) (sc := defScope s_Block___init__) (by decide +kernel)) (fun _ _ _ _ _ => (pg_tup rfl (pgs_cons (pg_name (i := 4) sc_Block___init__.nd rfl (.inl rfl)) (pgs_cons (pg_name (i := 5) sc_Block___init__.nd rfl (.inl rfl)) pgs_nil)))) (fun _ _ _ _ _ => pts_nil) (fun _ _ _ _ _ => (pe_callB (show CallR _ _ (Bw.rLen K) from cl_len) (by rfl) T.n_len PySem.boot_len (pa_cons (pv 5) pa_nil))))
 (pss_cons (ps_asg (pe_tup (pa_cons (pe_ix ix_tup (pe_ix ix_list (pv 1) pe_int (fun _ _ => rfl)) pe_int (fun _ _ => rfl)) (pa_cons (pe_ix ix_tup (pe_ix ix_list (pv 1) (pe_un un_neg pe_int) (fun _ _ => rfl)) pe_int (fun _ _ => rfl)) pa_nil))) (pg_tup rfl (pgs_cons (pg_fld (pv 0)) (pgs_cons (pg_fld (pv 0)) pgs_nil))))
 (pss_cons (ps_fld (pv 0) (pe_callB cl_len (by rfl) T.n_len PySem.boot_len (pa_cons (pv 1) pa_nil)) rfl)
 (pss_cons (ps_fld (pv 0) (pe_callB (cr_max rfl) (by rfl) T.n_max PyProof.Rows.boot_max (pa_cons (pv 3) pa_nil)) rfl)
 (pss_cons (ps_fld (pv 0) (pe_callB (cr_min rfl) (by rfl) T.n_min PyProof.Rows.boot_min (pa_cons (pe_lc (own := [("slot", 4), ("places", 5)]) (g := gTup K 2 (gCons (gName 4) (gCons (gName 5) gNil))) (tt := tYes) rfl sc_Block___init__.nd (show PI _ _ _ (iList K _) from (pi_list (pv 1))) (blkOk_by (own := [("slot", 4), ("places", 5)]) (N := ["self", "entries", "lengths", "counts", "slot", "places"]) (sc := defScope s_Block___init__) (by decide +kernel)) (fun _ _ _ _ _ => (pg_tup rfl (pgs_cons (pg_name (i := 4) sc_Block___init__.nd rfl (.inl rfl)) (pgs_cons (pg_name (i := 5) sc_Block___init__.nd rfl (.inl rfl)) pgs_nil)))) (fun _ _ _ _ _ => pts_nil) (fun _ _ _ _ _ => (pe_ix (show IxR _ (rIxL K) from ix_list) (pv 2) (pv 4) (fun _ _ => rfl)))) pa_nil)) rfl)
 (pss_cons (ps_fld (pv 0) (pe_fx f_code_entries lets0 (hr.mono (by omega)) rfl (pa_cons (pv 1) pa_nil)) rfl)
 (pss_one (ps_fld (pv 0) (pe_callTy cl_tuple (by rfl) T.n_tuple PyProof.Rows.boot_tuple (pa_cons (pv 3) pa_nil)) rfl)))))))), ?_⟩
    wtm_at "w0"
    wtm_at "wp"
    refine lc_fin (fin_list (xs := xs)) (fun i acc H' => Same H H' ∧ acc = (es.take i).map cV) (fun D H3 nD s3 hD => ⟨s3, rfl⟩) (fun i acc H3 _ h => .of (h.1 _ _ ha)) ?_ ?_
    · rintro D i v acc H3 H4 nD hi hac ⟨s3, e3⟩ hD ⟨rfl, hv⟩
      obtain ⟨xa, xb, e, he, rfl, hxa, hxb⟩ := ents_at (rr.same s3) hv
      wtm_at "wp"
      refine ⟨rfl, ?_⟩
      wtm_at "wp"
      refine w_lenT (.of hxb) ?_
      rw [List.length_map]
      refine w_acc hD hac hi (sz (by omega)) (fun H6 k6 h6 => ⟨k6.same s3 nD, ?_⟩)
      rw [e3, take_succL he, List.map_append]
      rfl
    · rintro D acc H3 nD ⟨s3, e3⟩ hac hD
      rw [hxl, List.take_length] at e3
      subst e3
      have ha3 := s3 _ _ ha
      have rr3 := rr.same s3
      have hd3 := s3 _ _ hd
      have hl3 := s3 _ _ hl
      obtain ⟨x0, hx0⟩ : ∃ x0, xs[0]? = some x0 := ⟨_, List.getElem?_eq_getElem (by cases es with | nil => exact absurd rfl hne | cons _ _ => simp at hxl; omega)⟩
      obtain ⟨xn, hxn⟩ : ∃ xn, xs[xs.length - 1]? = some xn := ⟨_, List.getElem?_eq_getElem (by cases es with | nil => exact absurd rfl hne | cons _ _ => simp at hxl; omega)⟩
      obtain ⟨a0, b0, e0, he0, rfl, ha0, hb0⟩ := ents_at rr3 hx0
      obtain ⟨an, bn, en, hen, rfl, han, hbn⟩ := ents_at rr3 hxn
      wtm_at "wp"
      refine w_ixL (.of ha3) (atI_nat (j := 0) hx0) ?_
      wtm_at "wp"
      refine w_ixL (.of ha3) (atI_lst hxn) ?_
      wtm_at "wp"
      rename_i t4 n4 H4 s4 h4 H5 k5 h5 H6 k6 h6
      have nra : a ≠ r := fun z => by rw [z, hd] at ha; cases ha
      have nrl : l ≠ r := fun z => by rw [z, hd] at hl; cases hl
      have nrD : D ≠ r := fun z => by rw [z, hd] at nD; cases nD
      have K6 : KB r H H6 := (KB.of (s3.trans s4)).trans (k5.trans k6)
      have K36 : KB r H3 H6 := (KB.of s4).trans (k5.trans k6)
      have ha6 := K6 _ _ ha nra
      have hD6 := K36 _ _ hD nrD
      refine w_lenL (.of ha6) ?_
      wtm_at "wp"
      rename_i H7 k7 h7
      have hD7 := k7 _ _ hD6 nrD
      have hl7 := k7 _ _ (K6 _ _ hl nrl) nrl
      have ha7 := k7 _ _ ha6 nra
      have rr7 := rr.tupk (fun c ys h => (K6.trans k7) _ _ h (fun z => by rw [z, hd] at h; cases h)) (noLs_es es)
      have hD7' : H7 D = some (.lst (((es.map fun e => e.2.length).map nI).map V.int)) := by
        rw [hD7]
        simp
      refine ⟨D, (es.map fun e => e.2.length).map nI, rfl, .of hD7', by cases es with | nil => exact absurd rfl hne | cons _ _ => simp, fun m hm hmx => ?_⟩
      have em := mx_int hm hmx
      subst em
      wtm_at "wp"
      rename_i H8 k8 h8
      have ha8 := k8 _ _ ha7 nra
      have hl8 := k8 _ _ hl7 nrl
      have rr8 := rr7.tupk (fun c ys h => k8 _ _ h (fun z => by rw [z, h7] at h; cases h)) (noLs_es es)
      refine lc_fin (fin_list (xs := xs)) (fun i acc H' => Same H8 H' ∧ acc = (es.take i).map fun e => nV (ls.getD e.1 0)) (fun D H3 nD s3 hD => ⟨s3, rfl⟩) (fun i acc H3 _ h => .of (h.1 _ _ ha8)) ?_ ?_
      · rintro D2 i v acc J3 J4 nD2 hi hac ⟨z3, e3⟩ hD2 ⟨rfl, hv⟩
        obtain ⟨xa, xb, e, he, rfl, hxa, hxb⟩ := ents_at (rr8.same z3) hv
        have hse := hsl e (List.mem_of_getElem? he)
        wtm_at "wp"
        refine ⟨rfl, ?_⟩
        wtm_at "wp"
        refine w_ixL (v := nV (ls.getD e.1 0)) (.of (z3 _ _ hl8)) (atI_nat (by rw [List.getElem?_map, List.getElem?_eq_getElem hse, List.getD_eq_getElem?_getD, List.getElem?_eq_getElem hse]; rfl)) ?_
        refine w_acc hD2 hac hi (sz (by omega)) (fun H6 k6 h6 => ⟨k6.same z3 nD2, ?_⟩)
        rw [e3, take_succL he, List.map_append]
        rfl
      · rintro D2 acc J3 nD2 ⟨z3, e3⟩ hac hD2
        rw [hxl, List.take_length] at e3
        subst e3
        have hD2' : J3 D2 = some (.lst (((es.map fun e => ls.getD e.1 0).map nI).map V.int)) := by
          rw [hD2]
          simp
        wtm_at "wp"
        refine ⟨D2, (es.map fun e => ls.getD e.1 0).map nI, rfl, .of hD2', by cases es with | nil => exact absurd rfl hne | cons _ _ => simp, fun m hm hmx => ?_⟩
        have em := mn_int hm hmx
        subst em
        have z8 := z3 _ _ h8
        wtm_at "wp"
        rename_i H9 k9 h9
        have ha9 := k9 _ _ (z3 _ _ ha8) nra
        have rr9 := (rr8.same z3).tupk (fun c ys h => k9 _ _ h (fun z => by rw [z, z8] at h; cases h)) (noLs_es es)
        refine ⟨.ref a, rfl, .inl ⟨a, xs, _, 5, rfl, ha9, rr9, by omega, fun x hx => ?_, by decide, fun es' he' hok' => ?_, fun j hj => ?_⟩⟩
        · obtain ⟨e, he, rfl⟩ := List.mem_map.mp hx
          exact fit_eD' (hsm e he).2.1
        · have := eD_inj he'
          subst this
          refine ⟨big100 hsm, fun H10 s10 => ?_⟩
          have h10 := s10 _ _ h9
          wtm_at "wp"
          rename_i H11 k11 h11
          have hD11 := k11 _ _ (s10 _ _ (k9 _ _ (z3 _ _ (k8 _ _ hD7 nrD)) nrD)) nrD
          refine w_tupOf (.of hD11) (fun t12 H12 n12 s12 h12 => ?_)
          have h12r := s12 _ _ h11
          wtm_at "wp"
          rename_i H13 k13 h13
          have e1 : fstE es = e0.1 := by
            unfold fstE
            cases es with
            | nil => exact absurd rfl hne
            | cons _ _ => cases he0; rfl
          have e2 : lstE es = en.1 := by
            unfold lstE
            rw [hxl, ← List.getLast?_eq_getElem?] at hen
            rw [List.getLastD_eq_getLast?, hen]
            rfl
          have nt : t12 ≠ r := fun z => by rw [z, h11] at n12; cases n12
          refine k H13 (K6.trans (k7.trans (k8.trans ((KB.of z3).trans (k9.trans ((KB.of s10).trans (k11.trans ((KB.of s12).trans k13)))))))) ⟨hP, d, t12, .inl rfl, .inr ?_, ?_, k13 _ _ h12 nt⟩
          · cases hq : H t12 with
            | none => rfl
            | some o =>
              have := (K6.trans (k7.trans (k8.trans ((KB.of z3).trans (k9.trans ((KB.of s10).trans k11)))))) _ _ hq nt
              rw [n12] at this
              cases this
          · rw [h13, e1, e2]
            rw [hxl]
            rfl
        · have hj' : wrE (((0 : Nat) : Int) - 1) 0 (es.map eD) = some j := hj
          rw [none_wrE hE] at hj'
          cases hj'

theorem joinC_lenk {ns : List Nat} {k : Nat} (h : ∀ n ∈ ns, n < 16 ^ (k + 1)) : (joinC ns).length ≤ ns.length * (k + 1) := by
  show (S _).length ≤ _
  rw [len_S, List.length_flatten, List.map_map]
  have := sum_le (l := ns.map (List.length ∘ CM.codeL)) (c := k + 1) (fun x hx => by
    obtain ⟨n, hn, rfl⟩ := List.mem_map.mp hx
    exact CM.codeL_len (h n hn))
  rwa [List.length_map] at this
theorem blk_len {es : List Etr} (h : BlkP es) : (joinC (numsE es)).length ≤ 4000 := by
  have hnn : ∀ n ∈ numsE es, n < 16 ^ (1 + 1) := nums_lt (Nat.lt_of_le_of_lt h.len (by decide)) (fun e he => by
    obtain ⟨q1, q2, q3⟩ := h.sml e he
    exact ⟨by show e.1 < 256; omega, by show e.2.length < 256; omega, fun n hn => by have := q3 n hn; show n < 256; omega⟩)
  have hnl := nums_len (es := es) (c := 120) (fun e he => ⟨(h.sml e he).2.1, (h.ok.2 e he).1⟩)
  have hel : es.length * 121 ≤ 8 * 121 := Nat.mul_le_mul_right _ h.len
  have hl := h.len
  have hjl := joinC_lenk hnn
  have hnL : (numsE es).length ≤ 1000 := by
    unfold numsE
    rw [List.length_cons, List.length_append, CM.gaps_len, List.length_map]
    omega
  omega
theorem blk_read {es : List Etr} (h : BlkP es) : rdEnt (joinC (numsE es)).cps.toList = .ok es := ent_code h.ok
/-- a block's entries, decoded -/
def spBlkE (K : PySem.W.Frag) (C : Addr) : Sp := fun vs H Q _ => ∃ (N : Addr → Prop) (r : Addr) (ls : List Nat) (es : List Etr), vs = [.ref r] ∧ BlkN N C H r ls es ∧ ∀ p H', H p = none → Same H H' → Rp H' (.ref p) (.list (es.map eD)) → Q (.ref p) H'
theorem ok_blke {f : Addr} {fd : FuncData} (F : Fun K "entries" "Block.entries" s_Block_entries f fd) (T : Txt K mg Z C_CodeReader C_Block C_Row C_Walker) (f_decode_entries : Fn P w K mg base "decode_entries" 7 ["text"] (spDecE K)) : FnOk P w K mg base CX0 8 f fd ["self"] (spBlkE K C_Block) := by
  have c1 := T.cl_Block
  have n6 := T.na_Block_coded
  refine F.ok sc_Block_entries (fun vs H Q E h => ?_) (fun cdv A outer s H vs Q E hr h => ?_)
  · obtain ⟨N, r, ls, es, rfl, _⟩ := h
    rfl
  · obtain ⟨N, r, ls, es, rfl, ⟨hP, d, t, _, _, hr0, _⟩, k⟩ := h
    refine ⟨_, (pss_one (ps_ret (pe_fn f_decode_entries (hr.mono (by omega)) rfl (pa_cons (pe_fld (pv 0) rfl) pa_nil)))), ?_⟩
    wtm_at "w0"
    wtm_at "wp"
    exact ⟨_, es, rfl, by have := blk_len hP; omega, blk_read hP, k⟩
/-- how many entries -/
def spBlkL (C : Addr) : Sp := fun vs H Q _ => ∃ (N : Addr → Prop) (r : Addr) (ls : List Nat) (es : List Etr), vs = [.ref r] ∧ BlkN N C H r ls es ∧ Q (.int es.length) H
theorem ok_blkl {f : Addr} {fd : FuncData} (F : Fun K "__len__" "Block.__len__" s_Block___len__ f fd) (T : Txt K mg Z C_CodeReader C_Block C_Row C_Walker) : FnOk P w K mg base CX0 1 f fd ["self"] (spBlkL C_Block) := by
  have c1 := T.cl_Block
  have n7 := T.na_Block_counts
  refine F.ok sc_Block___len__ (fun vs H Q E h => ?_) (fun cdv A outer s H vs Q E hr h => ?_)
  · obtain ⟨N, r, ls, es, rfl, _⟩ := h
    rfl
  · obtain ⟨N, r, ls, es, rfl, ⟨hP, d, t, _, _, hr0, ht⟩, k⟩ := h
    refine ⟨_, (pss_one (ps_ret (pe_callB cl_len (by rfl) T.n_len PySem.boot_len (pa_cons (pe_fld (pv 0) rfl) pa_nil)))), ?_⟩
    wtm_at "w0"
    wtm_at "wp"
    refine w_lenT (.of ht) ?_
    rw [List.length_map]
    exact k

end
end K16

namespace K16
section
variable {P : Program} {w : World} {K : PySem.W.Frag} {mg : Str → Option Value} {base : Heap} {Z : Zs} {C_CodeReader C_Block C_Row C_Walker : Addr}
abbrev s_is_word : Stmt := topS 26
theorem sc_is_word : FnScope ["thing", "sign"] ["thing"] (defScope s_is_word) := ⟨rfl, rfl, rfl, by decide +kernel, rfl, by decide +kernel, by decide +kernel⟩
/-! ### words: nothing is refused here -/
def spWord (K : PySem.W.Frag) : Sp := fun vs H Q _ => ∃ v, vs = [v] ∧ TxtV H v ∧ ∀ H', Same H H' → Q (.bl (isWV v)) H'
theorem ok_is_word {f : Addr} {fd : FuncData} (F : Fun K "is_word" "is_word" s_is_word f fd) (T : Txt K mg Z C_CodeReader C_Block C_Row C_Walker) : FnOk P w K mg base CX0 1 f fd ["thing"] (spWord K) := by
  refine F.ok sc_is_word (fun vs H Q E h => ?_) (fun cdv A outer s H vs Q E hr h => ?_)
  · obtain ⟨v, rfl, _⟩ := h
    rfl
  · obtain ⟨v, rfl, hv, k⟩ := h
    have k' : ∀ {b : Bool}, isWV v = b → ∀ H', Same H H' → Q (.bl b) H' := fun e H' s => e ▸ k H' s
    refine ⟨_, (pss_one (ps_ret (pe_and (pe_callB call_isi (by rfl) T.n_isinstance PyProof.Rows.boot_isinstance (pa_cons (pv 0) (pa_cons (pe_bltn (v := .ty "str") (by rfl) T.n_str PyProof.Rows.boot_str rfl) pa_nil))) (pe_and (pe_chain op_le op_le pe_int (pe_callB cl_len (by rfl) T.n_len PySem.boot_len (pa_cons (pv 0) pa_nil)) (pe_gint T.c_LONGEST rfl)) (pe_one (pe_callB (cr_all rfl) (by rfl) T.n_all PyProof.Rows.boot_all (pa_cons (pe_lc (own := [("sign", 1)]) (g := gName 1) (tt := tYes) rfl sc_is_word.nd (pi_str (pv 0)) (blkOk_by (own := [("sign", 1)]) (N := ["thing", "sign"]) (sc := defScope s_is_word) (by decide +kernel)) (fun _ _ _ _ _ => pg_name (i := 1) sc_is_word.nd rfl (Or.inl rfl)) (fun _ _ _ _ _ => pts_nil) (fun _ _ _ _ _ => (pe_cmpR op_inS (pv 1) (pe_gstr T.c_LETTERS rfl) (by rfl)))) pa_nil))))))), ?_⟩
    wtm_at "w0"
    rcases hv with ⟨x, rfl, hx⟩ | ho
    · wtm_at "wp"
      have e0 : isWV (.str x) = (decide (1 ≤ x.length ∧ x.length ≤ 12) && x.cps.toList.all fun c => decide (c ∈ abc.cps.toList)) := rfl
      refine w_dec (fun h1 => ?_) (fun h1 => ?_)
      · wtm_at "wp"
        refine w_dec (fun h2 => ?_) (fun h2 => ?_)
        · wtm_at "wp"
          dsimp only
          refine lc_fin fin_str (fun i acc H' => Same H H' ∧ acc = ((x.cps.toList.take i).map fun c => decide (c ∈ abc.cps.toList)).map V.bl) (fun D H2 nD s2 hD => ⟨s2, rfl⟩) (fun _ _ _ _ _ => trivial) ?_ ?_
          · rintro D i v acc H3 H4 nD hi ha ⟨s3, e3⟩ hD ⟨rfl, c, hc, rfl⟩
            wtm_at "wp"
            refine ⟨rfl, ?_⟩
            wtm_at "wp"
            refine w_acc hD ha hi (sz (by have : x.cps.size = x.length := rfl; omega)) (fun H5 k5 h5 => ⟨k5.same s3 nD, ?_⟩)
            rw [e3, take_succ hc]
            simp
            try rfl
          · rintro D acc H3 nD ⟨s3, e3⟩ ha hD
            wtm_at "wp"
            refine w_all e3 (.of hD) (k' ?_ _ s3)
            rw [e0, decide_eq_true ⟨by omega, by omega⟩, Bool.true_and, take_size, List.all_map]
            rfl
        · wtm_at "wp"
          refine k' ?_ _ (.refl _)
          rw [e0, decide_eq_false (fun z => by omega), Bool.false_and]
      · wtm_at "wp"
        refine k' ?_ _ (.refl _)
        rw [e0, decide_eq_false (fun z => by omega), Bool.false_and]
    · obtain ⟨nx, tv, ht, hk⟩ := ho.ty (K := K)
      wtm_at "wp"
      refine w_isiB ht hk ?_
      wtm_at "wp"
      have e0 : isWV v = false := by
        cases v <;> first | rfl | exact absurd rfl (nx _)
      rw [e0] at k
      exact k _ (.refl _)
abbrev s_look_word : Stmt := topS 27
theorem sc_look_word : FnScope ["thing"] ["thing"] (defScope s_look_word) := ⟨rfl, rfl, rfl, by decide +kernel, rfl, by decide +kernel, by decide +kernel⟩
def spLook1N (K : PySem.W.Frag) : Sp := fun vs H Q _ => ∃ x : Str, vs = [.str x] ∧ isW x = true ∧ ∀ H', Same H H' → Q .non H'
theorem ok_look1N {f : Addr} {fd : FuncData} (F : Fun K "look_word" "look_word" s_look_word f fd) (T : Txt K mg Z C_CodeReader C_Block C_Row C_Walker) (f_is_word : Fn P w K mg base "is_word" 1 ["thing"] (spWord K)) : FnOk P w K mg base CX0 2 f fd ["thing"] (spLook1N K) := by
  refine F.ok sc_look_word (fun vs H Q E h => ?_) (fun cdv A outer s H vs Q E hr h => ?_)
  · obtain ⟨x, rfl, _⟩ := h
    rfl
  · obtain ⟨x, rfl, hx, k⟩ := h
    have hl := isW_len hx
    refine ⟨_, (pss_one (ps_if (pt_not (pt_val (pe_fn f_is_word (hr.mono (by omega)) rfl (pa_cons (pv 0) pa_nil))))
 (pss_one (ps_never))
 pss_nil)), ?_⟩
    wtm_at "w0"
    wtm_at "wp"
    refine ⟨_, rfl, .inl ⟨x, rfl, by omega⟩, fun H1 s1 => ?_⟩
    have e : isWV (.str x) = true := hx
    rw [e]
    wtm_at "wp"
    exact k _ s1

abbrev s_look_size : Stmt := topS 50
theorem sc_look_size : FnScope ["size"] ["size"] (defScope s_look_size) := ⟨rfl, rfl, rfl, by decide +kernel, rfl, by decide +kernel, by decide +kernel⟩
abbrev s_look_lengths : Stmt := topS 51
theorem sc_look_lengths : FnScope ["lengths", "length"] ["lengths"] (defScope s_look_lengths) := ⟨rfl, rfl, rfl, by decide +kernel, rfl, by decide +kernel, by decide +kernel⟩
abbrev s_look_fit : Stmt := topS 52
theorem sc_look_fit : FnScope ["entries", "lengths", "at", "slot", "ahead", "last"] ["entries", "lengths"] (defScope s_look_fit) := ⟨rfl, rfl, rfl, by decide +kernel, rfl, by decide +kernel, by decide +kernel⟩
def spLS : Sp := fun vs H Q _ => ∃ n : Nat, vs = [.int n] ∧ 1 ≤ n ∧ n ≤ 8 ∧ Q .non H
theorem ok_looks {f : Addr} {fd : FuncData} (F : Fun K "look_size" "look_size" s_look_size f fd) (T : Txt K mg Z C_CodeReader C_Block C_Row C_Walker) (f_is_whole : Fn P w K mg base "is_whole" 1 ["thing"] spWhole) : FnOk P w K mg base CX0 2 f fd ["size"] spLS := by
  refine F.ok sc_look_size (fun vs H Q E h => ?_) (fun cdv A outer s H vs Q E hr h => ?_)
  · obtain ⟨n, rfl, _⟩ := h
    rfl
  · obtain ⟨n, rfl, h1, h8, k⟩ := h
    refine ⟨_, (pss_one (ps_if (PW.pt (pw_or (pt_not (pt_val (pe_fn f_is_whole (hr.mono (by omega)) rfl (pa_cons (pv 0) pa_nil)))) (pw_or1 (pt_not (pt_chain op_le op_le pe_int (pv 0) (pe_gint T.c_GREATEST rfl))))))
 (pss_one (ps_never))
 pss_nil)), ?_⟩
    wtm_at "w0"
    wtm_at "wp"
    refine ⟨_, rfl, .int _, ?_⟩
    wtm_at "wp"
    refine iteT' (decide_eq_true (by omega)) ?_
    wtm_at "wp"
    refine iteF' (by rw [decide_eq_true (by omega)]; rfl) ?_
    wtm_at "wp"
    exact k
def spLL : Sp := fun vs H Q _ => ∃ (a : Addr) (ls : List Nat), vs = [.ref a] ∧ H a = some (.lst (ls.map nV)) ∧ ls.length ≤ 60 ∧ (∀ n ∈ ls, n ≤ 120) ∧ ∀ H', Same H H' → Q .non H'
theorem ok_lookl {f : Addr} {fd : FuncData} (F : Fun K "look_lengths" "look_lengths" s_look_lengths f fd) (T : Txt K mg Z C_CodeReader C_Block C_Row C_Walker) (f_is_whole : Fn P w K mg base "is_whole" 1 ["thing"] spWhole) : FnOk P w K mg base CX0 2 f fd ["lengths"] spLL := by
  refine F.ok sc_look_lengths (fun vs H Q E h => ?_) (fun cdv A outer s H vs Q E hr h => ?_)
  · obtain ⟨a, ls, rfl, _⟩ := h
    rfl
  · obtain ⟨a, ls, rfl, ha, hl, hm, k⟩ := h
    refine ⟨_, (pss_cons (ps_if (PW.pt (pw_or (pt_not (pt_val (pe_callB call_isi (by rfl) T.n_isinstance PyProof.Rows.boot_isinstance (pa_cons (pv 0) (pa_cons (pe_bltn (v := .ty "list") (by rfl) T.n_list PyProof.Rows.boot_list rfl) pa_nil))))) (pw_or1 (pt_cmpR op_gt (pe_callB cl_len (by rfl) T.n_len PySem.boot_len (pa_cons (pv 0) pa_nil)) (pe_gint T.c_MOST_PAGES rfl) (nomark _)))))
 (pss_one (ps_never))
 pss_nil)
 (pss_one (ps_if (pt_not (pt_val (pe_callB (cr_all rfl) (by rfl) T.n_all PyProof.Rows.boot_all (pa_cons (pe_lc (own := [("length", 1)]) (g := gName 1) (tt := tYes) rfl sc_look_lengths.nd (show PI _ _ _ (iList K _) from (pi_list (pv 0))) (blkOk_by (own := [("length", 1)]) (N := ["lengths", "length"]) (sc := defScope s_look_lengths) (by decide +kernel)) (fun _ _ _ _ _ => pg_name (i := 1) sc_look_lengths.nd rfl (Or.inl rfl)) (fun _ _ _ _ _ => pts_nil) (fun _ _ _ _ _ => (pe_and (pe_fn f_is_whole (hr.mono (by omega)) rfl (pa_cons (pv 1) pa_nil)) (pe_one (pe_chain op_le op_le pe_int (pv 1) (pe_gint T.c_MOST rfl)))))) pa_nil))))
 (pss_one (ps_never))
 pss_nil))), ?_⟩
    wtm_at "w0"
    wtm_at "wp"
    rw [List.length_map]
    refine iteF' (decide_eq_false (by omega)) ?_
    wtm_at "wp"
    refine lc_fin (fin_list (xs := ls.map nV)) (fun i acc H' => Same H H' ∧ acc = (List.replicate i true).map V.bl) (fun D H2 nD s2 hD => ⟨s2, rfl⟩) (fun i acc H2 _ h => .of (h.1 _ _ ha)) ?_ ?_
    · rintro D i v acc H3 H4 nD hi hac ⟨s3, e3⟩ hD ⟨rfl, hv⟩
      rw [List.getElem?_map] at hv
      obtain ⟨n, hn, rfl⟩ := Option.map_eq_some_iff.mp hv
      have hn' := hm n (List.mem_of_getElem? hn)
      wtm_at "wp"
      refine ⟨rfl, ?_⟩
      wtm_at "wp"
      refine ⟨_, rfl, .int _, ?_⟩
      wtm_at "wp"
      rw [List.length_map] at hi
      refine w_acc hD hac hi (sz (by omega)) (fun H5 k5 h5 => ⟨k5.same s3 nD, ?_⟩)
      rw [e3, List.replicate_succ', List.map_append, decide_eq_true (show ((n : Nat) : Int) ≤ 120 by omega)]
      rfl
    · rintro D acc H3 nD ⟨s3, e3⟩ hac hD
      wtm_at "wp"
      refine w_all e3 (.of hD) ?_
      have : (List.replicate (ls.map nV).length true).all id = true := by simp
      rw [this]
      wtm_at "wp"
      exact k _ s3
def spLF : Sp := fun vs H Q _ => ∃ (a l : Addr) (xs : List V) (es : List Etr) (ls : List Nat), vs = [.ref a, .ref l] ∧ H a = some (.lst xs) ∧ RpAll H xs (es.map eD) ∧ EntOk 0 es ∧ es.length ≤ 60 ∧ H l = some (.lst (ls.map nV)) ∧ FitL ls es ∧ ∀ H', Same H H' → Q .non H'
theorem ok_lookf {f : Addr} {fd : FuncData} (F : Fun K "look_fit" "look_fit" s_look_fit f fd) (T : Txt K mg Z C_CodeReader C_Block C_Row C_Walker) : FnOk P w K mg base CX0 1 f fd ["entries", "lengths"] spLF := by
  refine F.ok sc_look_fit (fun vs H Q E h => ?_) (fun cdv A outer s H vs Q E hr h => ?_)
  · obtain ⟨a, l, xs, es, ls, rfl, _⟩ := h
    rfl
  · obtain ⟨a, l, xs, es, ls, rfl, ha, rr, hE, hlen, hl, hfit, k⟩ := h
    have hxl := rr.length
    rw [List.length_map] at hxl
    refine ⟨_, (pss_one (ps_for PassesOwn.never rfl (pi_enum (by rfl) T.n_enumerate (pa_cons (pv 0) pa_nil)) (pg_tup rfl (pgs_cons (pg_name (i := 2) sc_look_fit.nd rfl (.inl rfl)) (pgs_cons (pg_tup rfl (pgs_cons (pg_name (i := 3) sc_look_fit.nd rfl (.inl rfl)) (pgs_cons (pg_star (k := 0) (after := 1) rfl (pgs_star (pg_name (i := 4) sc_look_fit.nd rfl (.inl rfl)) (pgs_cons (pg_name (i := 5) sc_look_fit.nd rfl (.inl rfl)) pgs_nil))) pgs_nil))) pgs_nil)))
 (pss_one (ps_if (PW.pt (pw_or (pt_cmpR op_ge (pv 3) (pe_callB cl_len (by rfl) T.n_len PySem.boot_len (pa_cons (pv 1) pa_nil)) (nomark _)) (pw_or1 (pt_cmpR op_ge (pv 5) (pe_ix ix_list (pv 1) (pv 3) (fun _ _ => rfl)) (nomark _)))))
 (pss_one (ps_never))
 pss_nil)))), ?_⟩
    wtm_at "w0"
    wtm_at "wp"
    refine for_fin (fin_enum (xs := xs)) (fun i σ H' => ∃ (v2 v3 v4 v5 : Option V), σ = [some (.ref a), some (.ref l), v2, v3, v4, v5] ∧ Same H H') ⟨_, _, _, _, rfl, .refl _⟩ (fun i σ H' _ h => by obtain ⟨_, _, _, _, _, h⟩ := h; exact .of (h _ _ ha)) ?_ ?_
    · rintro i z σ H2 H3 hi ⟨v2, v3, v4, v5, rfl, s2⟩ ⟨t, x, rfl, nt, st, ht, hx⟩
      have S3 := s2.trans st
      obtain ⟨xa, xb, e, he, rfl, hxa, hxb⟩ := ents_at (rr.same S3) hx
      have hem := List.mem_of_getElem? he
      obtain ⟨f1, f2⟩ := hfit e hem
      obtain ⟨f3, f4⟩ := hE.2 e hem
      obtain ⟨ini, m, em⟩ : ∃ ini m, e.2 = ini ++ [m] := ⟨_, _, (List.dropLast_concat_getLast f3).symm⟩
      rw [em] at hxb
      have hm := f2 m (by rw [em]; simp)
      have hl3 := S3 _ _ hl
      wtm_at "wp"
      refine ⟨xb, _, rfl, .inl (.of hxb), by simp, fun p np => ?_⟩
      have eL : ((ini ++ [m]).map nV).take 0 ++ [V.ref p] ++ (((ini ++ [m]).map nV).drop 0).drop (((ini ++ [m]).map nV).length - 0 - 1) = [V.ref p, nV m] := by simp
      rw [eL]
      generalize eN : upd H3 p _ = H4
      have s4 := same_gen np eN
      clear eN
      have hl4 := s4 _ _ hl3
      wtm_at "wp"
      rw [List.length_map]
      refine iteF' (decide_eq_false (by omega)) ?_
      wtm_at "wp"
      refine w_ixL (v := nV (ls.getD e.1 0)) (.of hl4) (atI_nat (by rw [List.getElem?_map, List.getElem?_eq_getElem f1, List.getD_eq_getElem?_getD, List.getElem?_eq_getElem f1]; rfl)) ?_
      wtm_at "wp"
      refine iteF' (decide_eq_false (by omega)) ?_
      wtm_at "wp"
      exact ⟨_, _, _, _, rfl, S3.trans s4⟩
    · rintro σ H2 ⟨v2, v3, v4, v5, rfl, s2⟩
      exact k _ s2

end
end K16

namespace K16
section
variable {P : Program} {w : World} {K : PySem.W.Frag} {mg : Str → Option Value} {base : Heap} {Z : Zs} {C_CodeReader C_Block C_Row C_Walker : Addr}
abbrev s_Row___init__ : Stmt := inClass (topS 53) 0
theorem sc_Row___init__ : FnScope ["self", "word", "entries", "lengths", "size", "at"] ["self", "word", "entries", "lengths", "size"] (defScope s_Row___init__) := ⟨rfl, rfl, rfl, by decide +kernel, rfl, by decide +kernel, by decide +kernel⟩
abbrev s_Row_blocks : Stmt := inClass (topS 53) 1
theorem sc_Row_blocks : FnScope ["self"] ["self"] (defScope s_Row_blocks) := ⟨rfl, rfl, rfl, by decide +kernel, rfl, by decide +kernel, by decide +kernel⟩
abbrev s_Row_entries : Stmt := inClass (topS 53) 2
theorem sc_Row_entries : FnScope ["self", "block", "entry"] ["self"] (defScope s_Row_entries) := ⟨rfl, rfl, rfl, by decide +kernel, rfl, by decide +kernel, by decide +kernel⟩
abbrev s_Row___len__ : Stmt := inClass (topS 53) 4
theorem sc_Row___len__ : FnScope ["self"] ["self"] (defScope s_Row___len__) := ⟨rfl, rfl, rfl, by decide +kernel, rfl, by decide +kernel, by decide +kernel⟩
theorem BlkN.kn {N : Addr → Prop} {C : Addr} {H H' : Hp} {r : Addr} {ls : List Nat} {es : List Etr} (h : BlkN N C H r ls es) (k : KN N H H') : BlkN N C H' r ls es := by
  obtain ⟨h0, d, t, h1, h2, h3, h4⟩ := h
  exact ⟨h0, d, t, h1, h2, k _ _ h3 h1, k _ _ h4 h2⟩
theorem BlkN.more {N M : Addr → Prop} {C : Addr} {H : Hp} {r : Addr} {ls : List Nat} {es : List Etr} (h : BlkN N C H r ls es) (i : ∀ c, N c → M c) : BlkN M C H r ls es := by
  obtain ⟨h0, d, t, h1, h2, h3, h4⟩ := h
  exact ⟨h0, d, t, i _ h1, i _ h2, h3, h4⟩
/-- blocks in turn -/
def BlksN (N : Addr → Prop) (C : Addr) (H : Hp) (bs : List Addr) (ls : List Nat) (ess : List (List Etr)) : Prop := bs.length = ess.length ∧ ∀ (i : Nat) b es, bs[i]? = some b → ess[i]? = some es → BlkN N C H b ls es
theorem BlksN.kn {N : Addr → Prop} {C : Addr} {H H' : Hp} {bs : List Addr} {ls : List Nat} {ess : List (List Etr)} (h : BlksN N C H bs ls ess) (k : KN N H H') : BlksN N C H' bs ls ess := ⟨h.1, fun i b es h1 h2 => (h.2 i b es h1 h2).kn k⟩
theorem BlksN.more {N M : Addr → Prop} {C : Addr} {H : Hp} {bs : List Addr} {ls : List Nat} {ess : List (List Etr)} (h : BlksN N C H bs ls ess) (i : ∀ c, N c → M c) : BlksN M C H bs ls ess := ⟨h.1, fun j b es h1 h2 => (h.2 j b es h1 h2).more i⟩
theorem BlksN.snoc {N : Addr → Prop} {C : Addr} {H : Hp} {bs : List Addr} {ls : List Nat} {ess : List (List Etr)} {b : Addr} {es : List Etr} (h : BlksN N C H bs ls ess) (hb : BlkN N C H b ls es) : BlksN N C H (bs ++ [b]) ls (ess ++ [es]) := by
  refine ⟨by simp [h.1], fun i b' es' h1 h2 => ?_⟩
  rcases Nat.lt_or_ge i bs.length with hi | hi
  · rw [List.getElem?_append_left hi] at h1
    rw [List.getElem?_append_left (by rw [← h.1]; exact hi)] at h2
    exact h.2 i b' es' h1 h2
  · rw [List.getElem?_append_right hi] at h1
    rw [List.getElem?_append_right (by rw [← h.1]; exact hi)] at h2
    rw [h.1] at h1
    cases hj : i - ess.length with
    | zero =>
      rw [hj] at h1 h2
      cases h1
      cases h2
      exact hb
    | succ j =>
      rw [hj] at h1
      cases h1
abbrev rV (a : Addr) : V := .ref a
/-- a row; all that it holds lies within N -/
def RowN (N : Addr → Prop) (CB CR : Addr) (H : Hp) (r : Addr) (x : Str) (c : Nat) (ls : List Nat) (es : List Etr) : Prop := RowP x c ls es ∧ ∃ d kp bs, N r ∧ N kp ∧ H r = some (.ins CR d [("word", .str x), ("size", nV c), ("kept", .ref kp)]) ∧ H kp = some (.lst (bs.map rV)) ∧ BlksN N CB H bs ls (cutE c es)
theorem RowN.kn {N : Addr → Prop} {CB CR : Addr} {H H' : Hp} {r : Addr} {x : Str} {c : Nat} {ls : List Nat} {es : List Etr} (h : RowN N CB CR H r x c ls es) (k : KN N H H') : RowN N CB CR H' r x c ls es := by
  obtain ⟨h0, d, kp, bs, h1, h2, h3, h4, h5⟩ := h
  exact ⟨h0, d, kp, bs, h1, h2, k _ _ h3 h1, k _ _ h4 h2, h5.kn k⟩
theorem RowN.more {N M : Addr → Prop} {CB CR : Addr} {H : Hp} {r : Addr} {x : Str} {c : Nat} {ls : List Nat} {es : List Etr} (h : RowN N CB CR H r x c ls es) (i : ∀ c, N c → M c) : RowN M CB CR H r x c ls es := by
  obtain ⟨h0, d, kp, bs, h1, h2, h3, h4, h5⟩ := h
  exact ⟨h0, d, kp, bs, i _ h1, i _ h2, h3, h4, h5.more i⟩
def spRowI (CB CR : Addr) : Sp := fun vs H Q _ => ∃ (r d a l : Addr) (x : Str) (c : Nat) (ls : List Nat) (es : List Etr) (xs : List V), vs = [.ref r, .str x, .ref a, .ref l, .int c] ∧ H r = some (.ins CR d []) ∧ H a = some (.lst xs) ∧ RpAll H xs (es.map eD) ∧ H l = some (.lst (ls.map nV)) ∧ RowP x c ls es ∧
  ∀ H', KB r H H' → RowN (fun c => c = r ∨ H c = none) CB CR H' r x c ls es → Q .non H'
theorem take_of_cut {α : Type} {xs : List α} {i : Nat} {x : α} (h : xs[i]? = some x) : xs.take (i + 1) = xs.take i ++ [x] := take_succL h
theorem ok_rowi {f : Addr} {fd : FuncData} {kws : List (Str × V)} (F : FunD K "__init__" "Row.__init__" (defArgs s_Row___init__) (defBody s_Row___init__) (defScope s_Row___init__) [] kws f fd) (T : Txt K mg Z C_CodeReader C_Block C_Row C_Walker) (f_look_word : Fn P w K mg base "look_word" 2 ["thing"] (spLook1N K)) (f_look_entries : FnX P w K mg base "look_entries" 5 ["entries"] (spLookE K Z)) (f_look_lengths : Fn P w K mg base "look_lengths" 2 ["lengths"] spLL) (f_look_size : Fn P w K mg base "look_size" 2 ["size"] spLS) (f_look_fit : Fn P w K mg base "look_fit" 1 ["entries", "lengths"] spLF) (mk_Block_2 : Mkr P w K mg base "Block" C_Block 7 ["self", "entries", "lengths"] [] (spBlk C_Block)) : FnOk P w K mg base CX0 9 f fd ["self", "word", "entries", "lengths", "size"] (spRowI C_Block C_Row) := by
  have c1 := T.cl_Row
  have n1 := T.na_Row_word
  have n2 := T.na_Row_size
  have n3 := T.na_Row_kept
  refine F.ok sc_Row___init__ (fun vs H Q E h => ?_) (fun cdv A outer s H vs Q E hr h => ?_)
  · obtain ⟨r, d, a, l, x, c, ls, es, xs, rfl, _⟩ := h
    rfl
  · obtain ⟨r, d, a, l, x, c, ls, es, xs, rfl, hd, ha, rr, hl, hP, k⟩ := h
    have hxl := rr.length
    rw [List.length_map] at hxl
    have nra : a ≠ r := fun z => by rw [z, hd] at ha; cases ha
    have nrl : l ≠ r := fun z => by rw [z, hd] at hl; cases hl
    have hle := hP.len
    have hc1 := hP.c1
    have hc8 := hP.c8
    refine ⟨_, PSs.nox (pss_cons (ps_expr (pe_fn f_look_word (hr.mono (by omega)) rfl (pa_cons (pv 1) pa_nil)))
 (pss_cons (ps_expr (pe_fx f_look_entries lets0 (hr.mono (by omega)) rfl (pa_cons (pv 2) pa_nil)))
 (pss_cons (ps_expr (pe_fn f_look_lengths (hr.mono (by omega)) rfl (pa_cons (pv 3) pa_nil)))
 (pss_cons (ps_expr (pe_fn f_look_size (hr.mono (by omega)) rfl (pa_cons (pv 4) pa_nil)))
 (pss_cons (ps_expr (pe_fn f_look_fit (hr.mono (by omega)) rfl (pa_cons (pv 2) (pa_cons (pv 3) pa_nil))))
 (pss_cons (ps_fld (pv 0) (pv 1) rfl)
 (pss_cons (ps_fld (pv 0) (pv 4) rfl)
 (pss_one (ps_fld (pv 0) (pe_lc (own := [("at", 5)]) (g := gName 5) (tt := tYes) rfl sc_Row___init__.nd (pi_range3 (by rfl) T.n_range (pa_cons pe_int (pa_cons (pe_callB (show CallR _ _ (Bw.rLen K) from cl_len) (by rfl) T.n_len PySem.boot_len (pa_cons (pv 2) pa_nil)) (pa_cons (pv 4) pa_nil)))) (blkOk_by (own := [("at", 5)]) (N := ["self", "word", "entries", "lengths", "size", "at"]) (sc := defScope s_Row___init__) (by decide +kernel)) (fun _ _ _ _ _ => pg_name (i := 5) sc_Row___init__.nd rfl (Or.inl rfl)) (fun _ _ _ _ _ => pts_nil) (fun _ _ _ _ _ => (pe_mkr mk_Block_2 (hr.mono (by omega)) rfl (pa_cons (pe_slice (show SlR _ (rSlL K) from sl_list) (pv 2) (po_some (pv 5)) (po_some (pe_op op_add (pv 5) (pv 4)))) (pa_cons (pv 3) pa_nil))))) rfl))))))))), ?_⟩
    wtm_at "w0"
    wtm_at "wp"
    refine ⟨x, rfl, hP.wd, fun H1 s1 => ?_⟩
    wtm_at "wp"
    refine ⟨_, rfl, .inl ⟨a, xs, _, 5, rfl, s1 _ _ ha, rr.same s1, by omega, fun y hy => ?_, by decide, fun _ H2 s2 => ?_, fun j hj => ?_⟩⟩
    · obtain ⟨e, he, rfl⟩ := List.mem_map.mp hy
      exact fit_eD' (hP.sml e he).2.1
    · have S2 := s1.trans s2
      wtm_at "wp"
      refine ⟨l, ls, rfl, S2 _ _ hl, hP.ll, hP.lm, fun H3 s3 => ?_⟩
      wtm_at "wp"
      refine ⟨c, rfl, hc1, hc8, ?_⟩
      wtm_at "wp"
      have S3 := S2.trans s3
      refine ⟨a, l, xs, es, ls, rfl, S3 _ _ ha, rr.same S3, hP.ok, hle, S3 _ _ hl, hP.fit, fun H4 s4 => ?_⟩
      have S4 := S3.trans s4
      have h4 := S4 _ _ hd
      wtm_at "wp"
      rename_i H5 k5 h5 H6 k6 h6
      have K6 : KB r H H6 := (KB.of S4).trans (k5.trans k6)
      have ha6 := K6 _ _ ha nra
      have hl6 := K6 _ _ hl nrl
      have rr6 := rr.tupk (fun c ys h => K6 _ _ h (fun z => by rw [z, hd] at h; cases h)) (noLs_es es)
      have free : ∀ c, H6 c = none → H c = none := fun c hc => by
        cases hq : H c with
        | none => rfl
        | some o =>
          have := K6 _ _ hq (fun z => by rw [z, h6] at hc; cases hc)
          rw [hc] at this
          cases this
      try refine w_iRng3 ?_
      wtm_at "wp"
      rw [hxl]
      refine ⟨0, (es.length : Int), (c : Int), cuts es.length c, rfl, rg_small _ hle _ hc1 hc8, ?_⟩
      intro D nD
      refine lc_finD (n := cuts es.length c) fin_rngC nD (fun i acc H' => Same H6 H' ∧ ∃ bs, acc = bs.map rV ∧ BlksN (fun c => H6 c = none ∧ c ≠ D) C_Block H' bs ls ((cutE c es).take i)) (fun H7 s7 hD => ⟨s7, [], rfl, rfl, fun i b e h1 _ => by cases h1⟩) (fun _ _ _ _ _ => trivial) ?_ ?_
      · rintro i v acc H7 H7' hi hac ⟨s7, bs, rfl, hbs⟩ hD ⟨rfl, rfl⟩
        have hblk := cut_at hi
        have hbP := hP.blk (List.mem_of_getElem? hblk)
        have ha7 := s7 _ _ ha6
        wtm_at "wp"
        refine ⟨rfl, ?_⟩
        wtm_at "wp"
        rename_i p8 H8 n8 s8 h8 r9 d9 n9 nd9 H9 s9 h9
        have ei : (0 : Int) + (i : Int) * (c : Int) = ((i * c : Nat) : Int) := by
          rw [Int.zero_add, Int.natCast_mul]
        rw [ei, cutV_pc] at h8
        have rr8 : RpAll H8 ((xs.drop (i * c)).take c) (((es.drop (i * c)).take c).map eD) := by
          rw [List.map_take, List.map_drop]
          exact (((rr6.same s7).same s8).drop _).take _
        refine ⟨r9, d9, p8, l, _, _, ls, rfl, h9, s9 _ _ h8, rr8.same s9, hbP.1, s9 _ _ (s8 _ _ (s7 _ _ hl6)), fun e he => (hP.fit e (hbP.2 e he)).1, fun H10 k10 b10 => ⟨rfl, ?_⟩⟩
        have S10 : Same H8 H10 := k10.same s9 n9
        have hD8 := s8 _ _ hD
        have fr : ∀ c, H8 c = none → H6 c = none ∧ c ≠ D := fun c hc => ⟨same_free (s7.trans s8) hc, fun z => by rw [z, hD8] at hc; cases hc⟩
        refine w_acc (S10 _ _ hD8) hac hi (sz (by have := Nat.div_le_self (es.length + c - 1) c; unfold cuts; omega)) (fun H11 k11 h11 => ⟨?_, bs ++ [r9], by simp, ?_⟩)
        · exact k11.same (s7.trans (s8.trans S10)) nD
        · rw [take_succL hblk]
          have kn : ∀ {J J'}, KB D J J' → KN (fun c => H6 c = none ∧ c ≠ D) J J' := fun k => KN.kb (fun z => z.2 rfl) k
          refine BlksN.snoc ((hbs.kn (KN.of (s8.trans S10))).kn (kn k11)) ((b10.more (fun c hc => ?_)).kn (kn k11))
          rcases hc with rfl | hc
          · exact fr _ n9
          · exact fr _ (same_free s9 hc)
      · rintro acc H7 ⟨s7, bs, rfl, hbs⟩ hac hD
        rw [← cutE_len, List.take_length] at hbs
        have h7 := s7 _ _ h6
        wtm_at "wp"
        rename_i H8 k8 h8
        have nDr : D ≠ r := fun z => by rw [z, h6] at nD; cases nD
        refine k H8 (K6.trans ((KB.of s7).trans k8)) ⟨hP, _, D, bs, .inl rfl, .inr (free D nD), h8, k8 _ _ hD nDr, ?_⟩
        refine (hbs.kn (KN.kb (fun z => ?_) k8)).more (fun c hc => .inr (free c hc.1))
        rw [h6] at z
        cases z.1
    · have hj' : wrE (((0 : Nat) : Int) - 1) 0 (es.map eD) = some j := hj
      rw [none_wrE hP.ok] at hj'
      cases hj'
def spRowB (CB CR : Addr) : Sp := fun vs H Q _ => ∃ (N : Addr → Prop) (r : Addr) (x : Str) (c : Nat) (ls : List Nat) (es : List Etr), vs = [.ref r] ∧ RowN N CB CR H r x c ls es ∧ ∀ p bs H', H p = none → Same H H' → H' p = some (.lst (bs.map rV)) → BlksN N CB H' bs ls (cutE c es) → Q (.ref p) H'
theorem ok_rowb {f : Addr} {fd : FuncData} (F : Fun K "blocks" "Row.blocks" s_Row_blocks f fd) (T : Txt K mg Z C_CodeReader C_Block C_Row C_Walker) : FnOk P w K mg base CX0 1 f fd ["self"] (spRowB C_Block C_Row) := by
  have c1 := T.cl_Row
  have n3 := T.na_Row_kept
  refine F.ok sc_Row_blocks (fun vs H Q E h => ?_) (fun cdv A outer s H vs Q E hr h => ?_)
  · obtain ⟨N, r, x, c, ls, es, rfl, _⟩ := h
    rfl
  · obtain ⟨N, r, x, c, ls, es, rfl, ⟨hP, d, kp, bs, n1, n2, hd, hkp, hb⟩, k⟩ := h
    refine ⟨_, (pss_one (ps_ret (pe_callTy cl_list (by rfl) T.n_list PyProof.Rows.boot_list (pa_cons (pe_fld (pv 0) rfl) pa_nil)))), ?_⟩
    wtm_at "w0"
    wtm_at "wp"
    exact w_listOf (.of hkp) (fun l H2 n2 s2 h2 => k l bs H2 n2 s2 h2 (hb.kn (.of s2)))
def spRowE (CB CR : Addr) : Sp := fun vs H Q _ => ∃ (N : Addr → Prop) (r : Addr) (x : Str) (c : Nat) (ls : List Nat) (es : List Etr), vs = [.ref r] ∧ RowN N CB CR H r x c ls es ∧ ∀ p xs H', H p = none → Same H H' → H' p = some (.lst xs) → RpAll H' xs (es.map eD) → Q (.ref p) H'
theorem ok_rowe {f : Addr} {fd : FuncData} (F : Fun K "entries" "Row.entries" s_Row_entries f fd) (T : Txt K mg Z C_CodeReader C_Block C_Row C_Walker) (me_Block_entries : Me P w K mg base C_Block "entries" 8 ["self"] (spBlkE K C_Block)) : FnOk P w K mg base CX0 9 f fd ["self"] (spRowE C_Block C_Row) := by
  have c1 := T.cl_Row
  have c2 := T.cl_Block
  have n3 := T.na_Row_kept
  refine F.ok sc_Row_entries (fun vs H Q E h => ?_) (fun cdv A outer s H vs Q E hr h => ?_)
  · obtain ⟨N, r, x, c, ls, es, rfl, _⟩ := h
    rfl
  · obtain ⟨N, r, x, c, ls, es, rfl, ⟨hP, d, kp, bs, n1, n2, hd, hkp, hb⟩, k⟩ := h
    have hpart : ∀ i, ((cutE c es).take i).flatten.length ≤ 60 := fun i => by
      have e := flat_cutE (es := es) hP.c1
      rw [← List.take_append_drop i (cutE c es), List.flatten_append] at e
      have h1 := hP.len
      rw [← e, List.length_append] at h1
      omega
    refine ⟨_, (pss_one (ps_ret (pe_lc2 (own := [("block", 1), ("entry", 2)]) (vs1 := [2]) (g := gName 1) (g1 := gName 2) (tt := tYes) (tt1 := tYes) rfl sc_Row_entries.nd (show PI _ _ _ (iList K _) from (pi_list (show PE _ _ (tFld K _ _) from (pe_fld (pv 0) rfl)))) (blkOk_by (own := [("block", 1), ("entry", 2)]) (N := ["self", "block", "entry"]) (sc := defScope s_Row_entries) (by decide +kernel)) (by decide) (fun _ _ _ _ _ => pg_name (i := 1) sc_Row_entries.nd rfl (Or.inl rfl)) (fun _ _ _ _ _ => pts_nil) (fun _ _ _ _ _ => (show PI _ _ _ (iList K _) from (pi_list (pe_me0 (pv 1) T.cl_Block me_Block_entries (hr.mono (by omega)))))) (fun _ _ _ _ _ => pg_name (i := 2) sc_Row_entries.nd rfl (Or.inl rfl)) (fun _ _ _ _ _ => pts_nil) (fun _ _ _ _ _ => (pv 2))))), ?_⟩
    wtm_at "w0"
    wtm_at "wp"
    refine lc2_fin (fin_list (xs := bs.map rV)) (fun i acc H' => Same H H' ∧ RpAll H' acc (((cutE c es).take i).flatten.map eD)) (fun D H4 nD s4 hD => ⟨s4, .nil⟩) (fun i acc H4 _ h => .of (h.1 _ _ hkp)) ?_ ?_
    · rintro D i v acc H4 H5 nD hi ⟨s4, r4⟩ hD ⟨rfl, hv⟩
      rw [List.getElem?_map] at hv
      obtain ⟨b, hb', rfl⟩ := Option.map_eq_some_iff.mp hv
      rw [List.length_map] at hi
      obtain ⟨blk, hblk⟩ : ∃ blk, (cutE c es)[i]? = some blk := ⟨_, List.getElem?_eq_getElem (by rw [← hb.1]; exact hi)⟩
      have hB := (hb.2 i b blk hb' hblk).kn (KN.of s4)
      have hB' := hB
      obtain ⟨hBP, db, tb, _, _, hb0, _⟩ := hB'
      wtm_at "wp"
      refine ⟨rfl, ?_⟩
      wtm_at "wp"
      refine ⟨N, b, ls, blk, rfl, hB, fun q6 H6 n6 s6 r6 => ?_⟩
      obtain ⟨ys, h6, rr6⟩ : ∃ ys, H6 q6 = some (.lst ys) ∧ RpAll H6 ys (blk.map eD) := by
        cases r6 with
        | lst h r => exact ⟨_, h, r⟩
      have hyl := rr6.length
      rw [List.length_map] at hyl
      have hbl := hBP.len
      have hpi := hpart i
      have nqD : q6 ≠ D := fun z => by rw [z, hD] at n6; cases n6
      have hD6 := s6 _ _ hD
      wtm_at "wp"
      refine in_fin (D := D) (fin_list (xs := ys)) (fun j ac H' => KB D H6 H' ∧ RpAll H' ac ((((cutE c es).take i).flatten ++ blk.take j).map eD)) ⟨acc, hD6, KB.refl, by simpa using r4.same s6⟩ (fun j ac H' _ h => .of (h.1 _ _ h6 nqD)) ?_ ?_
      · rintro j y ac H7 H8 hj ⟨k7, r7⟩ hD7 ⟨rfl, hy⟩
        obtain ⟨dd, g1, g2⟩ := rr6.at hy
        rw [List.getElem?_map] at g1
        obtain ⟨e, he, rfl⟩ := Option.map_eq_some_iff.mp g1
        wtm_at "wp"
        refine ⟨rfl, ?_⟩
        wtm_at "wp"
        refine w_accJ hD7 ?_ (fun H9 k9 h9 => ⟨k7.trans k9, ?_⟩)
        · have := r7.length
          rw [List.length_map, List.length_append, List.length_take] at this
          omega
        · rw [take_succL he, ← List.append_assoc, List.map_append]
          exact (r7.tupk (TupK.kb k9 hD7) (noLs_es _)).append (.cons (g2.tupk ((TupK.kb k7 hD6).trans (TupK.kb k9 hD7)) (noL_eD e)) .nil)
      · rintro ac H7 ⟨k7, r7⟩ hD7
        refine ⟨ac, hD7, k7.same (s4.trans s6) nD, ?_⟩
        rw [hyl, List.take_length] at r7
        rw [take_succL hblk, List.flatten_append]
        simpa using r7
    · rintro D acc H4 nD ⟨s4, r4⟩ hD
      rw [List.length_map, hb.1, List.take_length, flat_cutE hP.c1] at r4
      exact k D acc H4 nD s4 hD r4
def spRowL (CB CR : Addr) : Sp := fun vs H Q _ => ∃ (N : Addr → Prop) (r : Addr) (x : Str) (c : Nat) (ls : List Nat) (es : List Etr), vs = [.ref r] ∧ RowN N CB CR H r x c ls es ∧ ∀ H', Same H H' → Q (.int es.length) H'
theorem ok_rowl {f : Addr} {fd : FuncData} (F : Fun K "__len__" "Row.__len__" s_Row___len__ f fd) (T : Txt K mg Z C_CodeReader C_Block C_Row C_Walker) (me_Row_entries : Me P w K mg base C_Row "entries" 9 ["self"] (spRowE C_Block C_Row)) : FnOk P w K mg base CX0 10 f fd ["self"] (spRowL C_Block C_Row) := by
  have c1 := T.cl_Row
  refine F.ok sc_Row___len__ (fun vs H Q E h => ?_) (fun cdv A outer s H vs Q E hr h => ?_)
  · obtain ⟨N, r, x, c, ls, es, rfl, _⟩ := h
    rfl
  · obtain ⟨N, r, x, c, ls, es, rfl, hR, k⟩ := h
    refine ⟨_, (pss_one (ps_ret (pe_callB cl_len (by rfl) T.n_len PySem.boot_len (pa_cons (pe_me0 (pv 0) T.cl_Row me_Row_entries (hr.mono (by omega))) pa_nil)))), ?_⟩
    have hR' := hR
    obtain ⟨hP, d, kp, bs, n1, n2, hd, hkp, hb⟩ := hR'
    wtm_at "w0"
    wtm_at "wp"
    refine ⟨N, r, x, c, ls, es, rfl, hR, fun p xs H2 n2 s2 h2 rr => ?_⟩
    refine w_lenL (.of h2) ?_
    have := rr.length
    rw [List.length_map] at this
    rw [this]
    exact k _ s2

end
end K16

namespace K16
section
variable {P : Program} {w : World} {K : PySem.W.Frag} {mg : Str → Option Value} {base : Heap} {Z : Zs} {C_CodeReader C_Block C_Row C_Walker : Addr}
abbrev s_law_pool : Stmt := topS 55
theorem sc_law_pool : FnScope ["_law_script", "_law_at", "_law_cell", "_law_far"] ["_law_script", "_law_at"] (defScope s_law_pool) := ⟨rfl, rfl, rfl, by decide +kernel, rfl, by decide +kernel, by decide +kernel⟩
abbrev s_law_take : Stmt := topS 56
theorem sc_law_take : FnScope ["_law_pool_here", "_law_many", "_law_digit", "_law_turn", "_law_one", "_law_other"] ["_law_pool_here", "_law_many"] (defScope s_law_take) := ⟨rfl, rfl, rfl, by decide +kernel, rfl, by decide +kernel, by decide +kernel⟩
/-! ### draws -/
/-- a pool at p: three numbers -/
def Pool (H : Hp) (p : Addr) (n : Nat) : Prop := ∃ a b c : Int, H p = some (.lst [.int a, .int b, .int c]) ∧ 0 ≤ a ∧ 0 ≤ b ∧ b < 10 ^ 30 ∧ 0 ≤ c ∧ c ≤ n
theorem Pool.mono {H H' : Hp} {p : Addr} {n n' : Nat} (h : Pool H p n) (e : Same H H') (hn : n ≤ n') : Pool H' p n' := by
  obtain ⟨a, b, c, h, h1, h2, h3, h4, h5⟩ := h
  exact ⟨a, b, c, e _ _ h, h1, h2, h3, h4, by omega⟩
theorem Pool.ext {H H' : Hp} {p : Addr} {n n' : Nat} (h : Pool H p n) (e : LamX.ExtN H H') (hn : n ≤ n') : Pool H' p n' := by
  obtain ⟨a, b, c, h, h1, h2, h3, h4, h5⟩ := h
  exact ⟨a, b, c, e _ _ h (fun _ z => by cases z), h1, h2, h3, h4, by omega⟩
theorem Pool.at {H : Hp} {p : Addr} {n : Nat} (h : Pool H p n) : ∃ xs, H p = some (.lst xs) := by
  obtain ⟨a, b, c, h, _⟩ := h
  exact ⟨_, h⟩
def spTake : Sp := fun vs H Q _ => ∃ (p : Addr) (m : Int) (n : Nat), vs = [.ref p, .int m] ∧ Pool H p n ∧ n ≤ 10 ^ 9 ∧ 0 < m ∧ m ≤ 10 ^ 30 ∧
  ∀ (d : Int) H', 0 ≤ d → d < m → KB p H H' → Pool H' p (n + 1) → Q (.int d) H'
theorem ok_take {f : Addr} {fd : FuncData} (F : Fun K "_law_take" "_law_take" s_law_take f fd) : FnOk P w K mg base CX0 1 f fd ["_law_pool_here", "_law_many"] spTake := by
  refine F.ok sc_law_take (fun vs H Q E h => ?_) (fun cdv A outer s H vs Q E hr h => ?_)
  · obtain ⟨p, m, n, rfl, _⟩ := h
    rfl
  · obtain ⟨p, m, n, rfl, ⟨a, b, c, hp, ha, hb, hb2, hc, hc2⟩, hn, hm, hm2, k⟩ := h
    have hb2' : b < 1000000000000000000000000000000 := hb2
    have hn' : n ≤ 1000000000 := hn
    have hm2' : m ≤ 1000000000000000000000000000000 := hm2
    have hdv : CDivU a m := divU (b := 128) (by omega) (by omega) (by decide) (by decide)
    have hcc : (c + 1) * (c + 1) ≤ 1000000001 * 1000000001 := Int.mul_le_mul (by omega) (by omega) (by omega) (by omega)
    have hcc0 : 0 ≤ (c + 1) * (c + 1) := Int.mul_nonneg (by omega) (by omega)
    refine ⟨_, (pss_cons (ps_if (pt_cmpR op_gt (pe_ix ix_list (pv 0) pe_int (fun _ _ => rfl)) pe_int (nomark _))
 (pss_cons (ps_set (i := 2) sc_law_take.nd rfl (.inl rfl) (pe_op op_mod (pe_ix ix_list (pv 0) pe_int (fun _ _ => rfl)) (pv 1)))
 (pss_cons (ps_asg (pe_op op_fdivU (pe_ix ix_list (pv 0) pe_int (fun _ _ => rfl)) (pv 1)) (pg_sub (pv 0) pe_int set_list))
 (pss_one (ps_ret (pv 2)))))
 pss_nil)
 (pss_cons (ps_asg (pe_op op_add (pe_ix ix_list (pv 0) pe_int (fun _ _ => rfl)) pe_int) (pg_sub (pv 0) pe_int set_list))
 (pss_cons (ps_set (i := 3) sc_law_take.nd rfl (.inl rfl) (pe_ix ix_list (pv 0) pe_int (fun _ _ => rfl)))
 (pss_cons (ps_set (i := 4) sc_law_take.nd rfl (.inl rfl) (pe_op op_mod (pe_op op_powU (pe_op op_add (pe_op op_add (pe_ix ix_list (pv 0) pe_int (fun _ _ => rfl)) (pe_op op_mulU (pe_op op_mulU pe_int (pv 3)) (pv 3))) pe_int) pe_int) pe_int))
 (pss_cons (ps_set (i := 5) sc_law_take.nd rfl (.inl rfl) (pe_op op_mod (pe_op op_add (pe_op op_powU (pv 4) pe_int) (pe_op op_mulU pe_int (pv 3))) pe_int))
 (pss_one (ps_ret (pe_op op_mod (pe_op op_fdivU (pe_op op_add (pe_op op_mulU (pv 4) pe_int) (pe_op op_mulU (pv 5) (pv 5))) pe_int) (pv 1))))))))), ?_⟩
    wtm_at "w0"
    wtm_at "wp"
    refine w_dec (fun h0 => ?_) (fun h0 => ?_)
    · wtm_at "wp"
      rename_i H1 k1 e1
      refine k _ _ (Int.emod_nonneg _ (by omega)) (Int.emod_lt_of_pos _ hm) k1 ⟨_, _, _, e1, ?_, hb, hb2, hc, by omega⟩
      rw [Int.fdiv_eq_ediv_of_nonneg _ (Int.le_of_lt hm)]
      exact Int.ediv_nonneg ha (Int.le_of_lt hm)
    · wtm_at "wp"
      · refine powU (a := 200) ?_ (by decide) (by decide) (by decide)
        rw [Int.mul_assoc]
        omega
      rename_i H1 k1 e1
      generalize (b + 69621 * (c + 1) * (c + 1) + 3) ^ Int.toNat 3 = x3
      have o1 := Int.emod_nonneg x3 (show (2147483629 : Int) ≠ 0 by decide)
      have o2 := Int.emod_lt_of_pos x3 (show (0 : Int) < 2147483629 by decide)
      iterate 4 wtm_at "w1"
      generalize x3 % 2147483629 = one at o1 o2 ⊢
      wtm_at "wp"
      generalize one ^ Int.toNat 3 + 30011 * (c + 1) = y3
      have q1 := Int.emod_nonneg y3 (show (998244353 : Int) ≠ 0 by decide)
      have q2 := Int.emod_lt_of_pos y3 (show (0 : Int) < 998244353 by decide)
      generalize y3 % 998244353 = other at q1 q2 ⊢
      wtm_at "wp"
      exact k _ _ (Int.emod_nonneg _ (by omega)) (Int.emod_lt_of_pos _ hm) k1 ⟨_, _, _, e1, ha, hb, hb2, by omega, by omega⟩
def spPool (K : PySem.W.Frag) : Sp := fun vs H Q _ => ∃ (a : Addr) (ns : List Int) (j : Nat), vs = [.ref a, .int j] ∧ SqL K H a (ns.map V.int) ∧ j ≤ 63 ∧
  ∀ p H', H p = none → Same H H' → Pool H' p 0 → Q (.ref p) H'
theorem pool_num {c : Int} {j : Nat} (hj : j ≤ 63) : 0 ≤ c % 2147483647 * 48271 + 7919 * j + 31 ∧ c % 2147483647 * 48271 + 7919 * j + 31 < 10 ^ 30 := by
  have h1 := Int.emod_nonneg c (show (2147483647 : Int) ≠ 0 by decide)
  have h2 := Int.emod_lt_of_pos c (show (0 : Int) < 2147483647 by decide)
  constructor <;> omega
theorem ok_pool {f : Addr} {fd : FuncData} (F : Fun K "_law_pool" "_law_pool" s_law_pool f fd) (T : Txt K mg Z C_CodeReader C_Block C_Row C_Walker) : FnOk P w K mg base CX0 1 f fd ["_law_script", "_law_at"] (spPool K) := by
  refine F.ok sc_law_pool (fun vs H Q E h => ?_) (fun cdv A outer s H vs Q E hr h => ?_)
  · obtain ⟨a, ns, j, rfl, _⟩ := h
    rfl
  · obtain ⟨a, ns, j, rfl, hS, hj, k⟩ := h
    refine ⟨_, (pss_cons (ps_set (i := 2) sc_law_pool.nd rfl (.inl rfl) pe_int)
 (pss_cons (ps_if (pt_cmpR op_lt (pv 1) (pe_callB cl_len (by rfl) T.n_len PySem.boot_len (pa_cons (pv 0) pa_nil)) (nomark _))
 (pss_one (ps_set (i := 2) sc_law_pool.nd rfl (.inl rfl) (pe_ix ix_list (pv 0) (pv 1) (fun _ _ => rfl))))
 pss_nil)
 (pss_cons (ps_set (i := 3) sc_law_pool.nd rfl (.inl rfl) (pe_callB cl_abs (by rfl) T.n_abs PyProof.Rows.boot_abs (pa_cons (pv 2) pa_nil)))
 (pss_one (ps_ret (pe_lst (pa_cons (pe_op op_mulU (pv 3) (pe_callTy cl_int (by rfl) T.n_int PyProof.Rows.boot_int (pa_cons (pe_cmpR op_ge (pv 3) (pe_op op_powU pe_int pe_int) (nomark _)) pa_nil))) (pa_cons (pe_op op_add (pe_op op_add (pe_op op_mulU (pe_op op_mod (pv 2) pe_int) pe_int) (pe_op op_mulU pe_int (pv 1))) pe_int) (pa_cons pe_int pa_nil))))))))), ?_⟩
    wtm_at "w0"
    wtm_at "wp"
    refine w_dec (fun h0 => ?_) (fun h0 => ?_)
    · have hl : j < ns.length := by
        rw [List.length_map] at h0
        omega
      have hx : atI (ns.map V.int) (j : Int) = some (.int ns[j]) := atI_nat (by rw [List.getElem?_map, List.getElem?_eq_getElem hl]; rfl)
      wtm_at "wp"
      rename_i p np H1 s1 hp
      exact k _ _ np s1 ⟨_, _, _, hp, Int.mul_nonneg (by omega) (by split <;> omega), (pool_num hj).1, (pool_num hj).2, by omega, by omega⟩
    · wtm_at "wp"
      rename_i p np H1 s1 hp
      exact k _ _ np s1 ⟨_, _, _, hp, Int.mul_nonneg (by omega) (by split <;> omega), (pool_num hj).1, (pool_num hj).2, by omega, by omega⟩

abbrev s_law_kinds : Stmt := topS 57
theorem sc_law_kinds : FnScope ["_law_pool_here", "_law_some", "_law_start"] ["_law_pool_here"] (defScope s_law_kinds) := ⟨rfl, rfl, rfl, by decide +kernel, rfl, by decide +kernel, by decide +kernel⟩
/-! ### kinds of words, and words of these kinds -/
theorem Pool.kb {p D : Addr} {H4 H5 : Hp} {n : Nat} (h : Pool H4 p n) (b : KB D H4 H5) (ne : p ≠ D) : Pool H5 p n := by
  obtain ⟨x, y, z, h, r⟩ := h
  exact ⟨x, y, z, b _ _ h ne, r⟩
theorem Pool.le {p : Addr} {H : Hp} {n m : Nat} (h : Pool H p n) (l : n ≤ m) : Pool H p m := h.mono (.refl _) l
def nine : List Str := ["a", "b", "ab", "ba", "aa", "bab", "abcdefghijkl", "z", "aab"]
def cutK (s d : Nat) : List Str := ((nine ++ nine).drop s).take (1 + d)
theorem cutK_ok : ∀ s < 9, ∀ d < 5, (cutK s d).length = 1 + d ∧ (cutK s d).all isW = true ∧ (cutK s d).Nodup := by decide +kernel
theorem cutV_kinds {s d : Int} (hs : 0 ≤ s) (hs9 : s < 9) (hd : 0 ≤ d) (hd5 : d < 5) : cutV ((nine ++ nine).map V.str) (some s) (some (s + 1 + d)) = (cutK s.toNat d.toNat).map V.str := by
  obtain ⟨m, rfl⟩ := Int.eq_ofNat_of_zero_le hs
  obtain ⟨n, rfl⟩ := Int.eq_ofNat_of_zero_le hd
  have hl : ((nine ++ nine).map V.str).length = 18 := rfl
  have h1 : HT.sIx 18 0 (some (m : Int)) = m := by
    unfold HT.sIx
    simp only
    split <;> omega
  have h2 : HT.sIx 18 18 (some ((m : Int) + 1 + n)) = m + 1 + n := by
    unfold HT.sIx
    simp only
    split <;> omega
  unfold cutV cutK
  rw [hl, h1, h2, Int.toNat_natCast, Int.toNat_natCast, ← List.map_drop, ← List.map_take]
  congr 2
  omega
/-- one to five unlike words -/
def spKinds : Sp := fun vs H Q _ => ∃ (p : Addr) (n : Nat), vs = [.ref p] ∧ Pool H p n ∧ n ≤ 10 ^ 8 ∧
  ∀ (q : Addr) (ws : List Str) H', H q = none → KB p H H' → Pool H' p (n + 2) → H' q = some (.lst (ws.map V.str)) → 1 ≤ ws.length → ws.length ≤ 5 → (∀ x ∈ ws, isW x = true) → ws.Nodup → Q (.ref q) H'
theorem ok_kinds {f : Addr} {fd : FuncData} (F : Fun K "_law_kinds" "_law_kinds" s_law_kinds f fd) (T : Txt K mg Z C_CodeReader C_Block C_Row C_Walker) (f__law_take : Fn P w K mg base "_law_take" 1 ["_law_pool_here", "_law_many"] spTake) : FnOk P w K mg base CX0 2 f fd ["_law_pool_here"] spKinds := by
  refine F.ok sc_law_kinds (fun vs H Q E h => ?_) (fun cdv A outer s H vs Q E hr h => ?_)
  · obtain ⟨p, n, rfl, _⟩ := h
    rfl
  · obtain ⟨p, n, rfl, hp, hn, k⟩ := h
    have hn' : n ≤ 100000000 := hn
    obtain ⟨xs, hpx⟩ := hp.at
    refine ⟨_, (pss_cons (ps_set (i := 1) sc_law_kinds.nd rfl (.inl rfl) (pe_lst (pa_cons pe_str (pa_cons pe_str (pa_cons pe_str (pa_cons pe_str (pa_cons pe_str (pa_cons pe_str (pa_cons pe_str (pa_cons pe_str (pa_cons pe_str pa_nil)))))))))))
 (pss_cons (ps_set (i := 2) sc_law_kinds.nd rfl (.inl rfl) (pe_fn f__law_take (hr.mono (by omega)) rfl (pa_cons (pv 0) (pa_cons pe_int pa_nil))))
 (pss_one (ps_ret (pe_slice sl_list (pe_op op_cat (pv 1) (pv 1)) (po_some (pv 2)) (po_some (pe_op op_add (pe_op op_add (pv 2) pe_int) (pe_fn f__law_take (hr.mono (by omega)) rfl (pa_cons (pv 0) (pa_cons pe_int pa_nil)))))))))), ?_⟩
    wtm_at "w0"
    wtm_at "wp"
    rename_i q nq H1 s1 hq
    refine ⟨p, 9, n, rfl, hp.mono s1 (Nat.le_refl _), by omega, by decide, by decide, fun d H2 d0 d9 k2 hp2 => ?_⟩
    have npq : p ≠ q := ne_of_none hpx nq
    have hq2 := k2 _ _ hq npq.symm
    wtm_at "wp"
    rename_i r H3 nr s3 hr3
    refine ⟨p, 5, _, rfl, hp2.mono s3 (Nat.le_refl _), by omega, by decide, by decide, fun e H4 e0 e5 k4 hp4 => ?_⟩
    have hp2x := hp2.at.choose_spec
    have npr : p ≠ r := ne_of_none hp2x nr
    have hr4 := k4 _ _ hr3 npr.symm
    wtm_at "wp"
    rename_i u H5 nu s5 hu5
    have kk : KB p H H4 := ((KB.of s1).trans k2).trans ((KB.of s3).trans k4)
    have e1 := cutV_kinds d0 d9 e0 e5
    obtain ⟨c1, c2, c3⟩ := cutK_ok d.toNat (by omega) e.toNat (by omega)
    have hu5' : H5 u = some (.lst ((cutK d.toNat e.toNat).map V.str)) := hu5.trans (congrArg (fun z => some (HO.lst z)) e1)
    exact k u _ H5 (kb_newD kk hp4.at.choose_spec nu) (kk.trans (KB.of s5)) (hp4.mono s5 (by omega)) hu5' (by omega) (by omega) (fun x hx => List.all_eq_true.mp c2 x hx) c3

abbrev s_law_row_entries : Stmt := topS 59
theorem sc_law_row_entries : FnScope ["_law_pool_here", "_law_many", "_law_most", "_law_told", "_law_slot_here", "_law_k", "_law_spots", "_law_last", "_law_j"] ["_law_pool_here", "_law_many", "_law_most"] (defScope s_law_row_entries) := ⟨rfl, rfl, rfl, by decide +kernel, rfl, by decide +kernel, by decide +kernel⟩
abbrev s_law_lengths : Stmt := topS 60
theorem sc_law_lengths : FnScope ["_law_pool_here", "_law_entries", "_law_told", "_law_slot_here", "_law_need", "_law_spots", "_law_other"] ["_law_pool_here", "_law_entries"] (defScope s_law_lengths) := ⟨rfl, rfl, rfl, by decide +kernel, rfl, by decide +kernel, by decide +kernel⟩
/-- entries of a row, drawn -/
def spREnts : Sp := fun vs H Q _ => ∃ (p : Addr) (n many most : Nat), vs = [.ref p, .int many, .int most] ∧ Pool H p n ∧ n ≤ 10 ^ 6 ∧ many ≤ 20 ∧ 1 ≤ most ∧ most ≤ 7 ∧
  ∀ (l : Addr) (xs : List V) (es : List Etr) H', H l = none → KB p H H' → Pool H' p (n + 1 + 40 * many) → H' l = some (.lst xs) → RpAll H' xs (es.map eD) → EntOk 0 es → es.length ≤ many → (∀ e ∈ es, e.1 < 3 * many ∧ e.2.length ≤ most ∧ ∀ m ∈ e.2, m < 119) → Q (.ref l) H'
theorem ok_rents {f : Addr} {fd : FuncData} (F : Fun K "_law_row_entries" "_law_row_entries" s_law_row_entries f fd) (T : Txt K mg Z C_CodeReader C_Block C_Row C_Walker) (f__law_take : Fn P w K mg base "_law_take" 1 ["_law_pool_here", "_law_many"] spTake) : FnOk P w K mg base CX0 2 f fd ["_law_pool_here", "_law_many", "_law_most"] spREnts := by
  refine F.ok sc_law_row_entries (fun vs H Q E h => ?_) (fun cdv A outer s H vs Q E hr h => ?_)
  · obtain ⟨p, n, many, most, rfl, _⟩ := h
    rfl
  · obtain ⟨p, n, many, most, rfl, hp, hn, hm, hm1, hm2, k⟩ := h
    have hn' : n ≤ 1000000 := hn
    refine ⟨_, (pss_cons (ps_set (i := 3) sc_law_row_entries.nd rfl (.inl rfl) (pe_lst pa_nil))
 (pss_cons (ps_set (i := 4) sc_law_row_entries.nd rfl (.inl rfl) (pe_un un_neg pe_int))
 (pss_cons (ps_for PassesOwn.never rfl (pi_range1 (by rfl) T.n_range (pa_cons (pe_fn f__law_take (hr.mono (by omega)) rfl (pa_cons (pv 0) (pa_cons (pe_op op_add (pv 1) pe_int) pa_nil))) pa_nil)) (pg_name (i := 5) sc_law_row_entries.nd rfl (.inl rfl))
 (pss_cons (ps_set (i := 4) sc_law_row_entries.nd rfl (.inl rfl) (pe_op op_add (pe_op op_add (pv 4) pe_int) (pe_ix ix_list (pe_lst (pa_cons pe_int (pa_cons pe_int (pa_cons pe_int (pa_cons pe_int pa_nil))))) (pe_fn f__law_take (hr.mono (by omega)) rfl (pa_cons (pv 0) (pa_cons pe_int pa_nil))) (fun _ _ => rfl))))
 (pss_cons (ps_set (i := 6) sc_law_row_entries.nd rfl (.inl rfl) (pe_lst pa_nil))
 (pss_cons (ps_set (i := 7) sc_law_row_entries.nd rfl (.inl rfl) (pe_un un_neg pe_int))
 (pss_cons (ps_for PassesOwn.never rfl (pi_range1 (by rfl) T.n_range (pa_cons (pe_op op_add pe_int (pe_fn f__law_take (hr.mono (by omega)) rfl (pa_cons (pv 0) (pa_cons (pv 2) pa_nil)))) pa_nil)) (pg_name (i := 8) sc_law_row_entries.nd rfl (.inl rfl))
 (pss_cons (ps_set (i := 7) sc_law_row_entries.nd rfl (.inl rfl) (pe_op op_add (pe_op op_add (pv 7) pe_int) (pe_ix ix_list (pe_lst (pa_cons pe_int (pa_cons pe_int (pa_cons (pe_fn f__law_take (hr.mono (by omega)) rfl (pa_cons (pv 0) (pa_cons pe_int pa_nil))) (pa_cons (pe_op op_add pe_int (pe_fn f__law_take (hr.mono (by omega)) rfl (pa_cons (pv 0) (pa_cons pe_int pa_nil)))) pa_nil))))) (pe_fn f__law_take (hr.mono (by omega)) rfl (pa_cons (pv 0) (pa_cons pe_int pa_nil))) (fun _ _ => rfl))))
 (pss_one (ps_expr (pe_bm PySem.F.plainAttrs_list PySem.F.slot_list_append PySem.F.type_list_append mt_append (pv 6) (pa_cons (pv 7) pa_nil))))))
 (pss_one (ps_expr (pe_bm PySem.F.plainAttrs_list PySem.F.slot_list_append PySem.F.type_list_append mt_append (pv 3) (pa_cons (pe_tup (pa_cons (pv 4) (pa_cons (pe_callTy cl_tuple (by rfl) T.n_tuple PyProof.Rows.boot_tuple (pa_cons (pv 6) pa_nil)) pa_nil))) pa_nil)))))))))
 (pss_one (ps_ret (pv 3)))))), ?_⟩
    wtm_at "w0"
    wtm_at "wp"
    rename_i l nl H1 s1 h1
    have p1 := hp.mono s1 (Nat.le_refl _)
    refine ⟨p, (many : Int) + 1, _, rfl, p1, by omega, by omega, by omega, fun d2 H2 d20 d21 k2 p2 => ?_⟩
    obtain ⟨c, rfl⟩ := Int.eq_ofNat_of_zero_le d20
    have nlp : l ≠ p := (ne_of_none hp.at.choose_spec nl).symm
    have h2 := k2 _ _ h1 nlp
    wtm_at "wp"
    refine ⟨_, rfl, by omega, by omega, ?_⟩
    refine for_fin (n := ((c : Nat) : Int).toNat) fin_rng (fun i σ H' => ∃ (v5 v6 v7 v8 : Option V) (xs : List V) (es : List Etr), σ = [some (.ref p), some (.int many), some (.int most), some (.ref l), some (.int ((CM.nextB 0 (es.map (·.1)) : Nat) - 1)), v5, v6, v7, v8] ∧ KB p H H' ∧ Pool H' p (n + 1 + 40 * i) ∧ H' l = some (.lst xs) ∧ RpAll H' xs (es.map eD) ∧ EntOk 0 es ∧ es.length = i ∧ CM.nextB 0 (es.map (·.1)) ≤ 3 * i ∧ (∀ e ∈ es, e.1 < 3 * i ∧ e.2.length ≤ most ∧ ∀ m ∈ e.2, m < 119)) ⟨_, _, _, _, [], [], rfl, (KB.of s1).trans k2, p2, h2, .nil, ⟨trivial, fun e he => absurd he (by simp)⟩, rfl, by simp [CM.nextB], fun e he => absurd he (by simp)⟩ (fun _ _ _ _ _ => trivial) ?_ ?_
    · rintro i z σ H3 H3' hi ⟨v5, v6, v7, v8, xs, es, rfl, k3, p3, h3, rr3, ok3, len3, nb3, sm3⟩ ⟨rfl, rfl⟩
      have tk : ∀ {J J' : Hp} {q : Addr} {ys : List V}, J q = some (.lst ys) → KB q J J' → TupK J J' := fun hq kk => TupK.kb kk hq
      wtm_at "wp"
      rename_i l5 n5 H5 s5 h5
      have p5 := p3.mono s5 (Nat.le_refl _)
      refine ⟨p, 4, _, rfl, p5, by omega, by decide, by decide, fun b6 H6 b60 b61 k6 p6 => ?_⟩
      have nl5 : l5 ≠ p := (ne_of_none p3.at.choose_spec n5).symm
      obtain ⟨w6, hat6, hw6⟩ : ∃ w : Nat, atI [V.int 0, V.int 0, V.int 1, V.int 2] b6 = some (.int w) ∧ w ≤ 2 := by
        have hb : b6 = 0 ∨ b6 = 1 ∨ b6 = 2 ∨ b6 = 3 := by omega
        rcases hb with rfl | rfl | rfl | rfl
        · exact ⟨0, rfl, by decide⟩
        · exact ⟨0, rfl, by decide⟩
        · exact ⟨1, rfl, by decide⟩
        · exact ⟨2, rfl, by decide⟩
      refine w_ixL (.of (k6 _ _ h5 nl5)) hat6 ?_
      have K6 : KB p H3' H6 := (KB.of s5).trans k6
      have h36 := K6 _ _ h3 nlp
      have rr6 := rr3.tupk (tk p3.at.choose_spec K6) (noLs_es es)
      generalize hB : CM.nextB 0 (es.map (·.1)) = B at *
      have esl : (B : Int) - 1 + 1 + (w6 : Int) = ((B + w6 : Nat) : Int) := by omega
      wtm_at "wp"
      rw [esl]
      rename_i ls nls H7 s7 h7
      have p7 := p6.mono s7 (Nat.le_refl _)
      refine ⟨p, most, _, rfl, p7, by omega, by omega, by omega, fun d8 H8 d80 d81 k8 p8 => ?_⟩
      obtain ⟨e8, rfl⟩ := Int.eq_ofNat_of_zero_le d80
      have nlsp : ls ≠ p := (ne_of_none p6.at.choose_spec nls).symm
      have nlsl : ls ≠ l := (ne_of_none h36 nls).symm
      have h78 := k8 _ _ h7 nlsp
      have K68 : KB p H6 H8 := (KB.of s7).trans k8
      have e1 : (1 : Int) + (e8 : Int) = ((1 + e8 : Nat) : Int) := by omega
      wtm_at "wp"
      rw [e1]
      refine ⟨_, rfl, by omega, by omega, ?_⟩
      have nls0 : H ls = none := by
        cases hq : H ls with
        | none => rfl
        | some o =>
          have := (k3.trans K6) _ _ hq nlsp
          rw [nls] at this
          cases this
      have rr8 := rr6.tupk (tk p6.at.choose_spec K68) (noLs_es es)
      refine for_fin (n := ((1 + e8 : Nat) : Int).toNat) fin_rng (fun j σ H' => ∃ (v8 : Option V) (ms : List Nat), σ = [some (.ref p), some (.int many), some (.int most), some (.ref l), some (.int ((B + w6 : Nat) : Int)), some (.int (0 + (i : Int))), some (.ref ls), some (.int ((CM.nextB 0 ms : Nat) - 1)), v8] ∧ KB p H H' ∧ Pool H' p (n + 1 + 40 * i + 3 + 3 * j) ∧ H' l = some (.lst xs) ∧ RpAll H' xs (es.map eD) ∧ H' ls = some (.lst (ms.map nV)) ∧ CM.Rising 0 ms ∧ ms.length = j ∧ CM.nextB 0 ms ≤ 17 * j ∧ (∀ m ∈ ms, m < 17 * j)) ⟨_, [], rfl, k3.trans (K6.trans K68), p8.mono (.refl _) (by omega), K68 _ _ h36 nlp, rr8, h78, trivial, rfl, by simp [CM.nextB], fun m hm => absurd hm (by simp)⟩ (fun _ _ _ _ _ => trivial) ?_ ?_
      · rintro j z σ H9 H9' hj ⟨v8', ms, rfl, k9, p9, hl9, rr9, hs9, ri9, le9, nb9, sm9⟩ ⟨rfl, rfl⟩
        wtm_at "wp"
        refine ⟨p, 3, _, rfl, p9, by omega, by decide, by decide, fun x10 H10 x100 x101 k10 p10 => ?_⟩
        wtm_at "wp"
        refine ⟨p, 4, _, rfl, p10, by omega, by decide, by decide, fun x11 H11 x110 x111 k11 p11 => ?_⟩
        wtm_at "wp"
        rename_i l12 n12 H12 s12 h12
        have p12 := p11.mono s12 (Nat.le_refl _)
        refine ⟨p, 4, _, rfl, p12, by omega, by decide, by decide, fun x13 H13 x130 x131 k13 p13 => ?_⟩
        have nl12 : l12 ≠ p := (ne_of_none p11.at.choose_spec n12).symm
        obtain ⟨w9, hat9, hw9⟩ : ∃ w : Nat, atI [V.int 0, V.int 0, V.int x10, V.int (13 + x11)] x13 = some (.int w) ∧ w ≤ 16 := by
          obtain ⟨q, rfl⟩ := Int.eq_ofNat_of_zero_le x100
          obtain ⟨q', rfl⟩ := Int.eq_ofNat_of_zero_le x110
          have hb : x13 = 0 ∨ x13 = 1 ∨ x13 = 2 ∨ x13 = 3 := by omega
          rcases hb with rfl | rfl | rfl | rfl
          · exact ⟨0, rfl, by decide⟩
          · exact ⟨0, rfl, by decide⟩
          · exact ⟨q, rfl, by omega⟩
          · exact ⟨13 + q', by
              show some (V.int (13 + (q' : Int))) = _
              rw [show ((13 + q' : Nat) : Int) = 13 + (q' : Int) by omega], by omega⟩
        refine w_ixL (.of (k13 _ _ h12 nl12)) hat9 ?_
        have K13 : KB p H9' H13 := k10.trans (k11.trans ((KB.of s12).trans k13))
        have esl' : ((CM.nextB 0 ms : Nat) : Int) - 1 + 1 + (w9 : Int) = ((CM.nextB 0 ms + w9 : Nat) : Int) := by omega
        wtm_at "wp"
        rw [esl']
        refine w_append (K13 _ _ hs9 nlsp) (Nat.lt_of_le_of_lt (by rw [List.length_map]; omega : _ ≤ 100) (by decide)) (fun H14 k14 h14 => ?_)
        have rr14 := (rr9.tupk (tk p9.at.choose_spec K13) (noLs_es es)).tupk (tk (K13 _ _ hs9 nlsp) k14) (noLs_es es)
        refine ⟨some (.int (0 + (j : Int))), ms ++ [CM.nextB 0 ms + w9], ?_, kb2 (k9.trans K13) k14 nls0, (p13.kb k14 nlsp.symm).mono (.refl _) (by omega), k14 _ _ (K13 _ _ hl9 nlp) nlsl.symm, rr14, ?_, CM.rising_snoc ri9 (by omega), by simp [le9], ?_, fun m hm => ?_⟩
        · rw [CM.nextB_snoc]
          have : ((CM.nextB 0 ms + w9 + 1 : Nat) : Int) - 1 = ((CM.nextB 0 ms + w9 : Nat) : Int) := by omega
          rw [this]
          rfl
        · rw [h14, List.map_append]
          rfl
        · rw [CM.nextB_snoc]
          omega
        · rcases List.mem_append.mp hm with hm | hm
          · have := sm9 m hm
            omega
          · rw [List.mem_singleton.mp hm]
            omega
      · rintro σ H9 ⟨v8', ms, rfl, k9, p9, hl9, rr9, hs9, ri9, le9, nb9, sm9⟩
        have hj : ((1 + e8 : Nat) : Int).toNat = 1 + e8 := by omega
        rw [hj] at le9 p9 nb9 sm9
        wtm_at "wp"
        refine w_tupOf (.of hs9) (fun t10 H10 n10 s10 h10 => ?_)
        wtm_at "wp"
        rename_i t11 n11 H11 s11 h11
        have hxl := rr3.length
        rw [List.length_map] at hxl
        refine w_append (s11 _ _ (s10 _ _ hl9)) (Nat.lt_of_le_of_lt (by omega : xs.length ≤ 100) (by decide)) (fun H12 k12 h12 => ?_)
        have S11 := s10.trans s11
        have n10l : t10 ≠ l := (ne_of_none hl9 n10).symm
        have n11l : t11 ≠ l := (ne_of_none (s10 _ _ hl9) n11).symm
        have rr12 := (rr9.same S11).tupk (tk (S11 _ _ hl9) k12) (noLs_es es)
        have p12 := ((p9.mono S11 (Nat.le_refl _)).kb k12 nlp.symm)
        have hmne : ms ≠ [] := fun z => by
          have : ms.length = 0 := by rw [z]; rfl
          omega
        refine ⟨some (.int (0 + (i : Int))), some (.ref ls), some (.int ((CM.nextB 0 ms : Nat) - 1)), v8', xs ++ [.ref t11], es ++ [(B + w6, ms)], ?_, kb2 (k9.trans (KB.of S11)) k12 nl, p12.mono (.refl _) (by omega), h12, ?_, ⟨?_, fun e he => ?_⟩, by simp [len3], ?_, fun e he => ?_⟩
        · rw [List.map_append]
          show _ = [_, _, _, _, some (V.int ((CM.nextB 0 (es.map (·.1) ++ [B + w6]) : Nat) - 1)), _, _, _, _]
          rw [CM.nextB_snoc]
          have : ((B + w6 + 1 : Nat) : Int) - 1 = ((B + w6 : Nat) : Int) := by omega
          rw [this]
        · rw [List.map_append]
          exact rr12.append (.cons (.tup (k12 _ _ h11 n11l) (.cons (.int _) (.cons (.tup (k12 _ _ (s11 _ _ h10) n10l) (rpAll_nats _)) .nil))) .nil)
        · rw [List.map_append]
          exact CM.rising_snoc ok3.1 (by rw [hB]; show B ≤ B + w6; omega)
        · rcases List.mem_append.mp he with he | he
          · exact ok3.2 e he
          · rw [List.mem_singleton.mp he]
            exact ⟨hmne, ri9⟩
        · rw [List.map_append]
          show CM.nextB 0 (es.map (·.1) ++ [B + w6]) ≤ _
          rw [CM.nextB_snoc]
          omega
        · rcases List.mem_append.mp he with he | he
          · have := sm3 e he
            exact ⟨by omega, this.2⟩
          · rw [List.mem_singleton.mp he]
            exact ⟨by show B + w6 < _; omega, by show ms.length ≤ _; omega, fun m hm => by have := sm9 m hm; omega⟩
    · rintro σ H3 ⟨v5, v6, v7, v8, xs, es, rfl, k3, p3, h3, rr3, ok3, len3, nb3, sm3⟩
      wtm_at "wp"
      have hc : ((c : Nat) : Int).toNat = c := by omega
      rw [hc] at p3 len3 sm3
      exact k l xs es H3 nl k3 (p3.mono (.refl _) (by omega)) h3 rr3 ok3 (by omega) (fun e he => ⟨by have := (sm3 e he).1; omega, (sm3 e he).2⟩)

/-- lengths for all slots, drawn -/
def spLens : Sp := fun vs H Q _ => ∃ (p a : Addr) (n : Nat) (xs : List V) (es : List Etr), vs = [.ref p, .ref a] ∧ Pool H p n ∧ n ≤ 10 ^ 6 ∧ a ≠ p ∧ H a = some (.lst xs) ∧ RpAll H xs (es.map eD) ∧ EntOk 0 es ∧ es.length ≤ 20 ∧ (∀ e ∈ es, e.1 < 60 ∧ ∀ m ∈ e.2, m < 119) ∧
  ∀ (l : Addr) (ls : List Nat) H', H l = none → KB p H H' → Pool H' p (n + 200) → H' l = some (.lst (ls.map nV)) → ls.length ≤ 60 → (∀ n ∈ ls, n ≤ 120) → FitL ls es → Q (.ref l) H'
theorem atI_last' {α : Type} {xs : List α} {x : α} (h : xs.getLast? = some x) : atI xs (-1) = some x := atI_lst (by rw [← List.getLast?_eq_getElem?]; exact h)
theorem ok_lens {f : Addr} {fd : FuncData} (F : Fun K "_law_lengths" "_law_lengths" s_law_lengths f fd) (T : Txt K mg Z C_CodeReader C_Block C_Row C_Walker) (f__law_take : Fn P w K mg base "_law_take" 1 ["_law_pool_here", "_law_many"] spTake) : FnOk P w K mg base CX0 2 f fd ["_law_pool_here", "_law_entries"] spLens := by
  refine F.ok sc_law_lengths (fun vs H Q E h => ?_) (fun cdv A outer s H vs Q E hr h => ?_)
  · obtain ⟨p, a, n, xs, es, rfl, _⟩ := h
    rfl
  · obtain ⟨p, a, n, xs, es, rfl, hp, hn, nap, ha, rr, hE, hel, hsm, k⟩ := h
    have hn' : n ≤ 1000000 := hn
    have hxl := rr.length
    rw [List.length_map] at hxl
    refine ⟨_, (pss_cons (ps_set (i := 2) sc_law_lengths.nd rfl (.inl rfl) (pe_lst pa_nil))
 (pss_cons (ps_for PassesOwn.never rfl (pi_range1 (by rfl) T.n_range (pa_cons (pe_callB (cl_min rfl) (by rfl) T.n_min PyProof.Rows.boot_min (pa_cons pe_int (pa_cons (pe_op op_add (pe_ix ix_list (pe_lc (own := [("_law_slot_here", 3), ("_law_spots", 5)]) (g := gTup K 2 (gCons (gName 3) (gCons (gName 5) gNil))) (tt := tYes) rfl sc_law_lengths.nd (show PI _ _ _ (iList K _) from (pi_list (pe_op op_cat (pe_lst (pa_cons (pe_tup (pa_cons (pe_un un_neg pe_int) (pa_cons (pe_tup pa_nil) pa_nil))) pa_nil)) (pv 1)))) (blkOk_by (own := [("_law_slot_here", 3), ("_law_spots", 5)]) (N := ["_law_pool_here", "_law_entries", "_law_told", "_law_slot_here", "_law_need", "_law_spots", "_law_other"]) (sc := defScope s_law_lengths) (by decide +kernel)) (fun _ _ _ _ _ => (pg_tup rfl (pgs_cons (pg_name (i := 3) sc_law_lengths.nd rfl (.inl rfl)) (pgs_cons (pg_name (i := 5) sc_law_lengths.nd rfl (.inl rfl)) pgs_nil)))) (fun _ _ _ _ _ => pts_nil) (fun _ _ _ _ _ => (pe_op op_add (pv 3) pe_int))) (pe_un un_neg pe_int) (fun _ _ => rfl)) (pe_fn f__law_take (hr.mono (by omega)) rfl (pa_cons (pv 0) (pa_cons pe_int pa_nil)))) pa_nil))) pa_nil)) (pg_name (i := 3) sc_law_lengths.nd rfl (.inr rfl))
 (pss_cons (ps_setLc (i := 4) (own := [("_law_other", 6), ("_law_spots", 5)]) (g := gTup K 2 (gCons (gName 6) (gCons (gName 5) gNil))) rfl sc_law_lengths.nd rfl rfl (sw_true rfl rfl rfl (by decide +kernel)) (show PI _ _ _ (iList K _) from (pi_list (pv 1))) (blkOk_by (own := [("_law_other", 6), ("_law_spots", 5)]) (N := ["_law_pool_here", "_law_entries", "_law_told", "_law_slot_here", "_law_need", "_law_spots", "_law_other"]) (sc := defScope s_law_lengths) (by decide +kernel)) (fun _ _ _ _ _ => (pg_tup rfl (pgs_cons (pg_name (i := 6) sc_law_lengths.nd rfl (.inl rfl)) (pgs_cons (pg_name (i := 5) sc_law_lengths.nd rfl (.inl rfl)) pgs_nil)))) (fun _ _ _ _ _ => (pts_one (pt_cmpR op_eq (pv 6) (pv 3) (nomark _)))) (fun _ _ _ _ _ => (pe_op op_add (pe_ix (show IxR _ (rIxT K) from ix_tup) (pv 5) (pe_un un_neg pe_int) (fun _ _ => rfl)) pe_int)))
 (pss_one (ps_expr (pe_bm PySem.F.plainAttrs_list PySem.F.slot_list_append PySem.F.type_list_append mt_append (pv 2) (pa_cons (pe_callB (cl_min rfl) (by rfl) T.n_min PyProof.Rows.boot_min (pa_cons pe_int (pa_cons (pe_op op_add (pe_callB (cr_max rfl) (by rfl) T.n_max PyProof.Rows.boot_max (pa_cons (pe_op op_cat (pe_lst (pa_cons pe_int pa_nil)) (pv 4)) pa_nil)) (pe_ix ix_list (pe_lst (pa_cons pe_int (pa_cons (pe_fn f__law_take (hr.mono (by omega)) rfl (pa_cons (pv 0) (pa_cons pe_int pa_nil))) (pa_cons (pe_fn f__law_take (hr.mono (by omega)) rfl (pa_cons (pv 0) (pa_cons pe_int pa_nil))) pa_nil)))) (pe_fn f__law_take (hr.mono (by omega)) rfl (pa_cons (pv 0) (pa_cons pe_int pa_nil))) (fun _ _ => rfl))) pa_nil))) pa_nil))))))
 (pss_one (ps_ret (pv 2))))), ?_⟩
    wtm_at "w0"
    wtm_at "wp"
    rename_i l nl H1 s1 h1 t2 n2 H2 s2 h2 t3 n3 H3 s3 h3 l4 n4 H4 s4 h4 l5 H5 n5 s5 h5
    have S4 := s1.trans (s2.trans (s3.trans s4))
    have ha4 := S4 _ _ ha
    have S5 := S4.trans s5
    have rr5 := rr.same S5
    have h35 := s5 _ _ (s4 _ _ h3)
    wtm_at "wp"
    refine lc_fin (fin_list (xs := [V.ref t3] ++ xs)) (fun i acc H' => Same H5 H' ∧ acc = ((0 :: es.map fun e => e.1 + 1).take i).map nV) (fun D H6 nD s6 hD => ⟨s6, rfl⟩) (fun i acc H6 _ h => .of (h.1 _ _ h5)) ?_ ?_
    · rintro D i v acc H6 H6' nD hi hac ⟨s6, e6⟩ hD ⟨rfl, hv⟩
      cases i with
      | zero =>
        cases hv
        have h36 := s6 _ _ h35
        wtm_at "wp"
        refine ⟨rfl, ?_⟩
        wtm_at "wp"
        refine w_acc hD hac hi (sz (by simp; omega)) (fun H7 k7 h7 => ⟨k7.same s6 nD, ?_⟩)
        rw [e6]
        rfl
      | succ i =>
        obtain ⟨xa, xb, e, he, rfl, hxa, hxb⟩ := ents_at (rr5.same s6) hv
        wtm_at "wp"
        refine ⟨rfl, ?_⟩
        wtm_at "wp"
        refine w_acc hD hac hi (sz (by simp; omega)) (fun H7 k7 h7 => ⟨k7.same s6 nD, ?_⟩)
        have he' : (0 :: es.map fun e => e.1 + 1)[i + 1]? = some (e.1 + 1) := by
          rw [List.getElem?_cons_succ, List.getElem?_map, he]
          rfl
        rw [e6, take_succL he', List.map_append]
        rfl
    · rintro D acc H6 nD ⟨s6, e6⟩ hac hD
      have hlen : ([V.ref t3] ++ xs).length = (0 :: es.map fun e => e.1 + 1).length := by simp; omega
      rw [hlen, List.take_length] at e6
      subst e6
      have S6 := S5.trans s6
      have hB : CM.nextB 0 (es.map (·.1)) ≤ 60 := next_le (by decide) (fun m hm => by
        obtain ⟨e, he, rfl⟩ := List.mem_map.mp hm
        exact (hsm e he).1)
      have hlt : ∀ e ∈ es, e.1 < CM.nextB 0 (es.map (·.1)) := fun e he => lt_next hE.1 e.1 (List.mem_map.mpr ⟨e, he, rfl⟩)
      have hlast : ((0 :: es.map fun e => e.1 + 1).map nV).getLast? = some (nV (CM.nextB 0 (es.map (·.1)))) := by
        rw [← last_next, List.getLast?_map, List.getLastD_eq_getLast?]
        cases hq : (0 :: es.map fun e => e.1 + 1).getLast? with
        | none => simp at hq
        | some z => rfl
      wtm_at "wp"
      refine w_ixL (.of hD) (atI_last' hlast) ?_
      generalize CM.nextB 0 (es.map (·.1)) = B at *
      wtm_at "wp"
      refine ⟨p, 3, _, rfl, hp.mono S6 (Nat.le_refl _), by omega, by decide, by decide, fun d7 H7 d70 d71 k7 p7 => ?_⟩
      obtain ⟨d, rfl⟩ := Int.eq_ofNat_of_zero_le d70
      have K7 : KB p H H7 := (KB.of S6).trans k7
      have nlp : l ≠ p := (ne_of_none hp.at.choose_spec nl).symm
      have h17 : H7 l = some (.lst []) := k7 _ _ (s6 _ _ (s5 _ _ (s4 _ _ (s3 _ _ (s2 _ _ h1))))) nlp
      have nal : a ≠ l := ne_of_none ha nl
      wtm_at "wp"
      have ec : min (60 : Int) ((B : Int) + (d : Int)) = ((min 60 (B + d) : Nat) : Int) := by omega
      rw [ec]
      generalize hc : min 60 (B + d) = c
      have hc60 : c ≤ 60 := by omega
      have hBc : B ≤ c := by omega
      refine ⟨_, rfl, by omega, by omega, ?_⟩
      refine for_fin (n := ((c : Nat) : Int).toNat) fin_rng (fun i σ H' => ∃ (v3 v4 v5 v6 : Option V) (ls : List Nat), σ = [some (.ref p), some (.ref a), some (.ref l), v3, v4, v5, v6] ∧ KB p H H' ∧ Pool H' p (n + 1 + 3 * i) ∧ H' l = some (.lst (ls.map nV)) ∧ FitTo i ls es) ⟨_, _, _, _, [], rfl, K7, p7, h17, .nil⟩ (fun _ _ _ _ _ => trivial) ?_ ?_
      · rintro i z σ H8 H8' hi ⟨v3, v4, v5, v6, ls, rfl, k8, p8, h8, f8⟩ ⟨rfl, rfl⟩
        have hi60 : i < 60 := by omega
        have hpx : ∀ c ys, H c = some (.tup ys) → c ≠ p := fun c ys h z => by
          obtain ⟨_, hq⟩ := hp.at
          rw [z, hq] at h
          cases h
        have rr8 := rr.tupk (fun c ys h => k8 _ _ h (hpx c ys h)) (noLs_es es)
        have ha8 := k8 _ _ ha nap
        wtm_at "wp"
        refine lc_fin (fin_list (xs := xs)) (fun j acc H' => Same H8' H' ∧ acc = (needE i (es.take j)).map nV) (fun D H9 nD s9 hD => ⟨s9, rfl⟩) (fun i acc H9 _ h => .of (h.1 _ _ ha8)) ?_ ?_
        · rintro D9 j v acc H9 H9' nD hj hac ⟨s9, e9⟩ hD ⟨rfl, hv⟩
          obtain ⟨xa, xb, e, he, rfl, hxa, hxb⟩ := ents_at (rr8.same s9) hv
          have hne := (hE.2 e (List.mem_of_getElem? he)).1
          have hlast : (e.2.map nV).getLast? = some (nV (lastN e.2)) := by
            unfold lastN
            rw [List.getLast?_map, List.getLastD_eq_getLast?, List.getLast?_eq_some_getLast hne]
            rfl
          have est : needE i (es.take (j + 1)) = needE i (es.take j) ++ (if e.1 = i then [lastN e.2 + 1] else []) := by
            unfold needE
            rw [take_succL he, List.filter_append, List.map_append]
            by_cases hq : e.1 = i
            · simp [hq]
            · simp [hq]
          wtm_at "wp"
          refine ⟨rfl, ?_⟩
          wtm_at "wp"
          refine w_dec (fun q => ?_) (fun q => ?_)
          · have q' : e.1 = i := by have := V.int.inj q; omega
            wtm_at "wp"
            refine w_ixT (.of hxb) (atI_last' hlast) ?_
            wtm_at "wp"
            refine w_acc hD hac hj (sz (by omega)) (fun H7 k7 h7 => ⟨k7.same s9 nD, ?_⟩)
            rw [e9, est, if_pos q', List.map_append]
            rfl
          · have q' : ¬ e.1 = i := fun z => q (by rw [z]; congr 1; omega)
            refine w_skip hD hac ⟨s9, ?_⟩
            rw [e9, est, if_neg q', List.append_nil]
        · rintro D9 acc H9 nD9 ⟨s9, e9⟩ hac9 hD9
          rw [hxl, List.take_length] at e9
          subst e9
          have nD9p : D9 ≠ p := (ne_of_none p8.at.choose_spec nD9).symm
          have nD9l : D9 ≠ l := (ne_of_none h8 nD9).symm
          wtm_at "wp"
          rename_i l10 n10 H10 s10 h10 l11 H11 n11 s11 h11
          have hnl : (needE i es).length ≤ 20 := by
            unfold needE
            rw [List.length_map]
            exact Nat.le_trans (List.length_filter_le _ _) hel
          have h11' : H11 l11 = some (.lst (((0 :: needE i es).map nI).map V.int)) := by
            rw [h11]
            simp
          refine ⟨l11, _, rfl, .of h11', by simp, fun m hm hmx => ?_⟩
          have em := mx_int hm hmx
          subst em
          have S11 := s9.trans (s10.trans s11)
          have p11 := p8.mono S11 (Nat.le_refl _)
          wtm_at "wp"
          refine ⟨p, 4, _, rfl, p11, by omega, by decide, by decide, fun x12 H12 x120 x121 k12 p12 => ?_⟩
          wtm_at "wp"
          refine ⟨p, 90, _, rfl, p12, by omega, by decide, by decide, fun x13 H13 x130 x131 k13 p13 => ?_⟩
          wtm_at "wp"
          rename_i l14 n14 H14 s14 h14
          refine ⟨p, 3, _, rfl, p13.mono s14 (Nat.le_refl _), by omega, by decide, by decide, fun x15 H15 x150 x151 k15 p15 => ?_⟩
          have nl14 : l14 ≠ p := (ne_of_none p13.at.choose_spec n14).symm
          obtain ⟨w9, hat9⟩ : ∃ w : Nat, atI [V.int 0, V.int x12, V.int x13] x15 = some (.int w) := by
            obtain ⟨q, rfl⟩ := Int.eq_ofNat_of_zero_le x120
            obtain ⟨q', rfl⟩ := Int.eq_ofNat_of_zero_le x130
            have hb : x15 = 0 ∨ x15 = 1 ∨ x15 = 2 := by omega
            rcases hb with rfl | rfl | rfl
            · exact ⟨0, rfl⟩
            · exact ⟨q, rfl⟩
            · exact ⟨q', rfl⟩
          refine w_ixL (.of (k15 _ _ h14 nl14)) hat9 ?_
          wtm_at "wp"
          have K15 : KB p H8' H15 := (KB.of S11).trans (k12.trans (k13.trans ((KB.of s14).trans k15)))
          have h15 := K15 _ _ h8 nlp
          have em : min (120 : Int) (((mxL (0 :: needE i es) : Nat) : Int) + (w9 : Int)) = ((min 120 (mxL (0 :: needE i es) + w9) : Nat) : Int) := by omega
          rw [em]
          refine w_append h15 (Nat.lt_of_le_of_lt (by rw [List.length_map, f8.1]; omega : _ ≤ 100) (by decide)) (fun H16 k16 h16 => ?_)
          refine ⟨some (.int (0 + (i : Int))), some (.ref D9), v5, v6, ls ++ [min 120 (mxL (0 :: needE i es) + w9)], rfl, kb2 (k8.trans K15) k16 nl, (p15.kb k16 nlp.symm).mono (.refl _) (by omega), ?_, f8.snoc (by omega) (fun e he hi n hn => ?_)⟩
          · rw [h16, List.map_append]
            rfl
          · have h1 := le_mx (List.mem_cons_of_mem 0 (need_mem he hi))
            have h2 := ris_last (hE.2 e he).2 hn
            have h3 := (hsm e he).2 _ (lastN_mem (hE.2 e he).1)
            omega
      · rintro σ H8 ⟨v3, v4, v5, v6, ls, rfl, k8, p8, h8, f8⟩
        have hc' : ((c : Nat) : Int).toNat = c := by omega
        rw [hc'] at p8 f8
        wtm_at "wp"
        exact k l ls H8 nl k8 (p8.mono (.refl _) (by omega)) h8 (by rw [f8.1]; omega) f8.2.1 (fun e he => ⟨by rw [f8.1]; have := hlt e he; omega, f8.2.2 e he (by have := hlt e he; omega)⟩)

end
end K16

namespace K16
section
variable {P : Program} {w : World} {K : PySem.W.Frag} {mg : Str → Option Value} {base : Heap} {Z : Zs} {C_CodeReader C_Block C_Row C_Walker : Addr}
abbrev s_look_slot : Stmt := topS 29
theorem sc_look_slot : FnScope ["slot"] ["slot"] (defScope s_look_slot) := ⟨rfl, rfl, rfl, by decide +kernel, rfl, by decide +kernel, by decide +kernel⟩
abbrev s_Walker___init__ : Stmt := inClass (topS 30) 0
theorem sc_Walker___init__ : FnScope ["self", "row"] ["self", "row"] (defScope s_Walker___init__) := ⟨rfl, rfl, rfl, by decide +kernel, rfl, by decide +kernel, by decide +kernel⟩
abbrev s_Walker_is_done : Stmt := inClass (topS 30) 1
theorem sc_Walker_is_done : FnScope ["self"] ["self"] (defScope s_Walker_is_done) := ⟨rfl, rfl, rfl, by decide +kernel, rfl, by decide +kernel, by decide +kernel⟩
abbrev s_Walker_entry : Stmt := inClass (topS 30) 2
theorem sc_Walker_entry : FnScope ["self", "number"] ["self", "number"] (defScope s_Walker_entry) := ⟨rfl, rfl, rfl, by decide +kernel, rfl, by decide +kernel, by decide +kernel⟩
abbrev s_Walker_slot : Stmt := inClass (topS 30) 3
theorem sc_Walker_slot : FnScope ["self"] ["self"] (defScope s_Walker_slot) := ⟨rfl, rfl, rfl, by decide +kernel, rfl, by decide +kernel, by decide +kernel⟩
abbrev s_Walker_next_block : Stmt := inClass (topS 30) 5
theorem sc_Walker_next_block : FnScope ["self"] ["self"] (defScope s_Walker_next_block) := ⟨rfl, rfl, rfl, by decide +kernel, rfl, by decide +kernel, by decide +kernel⟩
abbrev s_Walker_seek : Stmt := inClass (topS 30) 7
theorem sc_Walker_seek : FnScope ["self", "slot", "here"] ["self", "slot"] (defScope s_Walker_seek) := ⟨rfl, rfl, rfl, by decide +kernel, rfl, by decide +kernel, by decide +kernel⟩
abbrev s_Walker_places : Stmt := inClass (topS 30) 4
theorem sc_Walker_places : FnScope ["self"] ["self"] (defScope s_Walker_places) := ⟨rfl, rfl, rfl, by decide +kernel, rfl, by decide +kernel, by decide +kernel⟩
abbrev s_Walker_block : Stmt := inClass (topS 30) 9
theorem sc_Walker_block : FnScope ["self"] ["self"] (defScope s_Walker_block) := ⟨rfl, rfl, rfl, by decide +kernel, rfl, by decide +kernel, by decide +kernel⟩
abbrev s_Walker_opened : Stmt := inClass (topS 30) 11
theorem sc_Walker_opened : FnScope ["self"] ["self"] (defScope s_Walker_opened) := ⟨rfl, rfl, rfl, by decide +kernel, rfl, by decide +kernel, by decide +kernel⟩
/-- lists within M stay -/
def KL (M : Addr → Prop) (H H' : Hp) : Prop := ∀ c xs, H c = some (.lst xs) → M c → H' c = some (.lst xs)
/-- the blocks that are opened, decoded -/
def DecOk (M : Addr → Prop) (H : Hp) (bl : List (List Etr)) (kvs : List (Key × V)) (ks : List Nat) : Prop := kvs.map (·.1) = ks.map kI ∧ ∀ (k : Nat) v, valV kvs (kI k) = some v → ∃ l xs blk, v = .ref l ∧ M l ∧ bl[k]? = some blk ∧ H l = some (.lst xs) ∧ RpAll H xs (blk.map eD)
theorem DecOk.kn {M : Addr → Prop} {H H' : Hp} {bl : List (List Etr)} {kvs : List (Key × V)} {ks : List Nat} (h : DecOk M H bl kvs ks) (k : KL M H H') (t : TupK H H') : DecOk M H' bl kvs ks := ⟨h.1, fun j v hv => by
  obtain ⟨l, xs, blk, h1, h2, h3, h4, h5⟩ := h.2 j v hv
  exact ⟨l, xs, blk, h1, h2, h3, k _ _ h4 h2, h5.tupk t (noLs_es _)⟩⟩
theorem DecOk.mem {M : Addr → Prop} {H : Hp} {bl : List (List Etr)} {kvs : List (Key × V)} {ks : List Nat} (h : DecOk M H bl kvs ks) (k : Nat) : (valV kvs (kI k)).isSome = decide (k ∈ ks) := by
  rw [← valV_any]
  have e : (kvs.any fun kv => decide (kv.1 = kI k)) = ((kvs.map (·.1)).any fun z => decide (z = kI k)) := by rw [List.any_map]; rfl
  rw [e, h.1, List.any_map, List.any_eq]
  apply decide_eq_decide.mpr
  constructor
  · rintro ⟨x, hx, he⟩
    have := of_decide_eq_true he
    have e2 : ((x : Nat) : Int) = (k : Int) := Sum.inl.inj this
    rw [← Int.ofNat.inj e2]
    exact hx
  · intro hk
    exact ⟨k, hk, decide_eq_true rfl⟩
theorem kn_ex {N : Addr → Prop} {H H' : Hp} (h : ∀ c, N c → H c ≠ none) (k : KN N H H') : ∀ c, N c → H' c ≠ none := fun c n z => by
  obtain ⟨o, ho⟩ := Option.ne_none_iff_exists'.mp (h c n)
  rw [k _ _ ho n] at z
  cases z
/-- a walker with its block and entry as they stand -/
structure WkR (N M : Addr → Prop) (CB CW : Addr) (H : Hp) (r kp dd : Addr) (ls : List Nat) (c : Nat) (es : List Etr) (b e : Nat) (ks : List Nat) : Prop where
  P : ∃ x, RowP x c ls es
  obj : ∃ d, H r = some (.ins CW d [("kept", .ref kp), ("at_block", nV b), ("at_entry", nV e), ("decoded", .ref dd)])
  kept : ∃ bs : List Addr, H kp = some (.lst (bs.map rV)) ∧ BlksN N CB H bs ls (cutE c es)
  mkp : M kp
  fr : ∀ c, H c = none → M c
  nr : ¬ N r
  nd : ¬ N dd
  ex : ∀ c, N c → H c ≠ none
  dec : ∃ kvs : List (Key × V), H dd = some (.dK kvs) ∧ DecOk M H (cutE c es) kvs ks ∧ OpOk (cutE c es).length ks
/-- a walker at a place among the entries -/
structure WkN (N M : Addr → Prop) (CB CW : Addr) (H : Hp) (r kp dd : Addr) (ls : List Nat) (c : Nat) (es : List Etr) (pos : Nat) (ks : List Nat) : Prop where
  raw : WkR N M CB CW H r kp dd ls c es (bOf c es.length pos) (eOf c es.length pos) ks
  le : pos ≤ es.length
  op : eOf c es.length pos ≠ 0 → bOf c es.length pos ∈ ks
section
variable {N M : Addr → Prop} {CB CW : Addr} {H H' : Hp} {r kp dd : Addr} {ls : List Nat} {c : Nat} {es : List Etr} {b e pos : Nat} {ks : List Nat}
theorem WkR.keep (h : WkR N M CB CW H r kp dd ls c es b e ks) (k : KN N H H') (m : KL M H H') (t : TupK H H') (hr : H' r = H r) (hd : H' dd = H dd) (f : ∀ c, H' c = none → H c = none) : WkR N M CB CW H' r kp dd ls c es b e ks := by
  obtain ⟨P, ⟨d, h1⟩, ⟨bs, h2, h3⟩, h4, h5, hnr, hnd, hex, kvs, h6, h7, h8⟩ := h
  exact ⟨P, ⟨d, hr.trans h1⟩, ⟨bs, m _ _ h2 h4, h3.kn k⟩, h4, fun c hc => h5 c (f c hc), hnr, hnd, kn_ex hex k, kvs, hd.trans h6, h7.kn m t, h8⟩
theorem WkR.same (h : WkR N M CB CW H r kp dd ls c es b e ks) (s : Same H H') : WkR N M CB CW H' r kp dd ls c es b e ks := by
  obtain ⟨d, h1⟩ := h.obj
  obtain ⟨kvs, h6, _⟩ := h.dec
  exact h.keep (.of s) (fun c xs hc _ => s _ _ hc) (TupK.of s) ((s _ _ h1).trans h1.symm) ((s _ _ h6).trans h6.symm) (fun c hc => same_free s hc)
theorem kb_free {p : Addr} {o : HO} (k : KB p H H') (hp : H' p = some o) : ∀ c, H' c = none → H c = none := fun c hc => by
  cases hq : H c with
  | none => rfl
  | some o' =>
    have := k _ _ hq (fun z => by rw [z, hp] at hc; cases hc)
    rw [hc] at this
    cases this
theorem WkR.kb {p : Addr} {xs ys : List V} (h : WkR N M CB CW H r kp dd ls c es b e ks) (k : KB p H H') (hp : H p = some (.lst xs)) (hp' : H' p = some (.lst ys)) (np : ¬ N p) (mp : ¬ M p) : WkR N M CB CW H' r kp dd ls c es b e ks := by
  obtain ⟨d, h1⟩ := h.obj
  obtain ⟨kvs, h6, _⟩ := h.dec
  have n1 : r ≠ p := fun z => by rw [z, hp] at h1; cases h1
  have n2 : dd ≠ p := fun z => by rw [z, hp] at h6; cases h6
  exact h.keep (KN.kb np k) (fun c xs hc hm => k _ _ hc (fun z => mp (z ▸ hm))) (TupK.kb k hp) ((k _ _ h1 n1).trans h1.symm) ((k _ _ h6 n2).trans h6.symm) (kb_free k hp')
theorem WkN.same (h : WkN N M CB CW H r kp dd ls c es pos ks) (s : Same H H') : WkN N M CB CW H' r kp dd ls c es pos ks := ⟨h.raw.same s, h.le, h.op⟩
theorem WkN.kb {p : Addr} {xs ys : List V} (h : WkN N M CB CW H r kp dd ls c es pos ks) (k : KB p H H') (hp : H p = some (.lst xs)) (hp' : H' p = some (.lst ys)) (np : ¬ N p) (mp : ¬ M p) : WkN N M CB CW H' r kp dd ls c es pos ks := ⟨h.raw.kb k hp hp' np mp, h.le, h.op⟩
/-- what a walker's deeds leave -/
theorem WkR.off {a : Addr} {o : HO} (h : WkR N M CB CW H r kp dd ls c es b e ks) (k : KW r dd H H') (ha : H a = some o) (n1 : ∀ C d fs, o ≠ .ins C d fs) (n2 : ∀ kvs, o ≠ .dK kvs) : H' a = some o := by
  obtain ⟨d, h1⟩ := h.obj
  obtain ⟨kvs, h6, _⟩ := h.dec
  exact k _ _ ha (fun z => by rw [z, h1] at ha; cases ha; exact n1 _ _ _ rfl) (fun z => by rw [z, h6] at ha; cases ha; exact n2 _ rfl)
theorem WkR.tupk (h : WkR N M CB CW H r kp dd ls c es b e ks) (k : KW r dd H H') : TupK H H' := fun a ys ha => h.off k ha (fun _ _ _ z => by cases z) (fun _ z => by cases z)
theorem WkR.lst {a : Addr} {xs : List V} (h : WkR N M CB CW H r kp dd ls c es b e ks) (k : KW r dd H H') (ha : H a = some (.lst xs)) : H' a = some (.lst xs) := h.off k ha (fun _ _ _ z => by cases z) (fun _ z => by cases z)
theorem WkR.blk (h : WkR N M CB CW H r kp dd ls c es b e ks) {bk : List Etr} {i : Nat} (hb : (cutE c es)[i]? = some bk) : ∃ (bs : List Addr) (a : Addr), H kp = some (.lst (bs.map rV)) ∧ (bs.map rV)[i]? = some (.ref a) ∧ BlkN N CB H a ls bk ∧ bs.length = (cutE c es).length := by
  obtain ⟨bs, h2, h3⟩ := h.kept
  have hl : i < bs.length := by
    rw [h3.1]
    apply Nat.lt_of_not_le
    intro z
    rw [List.getElem?_eq_none z] at hb
    cases hb
  refine ⟨bs, bs[i], h2, by rw [List.getElem?_map, List.getElem?_eq_getElem hl]; rfl, h3.2 i _ bk (List.getElem?_eq_getElem hl) hb, h3.1⟩
/-- the fields are put otherwise -/
theorem WkR.put {b' e' : Nat} (h : WkR N M CB CW H r kp dd ls c es b e ks) (k : KB r H H') (ho : ∃ d, H' r = some (.ins CW d [("kept", .ref kp), ("at_block", nV b'), ("at_entry", nV e'), ("decoded", .ref dd)])) : WkR N M CB CW H' r kp dd ls c es b' e' ks := by
  obtain ⟨d0, h1⟩ := h.obj
  obtain ⟨P, _, ⟨bs, h2, h3⟩, h4, h5, hnr, hnd, hex, kvs, h6, h7, h8⟩ := h
  have n2 : dd ≠ r := fun z => by rw [z, h1] at h6; cases h6
  have kn : KN N H H' := KN.kb hnr k
  have kl : ∀ c xs, H c = some (.lst xs) → H' c = some (.lst xs) := fun c xs hc => k _ _ hc (fun z => by rw [z, h1] at hc; cases hc)
  have tk : TupK H H' := fun a ys ha => k _ _ ha (fun z => by rw [z, h1] at ha; cases ha)
  obtain ⟨d', ho'⟩ := ho
  exact ⟨P, ⟨d', ho'⟩, ⟨bs, kl _ _ h2, h3.kn kn⟩, h4, fun c hc => h5 c (kb_free k ho' c hc), hnr, hnd, kn_ex hex kn, kvs, k _ _ h6 n2, h7.kn (fun c xs hc _ => kl c xs hc) tk, h8⟩
end
def spSl0 : Sp := fun vs H Q _ => ∃ i : Int, vs = [.int i] ∧ Q .non H
theorem ok_lslot {f : Addr} {fd : FuncData} (F : Fun K "look_slot" "look_slot" s_look_slot f fd) (T : Txt K mg Z C_CodeReader C_Block C_Row C_Walker) (f_is_whole : Fn P w K mg base "is_whole" 1 ["thing"] spWhole) : FnOk P w K mg base CX0 2 f fd ["slot"] spSl0 := by
  refine F.ok sc_look_slot (fun vs H Q E h => ?_) (fun cdv A outer s H vs Q E hr h => ?_)
  · obtain ⟨n, rfl, _⟩ := h
    rfl
  · obtain ⟨n, rfl, k⟩ := h
    refine ⟨_, (pss_one (ps_if (pt_not (pt_val (pe_fn f_is_whole (hr.mono (by omega)) rfl (pa_cons (pv 0) pa_nil))))
 (pss_one (ps_never))
 pss_nil)), ?_⟩
    wtm_at "w0"
    wtm_at "wp"
    refine ⟨_, rfl, .int _, ?_⟩
    wtm_at "wp"
    exact k
def spWkI (CB CR CW : Addr) : Sp := fun vs H Q _ => ∃ (N M : Addr → Prop) (r d row : Addr) (x : Str) (c : Nat) (ls : List Nat) (es : List Etr), vs = [.ref r, .ref row] ∧ H r = some (.ins CW d []) ∧ RowN N CB CR H row x c ls es ∧ ¬ N r ∧ (∀ c, N c → H c ≠ none) ∧ (∀ c, H c = none → M c) ∧
  ∀ kp dd H', H kp = none → H dd = none → KB r H H' → WkN N M CB CW H' r kp dd ls c es 0 [] → Q .non H'
theorem ok_wki {f : Addr} {fd : FuncData} (F : Fun K "__init__" "Walker.__init__" s_Walker___init__ f fd) (T : Txt K mg Z C_CodeReader C_Block C_Row C_Walker) (me_Row_blocks : Me P w K mg base C_Row "blocks" 1 ["self"] (spRowB C_Block C_Row)) : FnOk P w K mg base CX0 2 f fd ["self", "row"] (spWkI C_Block C_Row C_Walker) := by
  have c1 := T.cl_Row
  have c2 := T.cl_Walker
  have n1 := T.na_Walker_kept
  have n2 := T.na_Walker_at_block
  have n3 := T.na_Walker_at_entry
  have n4 := T.na_Walker_decoded
  refine F.ok sc_Walker___init__ (fun vs H Q E h => ?_) (fun cdv A outer s H vs Q E hr h => ?_)
  · obtain ⟨N, M, r, d, row, x, c, ls, es, rfl, _⟩ := h
    rfl
  · obtain ⟨N, M, r, d, row, x, c, ls, es, rfl, hd, hR, hnr, hN, hM, k⟩ := h
    have hR' := hR
    obtain ⟨hP, d0, kp0, bs0, _, _, h0, _⟩ := hR'
    refine ⟨_, (pss_cons (ps_fld (pv 0) (pe_me0 (pv 1) T.cl_Row me_Row_blocks (hr.mono (by omega))) rfl)
 (pss_cons (ps_asg2 pe_int (pg_fld (pv 0)) (pg_fld (pv 0)))
 (pss_one (ps_fld (pv 0) pe_dnewK rfl)))), ?_⟩
    wtm_at "w0"
    wtm_at "wp"
    refine ⟨N, row, x, c, ls, es, rfl, hR, fun kp bs H1 n1 s1 h1 b1 => ?_⟩
    have hd1 := s1 _ _ hd
    wtm_at "wp"
    rename_i H2 k2 h2 H3 k3 h3 H4 k4 h4
    refine w_dnewK (fun dd H5 n5 s5 h5 => ?_)
    have h45 := s5 _ _ h4
    wtm_at "wp"
    rename_i H6 k6 h6
    have K4 : KB r H1 H4 := k2.trans (k3.trans k4)
    have K6 : KB r H H6 := (KB.of s1).trans (K4.trans ((KB.of s5).trans k6))
    have nkr : kp ≠ r := fun z => by rw [z, hd] at n1; cases n1
    have ndr : dd ≠ r := fun z => by rw [z, h4] at n5; cases n5
    have hc1 := hP.c1
    have fr4 : H dd = none := by
      cases hq : H dd with
      | none => rfl
      | some o =>
        have := ((KB.of s1).trans K4) _ _ hq ndr
        rw [n5] at this
        cases this
    have e1 : bOf c es.length 0 = 0 := by
      unfold bOf
      split
      · exact Nat.zero_div _
      · rename_i hz
        unfold cuts
        rw [show es.length = 0 by omega, Nat.zero_add]
        exact Nat.div_eq_of_lt (by omega)
    have e2 : eOf c es.length 0 = 0 := by
      unfold eOf
      split
      · exact Nat.zero_mod _
      · rfl
    refine k kp dd H6 n1 fr4 K6 ⟨?_, Nat.zero_le _, fun z => absurd e2 z⟩
    rw [e1, e2]
    have kn : KN N H H6 := KN.kb hnr K6
    refine ⟨⟨x, hP⟩, ⟨_, h6⟩, ⟨bs, k6 _ _ (s5 _ _ (K4 _ _ h1 nkr)) nkr, ?_⟩, hM _ n1, fun c hc => hM c (kb_free K6 h6 c hc), hnr, fun z => hN _ z fr4, kn_ex hN kn, [], k6 _ _ h5 ndr, ⟨rfl, fun j v hv => by cases hv⟩, .nil⟩
    exact ⟨b1.1, fun i b e h1 h2 => ((b1.2 i b e h1 h2).kn (KN.kb hnr K4)).kn ((KN.of s5).trans (KN.kb hnr k6))⟩
def spWkD (CB CW : Addr) : Sp := fun vs H Q _ => ∃ (N M : Addr → Prop) (r kp dd : Addr) (c : Nat) (ls : List Nat) (es : List Etr) (b e : Nat) (ks : List Nat), vs = [.ref r] ∧ WkR N M CB CW H r kp dd ls c es b e ks ∧ Q (.bl (decide ((cutE c es).length ≤ b))) H
theorem ok_wkd {f : Addr} {fd : FuncData} (F : Fun K "is_done" "Walker.is_done" s_Walker_is_done f fd) (T : Txt K mg Z C_CodeReader C_Block C_Row C_Walker) : FnOk P w K mg base CX0 1 f fd ["self"] (spWkD C_Block C_Walker) := by
  have c2 := T.cl_Walker
  have n1 := T.na_Walker_kept
  have n2 := T.na_Walker_at_block
  refine F.ok sc_Walker_is_done (fun vs H Q E h => ?_) (fun cdv A outer s H vs Q E hr h => ?_)
  · obtain ⟨N, M, r, kp, dd, c, ls, es, b, e, ks, rfl, _⟩ := h
    rfl
  · obtain ⟨N, M, r, kp, dd, c, ls, es, b, e, ks, rfl, hW, k⟩ := h
    obtain ⟨d, h1⟩ := hW.obj
    obtain ⟨bs, h2, h3⟩ := hW.kept
    refine ⟨_, (pss_one (ps_ret (pe_cmpR op_ge (pe_fld (pv 0) rfl) (pe_callB cl_len (by rfl) T.n_len PySem.boot_len (pa_cons (pe_fld (pv 0) rfl) pa_nil)) (nomark _)))), ?_⟩
    wtm_at "w0"
    wtm_at "wp"
    rw [List.length_map, h3.1]
    have e1 : decide ((((cutE c es).length : Nat) : Int) ≤ (b : Int)) = decide ((cutE c es).length ≤ b) := decide_eq_decide.mpr (by omega)
    first
      | exact e1 ▸ k
      | (rw [e1]; exact k)
/-- an entry of the block where it stands, which is opened -/
def spWkE (CB CW : Addr) : Sp := fun vs H Q _ => ∃ (N M : Addr → Prop) (r kp dd : Addr) (c : Nat) (ls : List Nat) (es : List Etr) (b e n : Nat) (ks : List Nat) (bk : List Etr) (en : Etr), vs = [.ref r, .int n] ∧ WkR N M CB CW H r kp dd ls c es b e ks ∧ (cutE c es)[b]? = some bk ∧ bk[n]? = some en ∧
  ∀ x y H', KW r dd H H' → WkR N M CB CW H' r kp dd ls c es b e (addK ks b) → H' x = some (.tup [nV en.1, .ref y]) → H' y = some (.tup (en.2.map nV)) → Q (.ref x) H'
theorem ok_wke {f : Addr} {fd : FuncData} (F : Fun K "entry" "Walker.entry" s_Walker_entry f fd) (T : Txt K mg Z C_CodeReader C_Block C_Row C_Walker) (me_Block_entries : Me P w K mg base C_Block "entries" 8 ["self"] (spBlkE K C_Block)) : FnOk P w K mg base CX0 9 f fd ["self", "number"] (spWkE C_Block C_Walker) := by
  have c1 := T.cl_Block
  have c2 := T.cl_Walker
  have n1 := T.na_Walker_kept
  have n2 := T.na_Walker_at_block
  have n4 := T.na_Walker_decoded
  refine F.ok sc_Walker_entry (fun vs H Q E h => ?_) (fun cdv A outer s H vs Q E hr h => ?_)
  · obtain ⟨N, M, r, kp, dd, c, ls, es, b, e, n, ks, bk, en, rfl, _⟩ := h
    rfl
  · obtain ⟨N, M, r, kp, dd, c, ls, es, b, e, n, ks, bk, en, rfl, hW, hbk, hen, k⟩ := h
    obtain ⟨d, h1⟩ := hW.obj
    obtain ⟨bs, a, h2, h3, h4, h5⟩ := hW.blk hbk
    obtain ⟨kvs, h6, h7, h8⟩ := hW.dec
    have hm := h7.mem b
    have hbl : b < (cutE c es).length := by
      apply Nat.lt_of_not_le
      intro z
      rw [List.getElem?_eq_none z] at hbk
      cases hbk
    obtain ⟨x0, hP0⟩ := hW.P
    have hkl : ks.length ≤ 60 := Nat.le_trans (nodup_lt _ _ h8.1 h8.2) (Nat.le_trans (cut_le hP0.c1) hP0.len)
    have tell : ∀ H', KW r dd H H' → WkR N M C_Block C_Walker H' r kp dd ls c es b e (addK ks b) → (∃ kvs v, H' dd = some (.dK kvs) ∧ valV kvs (kI b) = some v) → (∃ d, H' r = some (.ins C_Walker d [("kept", .ref kp), ("at_block", nV b), ("at_entry", nV e), ("decoded", .ref dd)])) →
        ∃ a v, V.ref dd = .ref a ∧ DGet H' a (nV b) (some v) ∧ tVar 1 [some (.ref r), some (.int n)] H' fun y H2 => rIxL K v y H2 Q := by
      intro H' kw hW' ⟨kvs', v, hd', hv⟩ ⟨d', h1'⟩
      obtain ⟨kvs2, h62, h72, _⟩ := hW'.dec
      rw [hd'] at h62
      cases h62
      obtain ⟨l, xs, blk, rfl, hl1, hl2, hl3, hl4⟩ := h72.2 b v hv
      rw [hbk] at hl2
      cases hl2
      obtain ⟨y, hy⟩ : ∃ y, xs[n]? = some y := ⟨_, List.getElem?_eq_getElem (by
        have h0 := hl4.length
        rw [List.length_map] at h0
        rw [h0]
        apply Nat.lt_of_not_le
        intro z
        rw [List.getElem?_eq_none z] at hen
        cases hen)⟩
      obtain ⟨xa, xb, e', he', rfl, hxa, hxb⟩ := ents_at hl4 hy
      rw [hen] at he'
      cases he'
      refine w_dget hd' hv ?_
      wtm_at "wp"
      refine w_ixL (.of hl3) (atI_nat hy) ?_
      exact k _ _ _ kw hW' hxa hxb
    refine ⟨_, (pss_cons (ps_if (pt_cmp (pc_dnotin (u1_of hr) (pe_fld (pv 0) rfl) (pe_fld (pv 0) rfl)))
 (pss_one (ps_dput (u1_of hr) (pe_fld (pv 0) rfl) (pe_fld (pv 0) rfl) (pe_me0 (pe_ix ix_list (pe_fld (pv 0) rfl) (pe_fld (pv 0) rfl) (fun _ _ => rfl)) T.cl_Block me_Block_entries (hr.mono (by omega))) rfl))
 pss_nil)
 (pss_one (ps_ret (pe_ix ix_list (pe_dget (u1_of hr) (pe_fld (pv 0) rfl) (pe_fld (pv 0) rfl) (fun _ _ => rfl)) (pv 1) (fun _ _ => rfl))))), ?_⟩
    wtm_at "w0"
    wtm_at "wp"
    refine w_dnot h6 ?_
    rw [hm]
    by_cases hk : b ∈ ks
    · rw [decide_eq_true hk]
      wtm_at "wp"
      have ek : addK ks b = ks := if_pos hk
      refine tell H KW.refl (by rw [ek]; exact hW) ⟨kvs, ?_⟩ ⟨d, h1⟩
      rw [decide_eq_true hk] at hm
      obtain ⟨v, hv⟩ := Option.isSome_iff_exists.mp hm
      exact ⟨v, h6, hv⟩
    · rw [decide_eq_false hk]
      have ek : addK ks b = ks ++ [b] := if_neg hk
      obtain ⟨hBP, db, tb, _, _, hb0, _⟩ := id h4
      wtm_at "wp"
      refine w_ixL (.of h2) (atI_nat h3) ?_
      wtm_at "wp"
      refine ⟨N, a, ls, bk, rfl, h4, fun p H2 np s2 r2 => ?_⟩
      obtain ⟨xs, hp2, rr2⟩ : ∃ xs, H2 p = some (.lst xs) ∧ RpAll H2 xs (bk.map eD) := by
        cases r2 with
        | lst h r => exact ⟨_, h, r⟩
      have h12 := s2 _ _ h1
      have h62 := s2 _ _ h6
      have hl : kvs.length = ks.length := by
        have := congrArg List.length h7.1
        rwa [List.length_map, List.length_map] at this
      wtm_at "wp"
      refine w_dput h62 (by omega) (fun H3 k3 h3' => ?_)
      have hvn : valV kvs (kI b) = none := by
        rw [decide_eq_false hk] at hm
        cases hq : valV kvs (kI b) with
        | none => rfl
        | some v => rw [hq] at hm; cases hm
      rw [putK_new _ hvn] at h3'
      have nrd : r ≠ dd := fun z => by rw [z, h6] at h1; cases h1
      have npd : p ≠ dd := (ne_of_none h6 np).symm
      have h13 := k3 _ _ h12 nrd
      have tk : TupK H2 H3 := fun c ys hc => k3 _ _ hc (fun z => by rw [z, h62] at hc; cases hc)
      have W2 := hW.same s2
      obtain ⟨bs', hk2, hb2⟩ := W2.kept
      have nkd : kp ≠ dd := fun z => by rw [z, h62] at hk2; cases hk2
      wtm_at "wp"
      refine tell H3 ((KW.of s2).trans (.kb2 k3)) ?_ ⟨_, .ref p, h3', ?_⟩ ⟨d, h13⟩
      · rw [ek]
        refine ⟨hW.P, ⟨d, h13⟩, ⟨bs', k3 _ _ hk2 nkd, hb2.kn (KN.kb hW.nd k3)⟩, hW.mkp, fun c hc => W2.fr c (kb_free k3 h3' c hc), hW.nr, hW.nd, kn_ex W2.ex (KN.kb hW.nd k3), _, h3', ⟨?_, fun j v hv => ?_⟩, ?_⟩
        · rw [List.map_append, List.map_append, h7.1]
          rfl
        · rw [valV_snoc _ _ _ _ hvn] at hv
          split at hv
          · rename_i ej
            have ej' : j = b := by
              have e2 : ((j : Nat) : Int) = (b : Int) := Sum.inl.inj ej
              exact Int.ofNat.inj e2
            subst ej'
            cases hv
            exact ⟨p, xs, bk, rfl, hW.fr p np, hbk, k3 _ _ hp2 npd, rr2.tupk tk (noLs_es _)⟩
          · obtain ⟨l, ys, blk, g1, g2, g3, g4, g5⟩ := h7.2 j v hv
            have nld : l ≠ dd := fun z => by rw [z, h6] at g4; cases g4
            exact ⟨l, ys, blk, g1, g2, g3, k3 _ _ (s2 _ _ g4) nld, (g5.same s2).tupk tk (noLs_es _)⟩
        · rw [← ek]
          exact h8.add hbl
      · rw [valV_snoc _ _ _ _ hvn, if_pos rfl]
theorem WkN.done {N M : Addr → Prop} {CB CW : Addr} {H : Hp} {r kp dd : Addr} {ls : List Nat} {c : Nat} {es : List Etr} {pos : Nat} {ks : List Nat} (h : WkN N M CB CW H r kp dd ls c es pos ks) : decide ((cutE c es).length ≤ bOf c es.length pos) = decide (es.length ≤ pos) := by
  obtain ⟨x, hP⟩ := h.raw.P
  rw [cutE_len]
  exact decide_eq_decide.mpr (bOf_done hP.c1)
/-- the slot where it stands, or None; what is opened stays -/
def spWkS (CB CW : Addr) : Sp := fun vs H Q _ => ∃ (N M : Addr → Prop) (r kp dd : Addr) (c : Nat) (ls : List Nat) (es : List Etr) (pos : Nat) (ks : List Nat), vs = [.ref r] ∧ WkN N M CB CW H r kp dd ls c es pos ks ∧
  ∀ H', KW r dd H H' → WkN N M CB CW H' r kp dd ls c es pos ks → Q (slotV es pos) H'
theorem ok_wks {f : Addr} {fd : FuncData} (F : Fun K "slot" "Walker.slot" s_Walker_slot f fd) (T : Txt K mg Z C_CodeReader C_Block C_Row C_Walker) (me_Walker_is_done : Me P w K mg base C_Walker "is_done" 1 ["self"] (spWkD C_Block C_Walker)) (me_Walker_entry : Me P w K mg base C_Walker "entry" 9 ["self", "number"] (spWkE C_Block C_Walker)) : FnOk P w K mg base CX0 10 f fd ["self"] (spWkS C_Block C_Walker) := by
  have c1 := T.cl_Block
  have c2 := T.cl_Walker
  have n1 := T.na_Walker_kept
  have n2 := T.na_Walker_at_block
  have n3 := T.na_Walker_at_entry
  have n5 := T.na_Block_first
  refine F.ok sc_Walker_slot (fun vs H Q E h => ?_) (fun cdv A outer s H vs Q E hr h => ?_)
  · obtain ⟨N, M, r, kp, dd, c, ls, es, pos, ks, rfl, _⟩ := h
    rfl
  · obtain ⟨N, M, r, kp, dd, c, ls, es, pos, ks, rfl, hW, k⟩ := h
    obtain ⟨d, h1⟩ := hW.raw.obj
    obtain ⟨x0, hP⟩ := hW.raw.P
    refine ⟨_, (pss_cons (ps_if (pt_val (pe_me0 (pv 0) T.cl_Walker me_Walker_is_done (hr.mono (by omega))))
 (pss_one (ps_ret pe_non))
 pss_nil)
 (pss_cons (ps_if (pt_cmpR op_eq (pe_fld (pv 0) rfl) pe_int (nomark _))
 (pss_one (ps_ret (pe_fld (pe_ix ix_list (pe_fld (pv 0) rfl) (pe_fld (pv 0) rfl) (fun _ _ => rfl)) rfl)))
 pss_nil)
 (pss_one (ps_ret (pe_ix ix_tup (pe_me (pv 0) T.cl_Walker me_Walker_entry (hr.mono (by omega)) (pa_cons (pe_fld (pv 0) rfl) pa_nil)) pe_int (fun _ _ => rfl)))))), ?_⟩
    wtm_at "w0"
    wtm_at "wp"
    refine ⟨N, M, r, kp, dd, c, ls, es, _, _, ks, rfl, hW.raw, ?_⟩
    rw [hW.done]
    wtm_at "wp"
    refine w_dec (fun q => ?_) (fun q => ?_)
    · wtm_at "wp"
      have e : slotV es pos = .non := by
        unfold slotV
        rw [List.getElem?_eq_none q]
      rw [e] at k
      exact k _ KW.refl hW
    · have hlt : pos < es.length := by omega
      obtain ⟨bk, g1, g2, g3, g4, g5⟩ := blk_of hP.c1 hlt
      have eb : bOf c es.length pos = pos / c := if_pos hlt
      have ee : eOf c es.length pos = pos % c := if_pos hlt
      have hWr := hW.raw
      have hop := hW.op
      rw [eb, ee] at hWr hop h1
      obtain ⟨en, hen⟩ : ∃ en, es[pos]? = some en := ⟨_, List.getElem?_eq_getElem hlt⟩
      have esl : slotV es pos = nV en.1 := by
        unfold slotV
        rw [hen]
      rw [esl] at k
      wtm_at "wp"
      refine w_dec (fun q0 => ?_) (fun q0 => ?_)
      · have q0' : pos % c = 0 := by have := V.int.inj q0; omega
        obtain ⟨bs, a, h2, h3, ⟨hBP, db, tb, _, _, hb0, _⟩, _⟩ := hWr.blk g1
        wtm_at "wp"
        refine w_ixL (.of h2) (atI_nat h3) ?_
        wtm_at "wp"
        have ef : fstE bk = en.1 := fst_at (by rw [← q0', g5, hen])
        rw [ef]
        exact k _ KW.refl hW
      · wtm_at "wp"
        refine ⟨N, M, r, kp, dd, c, ls, es, _, _, pos % c, ks, bk, en, rfl, hWr, g1, by rw [g5, hen], fun x y H' kw hW' hx hy => ?_⟩
        have hz : pos % c ≠ 0 := fun z => q0 (by rw [z]; rfl)
        rw [addK_mem (hop hz)] at hW'
        wtm_at "wp"
        exact k _ kw ⟨by rw [eb, ee]; exact hW', hW.le, hW.op⟩
def spWkB (CB CW : Addr) : Sp := fun vs H Q _ => ∃ (N M : Addr → Prop) (r kp dd : Addr) (c : Nat) (ls : List Nat) (es : List Etr) (b e : Nat) (ks : List Nat), vs = [.ref r] ∧ WkR N M CB CW H r kp dd ls c es b e ks ∧
  ∀ H', KW r dd H H' → WkR N M CB CW H' r kp dd ls c es (b + 1) 0 ks → Q .non H'
theorem ok_wkb {f : Addr} {fd : FuncData} (F : Fun K "next_block" "Walker.next_block" s_Walker_next_block f fd) (T : Txt K mg Z C_CodeReader C_Block C_Row C_Walker) : FnOk P w K mg base CX0 1 f fd ["self"] (spWkB C_Block C_Walker) := by
  have c2 := T.cl_Walker
  have n2 := T.na_Walker_at_block
  have n3 := T.na_Walker_at_entry
  refine F.ok sc_Walker_next_block (fun vs H Q E h => ?_) (fun cdv A outer s H vs Q E hr h => ?_)
  · obtain ⟨N, M, r, kp, dd, c, ls, es, b, e, ks, rfl, _⟩ := h
    rfl
  · obtain ⟨N, M, r, kp, dd, c, ls, es, b, e, ks, rfl, hW, k⟩ := h
    obtain ⟨d, h1⟩ := hW.obj
    refine ⟨_, (pss_cons (ps_fldaug (pv 0) pe_int in_add)
 (pss_one (ps_fld (pv 0) pe_int rfl))), ?_⟩
    wtm_at "w0"
    wtm_at "wp"
    rename_i H2 k2 h2 H3 k3 h3
    exact k _ (KW.kb (k2.trans k3)) (hW.put (k2.trans k3) ⟨_, h3⟩)
section
variable {N M : Addr → Prop} {CB CW : Addr} {H H' : Hp} {r kp dd : Addr} {ls : List Nat} {c : Nat} {es : List Etr} {b e pos : Nat} {ks : List Nat}
/-- another dict is changed -/
theorem WkR.kbd {q : Addr} {kvs kvs' : List (Key × V)} (h : WkR N M CB CW H r kp dd ls c es b e ks) (k : KB q H H') (hq : H q = some (.dK kvs)) (hq' : H' q = some (.dK kvs')) (nd : q ≠ dd) (nq : ¬ N q) : WkR N M CB CW H' r kp dd ls c es b e ks := by
  obtain ⟨d, h1⟩ := h.obj
  obtain ⟨kvs2, h6, _⟩ := h.dec
  have n1 : r ≠ q := fun z => by rw [z, hq] at h1; cases h1
  exact h.keep (KN.kb nq k) (fun c xs hc hm => k _ _ hc (fun z => by rw [z, hq] at hc; cases hc)) (fun c ys hc => k _ _ hc (fun z => by rw [z, hq] at hc; cases hc)) ((k _ _ h1 n1).trans h1.symm) ((k _ _ h6 nd.symm).trans h6.symm) (kb_free k hq')
theorem WkN.kbd {q : Addr} {kvs kvs' : List (Key × V)} (h : WkN N M CB CW H r kp dd ls c es pos ks) (k : KB q H H') (hq : H q = some (.dK kvs)) (hq' : H' q = some (.dK kvs')) (nd : q ≠ dd) (nq : ¬ N q) : WkN N M CB CW H' r kp dd ls c es pos ks := ⟨h.raw.kbd k hq hq' nd nq, h.le, h.op⟩
end
theorem RowN.now {N : Addr → Prop} {CB CR : Addr} {H : Hp} {r : Addr} {x : Str} {c : Nat} {ls : List Nat} {es : List Etr} (h : RowN N CB CR H r x c ls es) : RowN (fun c => N c ∧ H c ≠ none) CB CR H r x c ls es := by
  obtain ⟨h0, d, kp, bs, h1, h2, h3, h4, h5⟩ := h
  refine ⟨h0, d, kp, bs, ⟨h1, by rw [h3]; simp⟩, ⟨h2, by rw [h4]; simp⟩, h3, h4, h5.1, fun i b es g1 g2 => ?_⟩
  obtain ⟨hP, d', t, f1, f2, f3, f4⟩ := h5.2 i b es g1 g2
  exact ⟨hP, d', t, ⟨f1, by rw [f3]; simp⟩, ⟨f2, by rw [f4]; simp⟩, f3, f4⟩
section
variable {N M : Addr → Prop} {CB CW : Addr} {H H' : Hp} {r kp dd : Addr} {ls : List Nat} {c : Nat} {es : List Etr} {b e pos : Nat} {ks : List Nat}
/-- a new list is none of the walker's -/
theorem WkR.apart {p : Addr} {o : HO} (h : WkR N M CB CW H r kp dd ls c es b e ks) (n : H p = none) (s : Same H H') (hp : H' p = some o) : WkR N (fun c => M c ∧ c ≠ p) CB CW H' r kp dd ls c es b e ks := by
  have h' := h.same s
  obtain ⟨bs0, k0, _⟩ := h.kept
  obtain ⟨kvs0, d0, f0, _⟩ := h.dec
  obtain ⟨P, ho, ⟨bs, h2, h3⟩, h4, h5, hnr, hnd, hex, kvs, h6, h7, h8⟩ := h'
  have ek : kvs = kvs0 := by
    have := s _ _ d0
    rw [h6] at this
    cases this
    rfl
  subst ek
  refine ⟨P, ho, ⟨bs, h2, h3⟩, ⟨h4, fun z => by rw [z, n] at k0; cases k0⟩, fun x hx => ⟨h5 x hx, fun z => by rw [z, hp] at hx; cases hx⟩, hnr, hnd, hex, kvs, h6, ⟨h7.1, fun j v hv => ?_⟩, h8⟩
  obtain ⟨l, xs, blk, g1, g2, g3, g4, g5⟩ := f0.2 j v hv
  exact ⟨l, xs, blk, g1, ⟨g2, fun z => by rw [z, n] at g4; cases g4⟩, g3, s _ _ g4, g5.same s⟩
theorem WkR.moreM {M' : Addr → Prop} (h : WkR N M CB CW H r kp dd ls c es b e ks) (i : ∀ c, M c → M' c) : WkR N M' CB CW H r kp dd ls c es b e ks := by
  obtain ⟨P, ho, hk, h4, h5, hnr, hnd, hex, kvs, h6, h7, h8⟩ := h
  refine ⟨P, ho, hk, i _ h4, fun x hx => i _ (h5 x hx), hnr, hnd, hex, kvs, h6, ⟨h7.1, fun j v hv => ?_⟩, h8⟩
  obtain ⟨l, xs, blk, g1, g2, g3, g4, g5⟩ := h7.2 j v hv
  exact ⟨l, xs, blk, g1, i _ g2, g3, g4, g5⟩
end
section
variable {N M : Addr → Prop} {CB CW : Addr} {H H' : Hp} {r kp dd : Addr} {ls : List Nat} {c : Nat} {es : List Etr} {b e pos : Nat} {ks : List Nat}
/-- another walker goes on -/
theorem WkR.other {r' kp' dd' : Addr} {ls' : List Nat} {c' : Nat} {es' : List Etr} {b' e' b2 e2 : Nat} {ks' ks2 : List Nat} {M' : Addr → Prop} (h : WkR N M CB CW H r kp dd ls c es b e ks) (k : KW r' dd' H H') (g : WkR N M' CB CW H r' kp' dd' ls' c' es' b' e' ks') (g' : WkR N M' CB CW H' r' kp' dd' ls' c' es' b2 e2 ks2) (n1 : r' ≠ r) (n2 : dd' ≠ dd) : WkR N M CB CW H' r kp dd ls c es b e ks := by
  obtain ⟨d, h1⟩ := h.obj
  obtain ⟨kvs, h6, _⟩ := h.dec
  obtain ⟨d', g1⟩ := g.obj
  obtain ⟨kvs', g6, _⟩ := g.dec
  obtain ⟨d2, g2⟩ := g'.obj
  obtain ⟨kvs2, g7, _⟩ := g'.dec
  have n3 : r ≠ dd' := fun z => by rw [z, g6] at h1; cases h1
  have n4 : dd ≠ r' := fun z => by rw [z, g1] at h6; cases h6
  refine h.keep (k.kn g.nr g.nd) (fun x xs hx _ => g.lst k hx) (g.tupk k) ((k _ _ h1 n1.symm n3).trans h1.symm) ((k _ _ h6 n4 n2.symm).trans h6.symm) (fun x hx => ?_)
  cases hq : H x with
  | none => rfl
  | some o =>
    have := k _ _ hq (fun z => by rw [z, g2] at hx; cases hx) (fun z => by rw [z, g7] at hx; cases hx)
    rw [hx] at this
    cases this
end

end
end K16

namespace K16
section
variable {P : Program} {w : World} {K : PySem.W.Frag} {mg : Str → Option Value} {base : Heap} {Z : Zs} {C_CodeReader C_Block C_Row C_Walker : Addr}
def spWkK (CB CW : Addr) : Sp := fun vs H Q _ => ∃ (N M : Addr → Prop) (r kp dd : Addr) (c : Nat) (ls : List Nat) (es : List Etr) (pos : Nat) (ks : List Nat) (i : Int), vs = [.ref r, .int i] ∧ WkN N M CB CW H r kp dd ls c es pos ks ∧
  ∀ H', KW r dd H H' → WkN N M CB CW H' r kp dd ls c es (seekP es pos i) (addO ks (seekO c es pos i)) → Q (slotV es (seekP es pos i)) H'
theorem ok_wkk {f : Addr} {fd : FuncData} (F : Fun K "seek" "Walker.seek" s_Walker_seek f fd) (T : Txt K mg Z C_CodeReader C_Block C_Row C_Walker) (f_look_slot : Fn P w K mg base "look_slot" 2 ["slot"] spSl0) (me_Walker_is_done : Me P w K mg base C_Walker "is_done" 1 ["self"] (spWkD C_Block C_Walker)) (me_Walker_entry : Me P w K mg base C_Walker "entry" 9 ["self", "number"] (spWkE C_Block C_Walker)) (me_Walker_next_block : Me P w K mg base C_Walker "next_block" 1 ["self"] (spWkB C_Block C_Walker)) (me_Walker_slot : Me P w K mg base C_Walker "slot" 10 ["self"] (spWkS C_Block C_Walker)) : FnOk P w K mg base CX0 11 f fd ["self", "slot"] (spWkK  C_Block C_Walker) := by
  have c1 := T.cl_Block
  have c2 := T.cl_Walker
  have n1 := T.na_Walker_kept
  have n2 := T.na_Walker_at_block
  have n3 := T.na_Walker_at_entry
  have n5 := T.na_Block_last
  have n6 := T.na_Block_first
  refine F.ok sc_Walker_seek (fun vs H Q E h => ?_) (fun cdv A outer s H vs Q E hr h => ?_)
  · obtain ⟨N, M, r, kp, dd, c, ls, es, pos, ks, i, rfl, _⟩ := h
    rfl
  · obtain ⟨N, M, r, kp, dd, c, ls, es, pos, ks, i, rfl, hW, k⟩ := h
    obtain ⟨d, h1⟩ := hW.raw.obj
    obtain ⟨x0, hP⟩ := hW.raw.P
    have hle := hW.le
    have hc := hP.c1
    refine ⟨_, (pss_cons (ps_expr (pe_fn f_look_slot (hr.mono (by omega)) rfl (pa_cons (pv 1) pa_nil)))
 (pss_cons (ps_set (i := 2) sc_Walker_seek.nd rfl (.inl rfl) (pe_me0 (pv 0) T.cl_Walker me_Walker_slot (hr.mono (by omega))))
 (pss_cons (ps_if (PW.pt (pw_or (pt_cmpR op_is0 (pv 2) pe_non (nomark _)) (pw_or1 (pt_cmpR op_ge (pv 2) (pv 1) (nomark _)))))
 (pss_one (ps_ret (pv 2)))
 pss_nil)
 (pss_cons (ps_while PassesOwn.never (PW.pt (pw_and (pt_not (pt_val (pe_me0 (pv 0) T.cl_Walker me_Walker_is_done (hr.mono (by omega))))) (pw_and1 (pt_cmpR op_lt (pe_fld (pe_ix ix_list (pe_fld (pv 0) rfl) (pe_fld (pv 0) rfl) (fun _ _ => rfl)) rfl) (pv 1) (nomark _)))))
 (pss_one (ps_expr (pe_me0 (pv 0) T.cl_Walker me_Walker_next_block (hr.mono (by omega))))))
 (pss_cons (ps_if (PW.pt (pw_and (pt_not (pt_val (pe_me0 (pv 0) T.cl_Walker me_Walker_is_done (hr.mono (by omega))))) (pw_and1 (pt_cmpR op_gt (pv 1) (pe_fld (pe_ix ix_list (pe_fld (pv 0) rfl) (pe_fld (pv 0) rfl) (fun _ _ => rfl)) rfl) (nomark _)))))
 (pss_one (ps_while PassesOwn.never (pt_cmpR op_lt (pe_ix ix_tup (pe_me (pv 0) T.cl_Walker me_Walker_entry (hr.mono (by omega)) (pa_cons (pe_fld (pv 0) rfl) pa_nil)) pe_int (fun _ _ => rfl)) (pv 1) (nomark _))
 (pss_one (ps_fldaug (pv 0) pe_int in_add))))
 pss_nil)
 (pss_one (ps_ret (pe_me0 (pv 0) T.cl_Walker me_Walker_slot (hr.mono (by omega)))))))))), ?_⟩
    wtm_at "w0"
    wtm_at "wp"
    refine ⟨i, rfl, ?_⟩
    wtm_at "wp"
    refine ⟨N, M, r, kp, dd, c, ls, es, pos, ks, rfl, hW, fun H1 kw1 hW1 => ?_⟩
    rcases Nat.lt_or_ge pos es.length with hlt | hge
    · obtain ⟨en, hen⟩ : ∃ en, es[pos]? = some en := ⟨_, List.getElem?_eq_getElem hlt⟩
      have esl : slotV es pos = nV en.1 := by
        unfold slotV
        rw [hen]
      rw [esl]
      wtm_at "wp"
      refine w_dec (fun q => ?_) (fun q => ?_)
      · wtm_at "wp"
        have e : seekP es pos i = pos := seek_is (Nat.le_refl _) hle (fun j h1 h2 => by omega) (fun e he => by rw [hen] at he; cases he; omega)
        rw [e, seekO_none e (fun z => by omega), esl] at k
        exact k _ kw1 hW1
      · have hei : (en.1 : Int) < i := by omega
        wtm_at "wp"
        refine ⟨fun m σ H' => ∃ pos', σ = [some (.ref r), some (.int i), some (nV en.1)] ∧ KW r dd H H' ∧ WkN N M C_Block C_Walker H' r kp dd ls c es pos' ks ∧ pos ≤ pos' ∧ (∀ j, pos ≤ j → j < pos' → ∀ e, es[j]? = some e → (e.1 : Int) < i) ∧ (pos' = pos ∨ eOf c es.length pos' = 0) ∧ m = es.length - pos', ⟨_, pos, rfl, kw1, hW1, Nat.le_refl _, fun j h1 h2 => by omega, .inl rfl, rfl⟩, ?_⟩
        rintro m σ H2 ⟨pos', rfl, kw2, hW2, hpp, hall, hor, rfl⟩
        obtain ⟨d2, h12⟩ := hW2.raw.obj
        have hle2 := hW2.le
        wtm_at "wp"
        refine ⟨N, M, r, kp, dd, c, ls, es, _, _, ks, rfl, hW2.raw, ?_⟩
        rw [hW2.done]
        rcases Nat.lt_or_ge pos' es.length with hlt2 | hge2
        · rw [decide_eq_false (by omega)]
          obtain ⟨bk, g1, g2, g3, g4, g5⟩ := blk_of hc hlt2
          have eb : bOf c es.length pos' = pos' / c := if_pos hlt2
          have ee : eOf c es.length pos' = pos' % c := if_pos hlt2
          have hWr := hW2.raw
          rw [eb, ee] at hWr h12
          obtain ⟨bs, a, h2, h3, ⟨hBP, db, tb, _, _, hb0, _⟩, _⟩ := hWr.blk g1
          have hdm : pos' / c * c + pos' % c = pos' := Nat.div_add_mod' pos' c
          wtm_at "wp"
          refine w_ixL (.of h2) (atI_nat h3) ?_
          wtm_at "wp"
          refine w_dec (fun q2 => ?_) (fun q2 => ?_)
          · refine w_loopT ?_
            wtm_at "wp"
            refine ⟨N, M, r, kp, dd, c, ls, es, _, _, ks, rfl, hWr, fun H3 kw3 hW3 => ?_⟩
            obtain ⟨p2, p3⟩ := pos_next (b := pos' / c) (n := es.length) hc (by omega)
            have hmod := Nat.mod_lt pos' (show c > 0 by omega)
            have hsu : (pos' / c + 1) * c = pos' / c * c + c := Nat.succ_mul _ _
            refine ⟨_, ?_, min ((pos' / c + 1) * c) es.length, rfl, kw2.trans kw3, ⟨by rw [p2, p3]; exact hW3, Nat.min_le_right _ _, fun z => absurd p3 z⟩, by omega, fun j hj1 hj2 e he => ?_, .inr p3, rfl⟩
            · omega
            · rcases Nat.lt_or_ge j pos' with hj | hj
              · exact hall j hj1 hj e he
              · have := (blk_between hP.ok hc hlt2 g1 (by omega) hj2 he).2
                omega
          · wtm_at "wp"
            refine ⟨N, M, r, kp, dd, c, ls, es, _, _, ks, rfl, hW2.raw, ?_⟩
            rw [hW2.done, decide_eq_false (by omega)]
            wtm_at "wp"
            refine w_ixL (.of h2) (atI_nat h3) ?_
            wtm_at "wp"
            refine w_dec (fun q3 => ?_) (fun q3 => ?_)
            · wtm_at "wp"
              have hmod := Nat.mod_lt pos' (show c > 0 by omega)
              have hpc : ∀ j, pos' / c * c ≤ j → j < pos' / c * c + c → j / c = pos' / c := fun j z1 z2 => by
                have : j = (j - pos' / c * c) + pos' / c * c := by omega
                rw [this, Nat.add_mul_div_right _ _ (by omega), Nat.div_eq_of_lt (by omega)]
                omega
              refine ⟨fun m σ H' => ∃ pos2 ks2, σ = [some (.ref r), some (.int i), some (nV en.1)] ∧ KW r dd H H' ∧ WkN N M C_Block C_Walker H' r kp dd ls c es pos2 ks2 ∧ pos' ≤ pos2 ∧ pos2 < es.length ∧ pos2 / c = pos' / c ∧ (∀ j, pos ≤ j → j < pos2 → ∀ e, es[j]? = some e → (e.1 : Int) < i) ∧ addK ks2 (pos' / c) = addK ks (pos' / c) ∧ m = es.length - pos2, ⟨_, pos', ks, rfl, kw2, hW2, Nat.le_refl _, hlt2, rfl, hall, rfl, rfl⟩, ?_⟩
              rintro m σ H4 ⟨pos2, ks2, rfl, kw4, hW4, hp1, hp2, hp3, hall2, hks, rfl⟩
              obtain ⟨d4, h14⟩ := hW4.raw.obj
              have eb2 : bOf c es.length pos2 = pos' / c := by rw [← hp3]; exact if_pos hp2
              have ee2 : eOf c es.length pos2 = pos2 % c := if_pos hp2
              have hW4r := hW4.raw
              rw [eb2, ee2] at hW4r h14
              obtain ⟨bk2, f1, f2, f3, f4, f5⟩ := blk_of hc hp2
              rw [hp3] at f1 f2 f3
              rw [g1] at f1
              cases f1
              obtain ⟨e2, he2⟩ : ∃ e, es[pos2]? = some e := ⟨_, List.getElem?_eq_getElem hp2⟩
              have hdm2 : pos2 / c * c + pos2 % c = pos2 := Nat.div_add_mod' pos2 c
              rw [hp3] at hdm2
              wtm_at "wp"
              refine ⟨N, M, r, kp, dd, c, ls, es, _, _, pos2 % c, ks2, bk, e2, rfl, hW4r, g1, by rw [f5, he2], fun x y H5 kw5 hW5 hx hy => ?_⟩
              rw [hks] at hW5
              wtm_at "wp"
              refine w_dec (fun q4 => ?_) (fun q4 => ?_)
              · have q5 : pos2 % c + 1 < bk.length := by
                  apply Decidable.byContradiction
                  intro z
                  have := blk_last (c := c) (es := es) (bk := bk) (pos := pos2) (x := e2) hc hp2 (by rw [hp3]; exact g1) z he2
                  omega
                obtain ⟨p1, p2, p3⟩ := pos_in hc hp2 (by rw [hp3]; exact f3) q5
                obtain ⟨d5, h15⟩ := hW5.obj
                refine w_loopT ?_
                wtm_at "wp"
                rename_i H6 k6 h6
                have hW6 := hW5.put (b' := pos' / c) (e' := pos2 % c + 1) k6 ⟨_, h6⟩
                refine ⟨es.length - (pos2 + 1), by omega, pos2 + 1, addK ks (pos' / c), rfl, kw4.trans (kw5.trans (.kb k6)), ⟨by rw [p2, p3, hp3]; exact hW6, by omega, fun _ => by rw [p2, hp3]; exact mem_addK⟩, by omega, p1, ?_, fun j hj1 hj2 e he => ?_, ?_, rfl⟩
                · rw [← hp3]
                  unfold bOf at p2
                  rwa [if_pos p1] at p2
                · rcases Nat.lt_or_ge j pos2 with hj | hj
                  · exact hall2 j hj1 hj e he
                  · have ej : j = pos2 := by omega
                    rw [ej, he2] at he
                    cases he
                    exact q4
                · exact addK_mem mem_addK
              · have hWf : WkN N M C_Block C_Walker H5 r kp dd ls c es pos2 (addK ks (pos' / c)) := ⟨by rw [eb2, ee2]; exact hW5, by omega, fun _ => by rw [eb2]; exact mem_addK⟩
                obtain ⟨d5, h15⟩ := hWf.raw.obj
                wtm_at "wp"
                refine ⟨N, M, r, kp, dd, c, ls, es, pos2, _, rfl, hWf, fun H6 kw6 hW6 => ?_⟩
                have e : seekP es pos i = pos2 := seek_is (by omega) (by omega) hall2 (fun e he => by rw [he2] at he; cases he; omega)
                have hne : pos2 ≠ pos := fun z => by
                  rw [z, hen] at he2
                  cases he2
                  omega
                have eo : seekO c es pos i = some (pos' / c) := by
                  rw [← hp3]
                  refine seekO_some e ⟨by omega, hp2, fun e' he' => ?_⟩
                  rw [hp3] at he'
                  obtain ⟨z0, hz0⟩ : ∃ e, bk[0]? = some e := ⟨_, List.getElem?_eq_getElem (by omega)⟩
                  have hz1 := hz0
                  rw [blk_at hc g1 hlt2 (by omega), Nat.add_zero, he'] at hz1
                  cases hz1
                  rw [fst_at hz0] at q3
                  omega
                rw [e, eo] at k
                exact k _ (kw4.trans (kw5.trans kw6)) hW6
            · wtm_at "wp"
              refine ⟨N, M, r, kp, dd, c, ls, es, pos', ks, rfl, hW2, fun H6 kw6 hW6 => ?_⟩
              have hbet : ∀ e, es[pos']? = some e → fstE bk ≤ e.1 := fun e he => (blk_between hP.ok hc hlt2 g1 (by omega) (by rw [Nat.succ_mul]; have := Nat.mod_lt pos' (show c > 0 by omega); omega) he).1
              have hne : pos' ≠ pos := fun z => by
                have h0 := hbet en (by rw [z]; exact hen)
                omega
              have h0 : pos' % c = 0 := by
                rcases hor with z | z
                · exact absurd z hne
                · rw [ee] at z
                  exact z
              obtain ⟨e2, he2⟩ : ∃ e, es[pos']? = some e := ⟨_, List.getElem?_eq_getElem hlt2⟩
              have h2b := hbet e2 he2
              have e : seekP es pos i = pos' := seek_is hpp hle2 hall (fun e he => by rw [he2] at he; cases he; omega)
              have eo : seekO c es pos i = none := seekO_none e (fun z => by
                have h9 := z.2.2 e2 (by rw [show pos' / c * c = pos' by omega]; exact he2)
                omega)
              rw [e, eo] at k
              exact k _ (kw2.trans kw6) hW6
        · rw [decide_eq_true hge2]
          wtm_at "wp"
          refine ⟨N, M, r, kp, dd, c, ls, es, _, _, ks, rfl, hW2.raw, ?_⟩
          rw [hW2.done, decide_eq_true hge2]
          wtm_at "wp"
          refine ⟨N, M, r, kp, dd, c, ls, es, pos', ks, rfl, hW2, fun H6 kw6 hW6 => ?_⟩
          have e : seekP es pos i = pos' := seek_is hpp hle2 hall (fun e he => by rw [List.getElem?_eq_none hge2] at he; cases he)
          rw [e, seekO_none e (fun z => by omega)] at k
          exact k _ (kw2.trans kw6) hW6
    · have esl : slotV es pos = .non := by
        unfold slotV
        rw [List.getElem?_eq_none hge]
      rw [esl]
      wtm_at "wp"
      have e : seekP es pos i = pos := seek_done hge
      rw [e, seekO_none e (fun z => by omega), esl] at k
      exact k _ kw1 hW1
def spWkO (CB CW : Addr) : Sp := fun vs H Q _ => ∃ (N M : Addr → Prop) (r kp dd : Addr) (c : Nat) (ls : List Nat) (es : List Etr) (b e : Nat) (ks : List Nat), vs = [.ref r] ∧ WkR N M CB CW H r kp dd ls c es b e ks ∧ Q (.int ks.length) H
theorem ok_wko {f : Addr} {fd : FuncData} (F : Fun K "opened" "Walker.opened" s_Walker_opened f fd) (T : Txt K mg Z C_CodeReader C_Block C_Row C_Walker) : FnOk P w K mg base CX0 1 f fd ["self"] (spWkO C_Block C_Walker) := by
  have c2 := T.cl_Walker
  have n4 := T.na_Walker_decoded
  refine F.ok sc_Walker_opened (fun vs H Q E h => ?_) (fun cdv A outer s H vs Q E hr h => ?_)
  · obtain ⟨N, M, r, kp, dd, c, ls, es, b, e, ks, rfl, _⟩ := h
    rfl
  · obtain ⟨N, M, r, kp, dd, c, ls, es, b, e, ks, rfl, hW, k⟩ := h
    obtain ⟨d, h1⟩ := hW.obj
    obtain ⟨kvs, h6, h7, h8⟩ := hW.dec
    have hl : kvs.length = ks.length := by
      have := congrArg List.length h7.1
      rwa [List.length_map, List.length_map] at this
    refine ⟨_, (pss_one (ps_ret (pe_callB cl_lenD (by rfl) T.n_len PySem.boot_len (pa_cons (pe_fld (pv 0) rfl) pa_nil)))), ?_⟩
    wtm_at "w0"
    wtm_at "wp"
    refine w_lenD h6 ?_
    rw [hl]
    exact k
def spWkL (CB CW : Addr) : Sp := fun vs H Q _ => ∃ (N M : Addr → Prop) (r kp dd : Addr) (c : Nat) (ls : List Nat) (es : List Etr) (pos : Nat) (ks : List Nat), vs = [.ref r] ∧ WkN N M CB CW H r kp dd ls c es pos ks ∧ (es.length ≤ pos → Q .non H) ∧ (∀ bk a, pos < es.length → (cutE c es)[pos / c]? = some bk → BlkN N CB H a ls bk → Q (.ref a) H)
theorem ok_wkl {f : Addr} {fd : FuncData} (F : Fun K "block" "Walker.block" s_Walker_block f fd) (T : Txt K mg Z C_CodeReader C_Block C_Row C_Walker) (me_Walker_is_done : Me P w K mg base C_Walker "is_done" 1 ["self"] (spWkD C_Block C_Walker)) : FnOk P w K mg base CX0 2 f fd ["self"] (spWkL C_Block C_Walker) := by
  have c2 := T.cl_Walker
  have n1 := T.na_Walker_kept
  have n2 := T.na_Walker_at_block
  refine F.ok sc_Walker_block (fun vs H Q E h => ?_) (fun cdv A outer s H vs Q E hr h => ?_)
  · obtain ⟨N, M, r, kp, dd, c, ls, es, pos, ks, rfl, _⟩ := h
    rfl
  · obtain ⟨N, M, r, kp, dd, c, ls, es, pos, ks, rfl, hW, k0, k1⟩ := h
    obtain ⟨d, h1⟩ := hW.raw.obj
    obtain ⟨x0, hP⟩ := hW.raw.P
    refine ⟨_, (pss_one (ps_ret (pe_ifExp (pt_val (pe_me0 (pv 0) T.cl_Walker me_Walker_is_done (hr.mono (by omega)))) pe_non (pe_ix ix_list (pe_fld (pv 0) rfl) (pe_fld (pv 0) rfl) (fun _ _ => rfl))))), ?_⟩
    wtm_at "w0"
    wtm_at "wp"
    refine ⟨N, M, r, kp, dd, c, ls, es, _, _, ks, rfl, hW.raw, ?_⟩
    rw [hW.done]
    wtm_at "wp"
    refine w_dec (fun q => ?_) (fun q => ?_)
    · wtm_at "wp"
      exact k0 q
    · have hlt : pos < es.length := by omega
      obtain ⟨bk, g1, _⟩ := blk_of hP.c1 hlt
      have eb : bOf c es.length pos = pos / c := if_pos hlt
      have hWr := hW.raw
      rw [eb] at hWr h1
      obtain ⟨bs, a, h2, h3, h4, _⟩ := hWr.blk g1
      wtm_at "wp"
      exact w_ixL (.of h2) (atI_nat h3) (k1 bk a hlt g1 h4)

def spWkP (CB CW : Addr) : Sp := fun vs H Q _ => ∃ (N M : Addr → Prop) (r kp dd : Addr) (c : Nat) (ls : List Nat) (es : List Etr) (pos : Nat) (ks : List Nat) (en : Etr), vs = [.ref r] ∧ WkN N M CB CW H r kp dd ls c es pos ks ∧ es[pos]? = some en ∧
  ∀ y H', KW r dd H H' → WkN N M CB CW H' r kp dd ls c es pos (addK ks (pos / c)) → H' y = some (.tup (en.2.map nV)) → Q (.ref y) H'
theorem ok_wkp {f : Addr} {fd : FuncData} (F : Fun K "places" "Walker.places" s_Walker_places f fd) (T : Txt K mg Z C_CodeReader C_Block C_Row C_Walker) (me_Walker_is_done : Me P w K mg base C_Walker "is_done" 1 ["self"] (spWkD C_Block C_Walker)) (me_Walker_entry : Me P w K mg base C_Walker "entry" 9 ["self", "number"] (spWkE C_Block C_Walker)) : FnOk P w K mg base CX0 10 f fd ["self"] (spWkP C_Block C_Walker) := by
  have c2 := T.cl_Walker
  have n3 := T.na_Walker_at_entry
  refine F.ok sc_Walker_places (fun vs H Q E h => ?_) (fun cdv A outer s H vs Q E hr h => ?_)
  · obtain ⟨N, M, r, kp, dd, c, ls, es, pos, ks, en, rfl, _⟩ := h
    rfl
  · obtain ⟨N, M, r, kp, dd, c, ls, es, pos, ks, en, rfl, hW, hen, k⟩ := h
    obtain ⟨d, h1⟩ := hW.raw.obj
    obtain ⟨x0, hP⟩ := hW.raw.P
    have hlt : pos < es.length := by
      apply Nat.lt_of_not_le
      intro z
      rw [List.getElem?_eq_none z] at hen
      cases hen
    obtain ⟨bk, g1, g2, g3, g4, g5⟩ := blk_of hP.c1 hlt
    have eb : bOf c es.length pos = pos / c := if_pos hlt
    have ee : eOf c es.length pos = pos % c := if_pos hlt
    refine ⟨_, (pss_cons (ps_if (pt_val (pe_me0 (pv 0) T.cl_Walker me_Walker_is_done (hr.mono (by omega))))
 (pss_one (ps_never))
 pss_nil)
 (pss_one (ps_ret (pe_ix ix_tup (pe_me (pv 0) T.cl_Walker me_Walker_entry (hr.mono (by omega)) (pa_cons (pe_fld (pv 0) rfl) pa_nil)) pe_int (fun _ _ => rfl))))), ?_⟩
    wtm_at "w0"
    wtm_at "wp"
    refine ⟨N, M, r, kp, dd, c, ls, es, _, _, ks, rfl, hW.raw, ?_⟩
    rw [hW.done, decide_eq_false (by omega)]
    have hWr := hW.raw
    rw [eb, ee] at hWr h1
    wtm_at "wp"
    refine ⟨N, M, r, kp, dd, c, ls, es, _, _, pos % c, ks, bk, en, rfl, hWr, g1, by rw [g5, hen], fun x y H' kw hW' hx hy => ?_⟩
    wtm_at "wp"
    exact k _ _ kw ⟨by rw [eb, ee]; exact hW', hW.le, fun _ => by rw [eb]; exact mem_addK⟩ hy

end
end K16

namespace K16
section
variable {P : Program} {w : World} {K : PySem.W.Frag} {mg : Str → Option Value} {base : Heap} {Z : Zs} {C_CodeReader C_Block C_Row C_Walker : Addr}
abbrev s_Walker_glance : Stmt := inClass (topS 30) 8
theorem sc_Walker_glance : FnScope ["self", "slots", "block", "entry", "told", "at", "slot"] ["self", "slots"] (defScope s_Walker_glance) := ⟨rfl, rfl, rfl, by decide +kernel, rfl, by decide +kernel, by decide +kernel⟩
theorem kw_free {r dd c : Addr} {H H' : Hp} {o o' : HO} (k : KW r dd H H') (hr : H' r = some o) (hd : H' dd = some o') (h : H' c = none) : H c = none := by
  cases hq : H c with
  | none => rfl
  | some x =>
    have := k _ _ hq (fun z => by rw [z, hr] at h; cases h) (fun z => by rw [z, hd] at h; cases h)
    rw [h] at this
    cases this
/-- a list that may be refused at a place -/
def spWkGX (K : PySem.W.Frag) (Z : Zs) (CB CW : Addr) : Sp := fun vs H Q E => ∃ (N M : Addr → Prop) (r kp dd : Addr) (v : V) (c : Nat) (ls : List Nat) (es : List Etr) (pos : Nat) (ks : List Nat), vs = [.ref r, v] ∧ WkN N M CB CW H r kp dd ls c es pos ks ∧
  ((∃ (l : Addr) (is : List Int), v = .ref l ∧ H l = some (.lst (is.map V.int)) ∧ is.length ≤ 1000 ∧ ∀ p H', H p = none → KW r dd H H' → H' p = some (.lst (glV es pos is)) → WkN N (fun z => M z ∧ z ≠ p) CB CW H' r kp dd ls c es pos (glK c es pos ks is) → Q (.ref p) H') ∨
   (∃ (l : Addr) (is : List Int) (y : V) (rest : List V), v = .ref l ∧ H l = some (.lst (is.map V.int ++ y :: rest)) ∧ is.length + rest.length ≤ 1000 ∧ Thg H y ∧ isInt y = false ∧ ∀ d H', H d = none → KW r dd H H' → H' d = some (.xd [("at", .int is.length)]) → WkN N M CB CW H' r kp dd ls c es pos (glK c es pos ks is) → E (.ref Z.NoRow) (some d) H') ∨
   (NoL H v ∧ ∀ d H', H d = none → KW r dd H H' → H' d = some (.xd [("at", .non)]) → WkN N M CB CW H' r kp dd ls c es pos ks → E (.ref Z.NoRow) (some d) H'))
theorem ok_wkgx {f : Addr} {fd : FuncData} (F : Fun K "glance" "Walker.glance" s_Walker_glance f fd) (T : Txt K mg Z C_CodeReader C_Block C_Row C_Walker) (x0_NoRow : Xcl P w K mg base "NoRow" Z.NoRow 1 "at" [.non]) (x1_NoRow : Xcl P w K mg base "NoRow" Z.NoRow 1 "at" []) (f_is_whole : Fn P w K mg base "is_whole" 1 ["thing"] spWhole) (me_Walker_seek : Me P w K mg base C_Walker "seek" 11 ["self", "slot"] (spWkK C_Block C_Walker)) : FnOk P w K mg base (CXc P w) 12 f fd ["self", "slots"] (spWkGX K Z C_Block C_Walker) := by
  have c2 := T.cl_Walker
  have n2 := T.na_Walker_at_block
  have n3 := T.na_Walker_at_entry
  refine Fun_okY F sc_Walker_glance (fun vs H Q E h => ?_) (fun cdv A outer s H vs Q E hr h => ?_)
  · obtain ⟨N, M, r, kp, dd, l, c, ls, es, pos, ks, rfl, _⟩ := h
    rfl
  · obtain ⟨N, M, r, kp, dd, v, c, ls, es, pos, ks, rfl, hW, k⟩ := h
    obtain ⟨d, h1⟩ := hW.raw.obj
    refine ⟨_, (pss_cons (ps_if (pt_not (pt_val (pe_callB call_isi (by rfl) T.n_isinstance PyProof.Rows.boot_isinstance (pa_cons (pv 1) (pa_cons (pe_bltn (v := .ty "list") (by rfl) T.n_list PyProof.Rows.boot_list rfl) pa_nil)))))
 (pss_one (ps_rse rfl takesY (pmk_x0N x0_NoRow (hr.mono (by omega)) rfl)))
 pss_nil)
 (pss_cons (ps_par (i := 2) (j := 3) (by rfl) sc_Walker_glance.nd rfl rfl (by decide) rfl rfl (pa_cons (pe_fld (pv 0) rfl) (pa_cons (pe_fld (pv 0) rfl) pa_nil)) (by rfl))
 (pss_cons (ps_set (i := 4) sc_Walker_glance.nd rfl (.inl rfl) (pe_lst pa_nil))
 (pss_cons (ps_finAC rfl rfl rfl takesY (pss_one (ps_asg (pe_tup (pa_cons (pv 2) (pa_cons (pv 3) pa_nil))) (pg_tup rfl (pgs_cons (pg_fld (pv 0)) (pgs_cons (pg_fld (pv 0)) pgs_nil))))))
 (pss_one (ps_ret (pv 4))))))), ?_⟩
    wtm_at "w0"
    wtm_at "wp"
    have k' : (NoL H v ∧ ∀ d H', H d = none → KW r dd H H' → H' d = some (.xd [("at", .non)]) → WkN N M C_Block C_Walker H' r kp dd ls c es pos ks → E (.ref Z.NoRow) (some d) H') ∨
      ∃ (l : Addr) (is : List Int) (bad : List V), v = .ref l ∧ H l = some (.lst (is.map V.int ++ bad)) ∧ is.length + bad.length ≤ 1001 ∧
      ((bad = [] ∧ ∀ p H', H p = none → KW r dd H H' → H' p = some (.lst (glV es pos is)) → WkN N (fun z => M z ∧ z ≠ p) C_Block C_Walker H' r kp dd ls c es pos (glK c es pos ks is) → Q (.ref p) H') ∨
       (∃ y rest, bad = y :: rest ∧ Thg H y ∧ isInt y = false ∧ ∀ d H', H d = none → KW r dd H H' → H' d = some (.xd [("at", .int is.length)]) → WkN N M C_Block C_Walker H' r kp dd ls c es pos (glK c es pos ks is) → E (.ref Z.NoRow) (some d) H')) := by
      rcases k with ⟨l, is, rfl, hl, hil, k⟩ | ⟨l, is, y, rest, rfl, hl, hil, hy, hyi, k⟩ | ⟨hv, k⟩
      · exact .inr ⟨l, is, [], rfl, by rw [List.append_nil]; exact hl, by simp; omega, .inl ⟨rfl, k⟩⟩
      · exact .inr ⟨l, is, y :: rest, rfl, hl, by simp; omega, .inr ⟨y, rest, rfl, hy, hyi, k⟩⟩
      · exact .inl ⟨hv, k⟩
    clear k
    rcases k' with ⟨hv, k⟩ | ⟨l, is, bad, rfl, hl, hlen, k⟩
    · obtain ⟨tv, ht, hk⟩ := hv.ty (K := K)
      refine w_isiB ht hk ?_
      wtm_at "wp"
      intro d2 H2 nd2 s2 hd2
      exact k d2 H2 nd2 (KW.of s2) hd2 (hW.same s2)
    · wtm_at "wp"
      rename_i p2 n2' H2 s2 h2
      refine w_finAC (fun pn0 xe0 tk0 po0 => ⟨_, (pss_one (ps_for po0 rfl (pi_enum (by rfl) T.n_enumerate (pa_cons (pv 1) pa_nil)) (pg_tup rfl (pgs_cons (pg_name (i := 5) sc_Walker_glance.nd rfl (.inl rfl)) (pgs_cons (pg_name (i := 6) sc_Walker_glance.nd rfl (.inl rfl)) pgs_nil)))
 (pss_cons (ps_if (pt_not (pt_val (pe_fn f_is_whole (hr.mono (by omega)) rfl (pa_cons (pv 6) pa_nil))))
 (pss_one (ps_rse rfl tk0 (pmk_xN x1_NoRow (hr.mono (by omega)) rfl (pa_cons (pv 5) pa_nil) monoV)))
 pss_nil)
 (pss_one (ps_expr (pe_bm PySem.F.plainAttrs_list PySem.F.slot_list_append PySem.F.type_list_append mt_append (pv 4) (pa_cons (pe_me (pv 0) T.cl_Walker me_Walker_seek (hr.mono (by omega)) (pa_cons (pv 6) pa_nil)) pa_nil))))))), ?_⟩)
      wtm_at "wp"
      refine for_fin (fin_enum (xs := is.map V.int ++ bad)) (fun j σ H' => j ≤ is.length ∧ ∃ (v5 v6 : Option V), σ = [some (.ref r), some (.ref l), some (nV (bOf c es.length pos)), some (nV (eOf c es.length pos)), some (.ref p2), v5, v6] ∧ KW r dd H H' ∧ H' l = some (.lst (is.map V.int ++ bad)) ∧ H' p2 = some (.lst (glV es pos (is.take j))) ∧ WkN N (fun c => M c ∧ c ≠ p2) C_Block C_Walker H' r kp dd ls c es (glE es pos (is.take j)) (glK c es pos ks (is.take j))) ⟨Nat.zero_le _, _, _, rfl, KW.of s2, s2 _ _ hl, h2, ⟨hW.raw.apart n2' s2 h2, hW.le, hW.op⟩⟩ (fun j σ H' _ h => by obtain ⟨_, _, _, _, _, h, _⟩ := h; exact .of h) ?_ ?_
      · rintro j z σ H3 H4 hj ⟨hji, v5, v6, rfl, kw3, hl3, hp3, hW3⟩ ⟨t, y, rfl, nt, st, ht, hy⟩
        have hW4 := hW3.same st
        obtain ⟨d4, h14⟩ := hW4.raw.obj
        have nlp : l ≠ p2 := fun z => by rw [z] at hl; rw [hl] at n2'; cases n2'
        rcases Nat.lt_or_ge j is.length with hlt | hge
        · rw [List.getElem?_append_left (by rw [List.length_map]; exact hlt), List.getElem?_map] at hy
          obtain ⟨i, hi, rfl⟩ := Option.map_eq_some_iff.mp hy
          wtm_at "wp"
          refine ⟨_, rfl, .int _, ?_⟩
          wtm_at "wp"
          refine ⟨N, _, r, kp, dd, c, ls, es, _, _, i, rfl, hW4, fun H5 kw5 hW5 => ?_⟩
          have hp5 := hW4.raw.lst kw5 (st _ _ hp3)
          wtm_at "wp"
          refine w_append hp5 (Nat.lt_of_le_of_lt (by rw [glV_len, List.length_take]; omega : _ ≤ 1001) (by decide)) (fun H6 k6 h6 => ?_)
          have hl5 := hW4.raw.lst kw5 (st _ _ hl3)
          obtain ⟨d5, h15⟩ := hW5.raw.obj
          obtain ⟨kv5, hd5, _⟩ := hW5.raw.dec
          have np2 : H p2 = none := n2'
          refine ⟨hlt, _, _, rfl, fun x o hx a b => k6 _ _ (kw5 _ _ (st _ _ (kw3 x o hx a b)) a b) (fun z => by rw [z, np2] at hx; cases hx), k6 _ _ hl5 nlp, ?_, ?_⟩
          · rw [h6, take_succL hi, glV_snoc]
          · rw [take_succL hi, glE_snoc, glK_snoc]
            exact hW5.kb k6 hp5 h6 (fun z => hW.raw.ex _ z np2) (fun z => z.2 rfl)
        · have ej : j = is.length := by omega
          subst ej
          rw [List.getElem?_append_right (by rw [List.length_map]; exact Nat.le_refl _), List.length_map, Nat.sub_self] at hy
          rcases k with ⟨rfl, _⟩ | ⟨y', rest, rfl, hy', hyi, k⟩
          · cases hy
          cases hy
          rw [List.take_length] at hp3 hW3 hW4
          have nd3 : ∀ {c}, H4 c = none → H c = none := fun {c} h => by
            obtain ⟨d0, h10⟩ := hW3.raw.obj
            obtain ⟨kv0, hd0, _⟩ := hW3.raw.dec
            exact kw_free kw3 h10 hd0 (same_free st h)
          have hy4 : Thg H4 y := by
            have := hy'
            cases this with
            | non => exact .non
            | int i => exact .int i
            | bl b => exact .bl b
            | str x => exact .str x
            | lst q => exact .lst (st _ _ (kw3 _ _ q (fun z => by rw [z, h1] at q; cases q) (fun z => by obtain ⟨kv, hd, _⟩ := hW.raw.dec; rw [z, hd] at q; cases q)))
            | tup q => exact .tup (st _ _ (kw3 _ _ q (fun z => by rw [z, h1] at q; cases q) (fun z => by obtain ⟨kv, hd, _⟩ := hW.raw.dec; rw [z, hd] at q; cases q)))
          wtm_at "wp"
          refine ⟨_, rfl, hy4, ?_⟩
          rw [hyi]
          wtm_at "wp"
          intro d5 H5 nd5 s5 hd5
          refine w_wFin (fun a0 pn1 hot => ⟨_, (pss_one (ps_asg (pe_tup (pa_cons (pv 2) (pa_cons (pv 3) pa_nil))) (pg_tupK hot (pgs_cons (pg_fld (pv 0)) (pgs_cons (pg_fld (pv 0)) pgs_nil))))), ?_⟩)
          have hW5 := hW4.same s5
          obtain ⟨d5', h15⟩ := hW5.raw.obj
          wtm_at "wp"
          rename_i t6 n6 H6 s6 h6 H7 k7 h7 H8 k8 h8
          have K8 := k7.trans k8
          have W8 := ((hW5.same s6).raw.put K8 ⟨_, h8⟩).moreM (M' := M) (fun _ z => z.1)
          have ndr : d5 ≠ r := fun z => by rw [z, h15] at hd5; cases hd5
          exact k d5 H8 (nd3 nd5) ((kw3.trans (KW.of (st.trans (s5.trans s6)))).trans (.kb K8)) (K8 _ _ (s6 _ _ hd5) ndr) ⟨W8, hW.le, fun z => glK_sub _ _ _ _ _ (hW.op z)⟩
      · rintro σ H3 ⟨hji, v5, v6, rfl, kw3, hl3, hp3, hW3⟩
        rcases k with ⟨rfl, k⟩ | ⟨y, rest, rfl, _⟩
        rotate_left
        · simp at hji
          omega
        rw [List.append_nil, List.length_map, List.take_length] at hp3 hW3
        obtain ⟨d3, h13⟩ := hW3.raw.obj
        wtm_at "wp"
        rename_i t3 n3' H3' s3 ht3 H4 k4 h4 H5 k5 h5
        have K5 := k4.trans k5
        have hp3 := s3 _ _ hp3
        have kw3 := kw3.trans (KW.of s3)
        have W5 := ((hW3.same s3).raw.put K5 ⟨_, h5⟩)
        have np3 : p2 ≠ r := fun z => by rw [z, h1] at n2'; cases n2'
        exact k p2 H5 n2' (kw3.trans (.kb K5)) (K5 _ _ hp3 np3) ⟨W5, hW.le, fun z => glK_sub _ _ _ _ _ (hW.op z)⟩

end
end K16

namespace K16
section
variable {P : Program} {w : World} {K : PySem.W.Frag} {mg : Str → Option Value} {base : Heap} {Z : Zs} {C_CodeReader C_Block C_Row C_Walker : Addr}
abbrev s_law_seek : Stmt := topS 61
theorem sc_law_seek : FnScope ["_law_entries", "_law_at", "_law_slot_here"] ["_law_entries", "_law_at", "_law_slot_here"] (defScope s_law_seek) := ⟨rfl, rfl, rfl, by decide +kernel, rfl, by decide +kernel, by decide +kernel⟩
abbrev s_law_slot : Stmt := topS 62
theorem sc_law_slot : FnScope ["_law_entries", "_law_at", "_law_entry"] ["_law_entries", "_law_at"] (defScope s_law_slot) := ⟨rfl, rfl, rfl, by decide +kernel, rfl, by decide +kernel, by decide +kernel⟩
/-! ### the law's own walk -/
def spLSeek : Sp := fun vs H Q _ => ∃ (a : Addr) (xs : List V) (es : List Etr) (pos : Nat) (i : Int), vs = [.ref a, .int pos, .int i] ∧ H a = some (.lst xs) ∧ RpAll H xs (es.map eD) ∧ pos ≤ es.length ∧ Q (.int (seekP es pos i)) H
theorem ok_lseek {f : Addr} {fd : FuncData} (F : Fun K "_law_seek" "_law_seek" s_law_seek f fd) (T : Txt K mg Z C_CodeReader C_Block C_Row C_Walker) : FnOk P w K mg base CX0 1 f fd ["_law_entries", "_law_at", "_law_slot_here"] spLSeek := by
  refine F.ok sc_law_seek (fun vs H Q E h => ?_) (fun cdv A outer s H vs Q E hr h => ?_)
  · obtain ⟨a, xs, es, pos, i, rfl, _⟩ := h
    rfl
  · obtain ⟨a, xs, es, pos, i, rfl, ha, rr, hp, k⟩ := h
    have hxl := rr.length
    rw [List.length_map] at hxl
    refine ⟨_, (pss_cons (ps_while PassesOwn.never (PW.pt (pw_and (pt_cmpR op_lt (pv 1) (pe_callB cl_len (by rfl) T.n_len PySem.boot_len (pa_cons (pv 0) pa_nil)) (nomark _)) (pw_and1 (pt_cmpR op_lt (pe_ix ix_tup (pe_ix ix_list (pv 0) (pv 1) (fun _ _ => rfl)) pe_int (fun _ _ => rfl)) (pv 2) (nomark _)))))
 (pss_one (ps_set (i := 1) sc_law_seek.nd rfl (.inl rfl) (pe_op op_add (pv 1) pe_int))))
 (pss_one (ps_ret (pv 1)))), ?_⟩
    wtm_at "w0"
    wtm_at "wp"
    refine ⟨fun m σ H' => H' = H ∧ ∃ q : Nat, σ = [some (.ref a), some (.int q), some (.int i)] ∧ pos ≤ q ∧ q ≤ es.length ∧ (∀ j, pos ≤ j → j < q → ∀ e, es[j]? = some e → (e.1 : Int) < i) ∧ m = es.length - q, ⟨_, rfl, pos, rfl, Nat.le_refl _, hp, fun j h1 h2 => by omega, rfl⟩, ?_⟩
    rintro m σ H' ⟨rfl, q, rfl, q1, q2, q3, rfl⟩
    wtm_at "wp"
    rw [hxl]
    refine w_dec (fun h1 => ?_) (fun h1 => ?_)
    · obtain ⟨x, hx⟩ : ∃ x, xs[q]? = some x := ⟨_, List.getElem?_eq_getElem (by omega)⟩
      obtain ⟨xa, xb, e, he, rfl, hxa, hxb⟩ := ents_at rr hx
      wtm_at "wp"
      refine w_ixL (.of ha) (atI_nat hx) ?_
      wtm_at "wp"
      refine w_dec (fun h2 => ?_) (fun h2 => ?_)
      · refine w_loopT ?_
        wtm_at "wp"
        refine ⟨es.length - (q + 1), by omega, rfl, q + 1, rfl, by omega, by omega, fun j j1 j2 e' he' => ?_, rfl⟩
        rcases Nat.lt_or_ge j q with hj | hj
        · exact q3 j j1 hj e' he'
        · have ej : j = q := by omega
          rw [ej, he] at he'
          cases he'
          exact h2
      · wtm_at "wp"
        rw [seek_is q1 q2 q3 (fun e' he' => by rw [he] at he'; cases he'; omega)] at k
        exact k
    · wtm_at "wp"
      rw [seek_is q1 q2 q3 (fun e' he' => by rw [List.getElem?_eq_none (by omega)] at he'; cases he')] at k
      exact k
def spLSlot : Sp := fun vs H Q _ => ∃ (a : Addr) (xs : List V) (es : List Etr) (pos : Nat), vs = [.ref a, .int pos] ∧ H a = some (.lst xs) ∧ RpAll H xs (es.map eD) ∧ es.length ≤ 60 ∧ pos ≤ es.length ∧ ∀ H', Same H H' → Q (slotV es pos) H'
theorem ok_lslot2 {f : Addr} {fd : FuncData} (F : Fun K "_law_slot" "_law_slot" s_law_slot f fd) (T : Txt K mg Z C_CodeReader C_Block C_Row C_Walker) : FnOk P w K mg base CX0 1 f fd ["_law_entries", "_law_at"] spLSlot := by
  refine F.ok sc_law_slot (fun vs H Q E h => ?_) (fun cdv A outer s H vs Q E hr h => ?_)
  · obtain ⟨a, xs, es, pos, rfl, _⟩ := h
    rfl
  · obtain ⟨a, xs, es, pos, rfl, ha, rr, h60, hp, k⟩ := h
    have hxl := rr.length
    rw [List.length_map] at hxl
    refine ⟨_, (pss_one (ps_ret (pe_ix ix_list (pe_lc (own := [("_law_entry", 2)]) (g := gName 2) (tt := tYes) rfl sc_law_slot.nd (show PI _ _ _ (iList K _) from (pi_list (pe_op op_cat (pe_slice (show SlR _ (rSlL K) from sl_list) (pv 0) (po_some (pv 1)) (po_some (pe_op op_add (pv 1) pe_int))) (pe_lst (pa_cons (pe_tup (pa_cons pe_non (pa_cons (pe_tup pa_nil) pa_nil))) pa_nil))))) (blkOk_by (own := [("_law_entry", 2)]) (N := ["_law_entries", "_law_at", "_law_entry"]) (sc := defScope s_law_slot) (by decide +kernel)) (fun _ _ _ _ _ => pg_name (i := 2) sc_law_slot.nd rfl (Or.inl rfl)) (fun _ _ _ _ _ => pts_nil) (fun _ _ _ _ _ => (pe_ix (show IxR _ (rIxT K) from ix_tup) (pv 2) pe_int (fun _ _ => rfl)))) pe_int (fun _ _ => rfl)))), ?_⟩
    wtm_at "w0"
    wtm_at "wp"
    rename_i p1 H1 n1 s1 h1 t2 n2 H2 s2 h2 t3 n3 H3 s3 h3 l4 n4 H4 s4 h4
    have ec : cutV xs (some (pos : Int)) (some ((pos : Int) + 1)) = (xs.drop pos).take 1 := cutV_pc (c := 1)
    rw [ec] at h1
    have h14 := s4 _ _ (s3 _ _ (s2 _ _ h1))
    refine w_cat h14 h4 (sz (by simp; omega)) (fun l5 H5 n5 s5 h5 => ?_)
    have S5 := s1.trans (s2.trans (s3.trans (s4.trans s5)))
    have rr5 := rr.same S5
    have h35 := s5 _ _ (s4 _ _ h3)
    have hlen : ((xs.drop pos).take 1 ++ [V.ref t3]).length ≤ 2 := by simp; omega
    wtm_at "wp"
    refine lc_fin (fin_list (xs := (xs.drop pos).take 1 ++ [V.ref t3])) (fun i acc H' => Same H5 H' ∧ acc.length = i ∧ (0 < i → acc[0]? = some (slotV es pos))) (fun D H6 nD s6 hD => ⟨s6, rfl, fun z => absurd z (by decide)⟩) (fun i acc H6 _ h => .of (h.1 _ _ h5)) ?_ ?_
    · rintro D i v acc H6 H6' nD hi hac ⟨s6, e6, f6⟩ hD ⟨rfl, hv⟩
      have hin : (∃ e ta tb, v = .ref ta ∧ H6' ta = some (.tup [nV e.1, .ref tb]) ∧ i = 0 ∧ es[pos]? = some e) ∨ (v = .ref t3 ∧ (i = 0 → slotV es pos = .non)) := by
        rcases Nat.lt_or_ge pos es.length with hlt | hge
        · cases i with
          | zero =>
            left
            obtain ⟨x, hx⟩ : ∃ x, xs[pos]? = some x := ⟨_, List.getElem?_eq_getElem (by omega)⟩
            rw [List.getElem?_append_left (by simp; omega), List.getElem?_take, if_pos (by decide), List.getElem?_drop, Nat.add_zero, hx] at hv
            cases hv
            obtain ⟨xa, xb, e, he, rfl, hxa, hxb⟩ := ents_at (rr5.same s6) hx
            exact ⟨e, xa, xb, rfl, hxa, rfl, he⟩
          | succ i =>
            right
            rw [List.getElem?_append_right (by simp; omega)] at hv
            have hm := List.mem_of_getElem? hv
            exact ⟨List.mem_singleton.mp hm, fun z => by cases z⟩
        · right
          rw [List.drop_eq_nil_of_le (by omega)] at hv
          refine ⟨List.mem_singleton.mp (List.mem_of_getElem? hv), fun _ => ?_⟩
          unfold slotV
          rw [List.getElem?_eq_none hge]
      have h36 := s6 _ _ h35
      rcases hin with ⟨e, ta, tb, rfl, hta, i0, he⟩ | ⟨rfl, hz⟩
      · wtm_at "wp"
        refine ⟨rfl, ?_⟩
        wtm_at "wp"
        refine w_acc hD hac hi (sz (by omega)) (fun H7 k7 h7 => ⟨k7.same s6 nD, by simp [e6], fun _ => ?_⟩)
        have ea : acc = [] := List.eq_nil_of_length_eq_zero (by omega)
        rw [ea]
        unfold slotV
        rw [he]
        rfl
      · wtm_at "wp"
        refine ⟨rfl, ?_⟩
        wtm_at "wp"
        refine w_acc hD hac hi (sz (by omega)) (fun H7 k7 h7 => ⟨k7.same s6 nD, by simp [e6], fun _ => ?_⟩)
        cases i with
        | zero =>
          have ea : acc = [] := List.eq_nil_of_length_eq_zero (by omega)
          rw [ea, hz rfl]
          rfl
        | succ i =>
          rw [List.getElem?_append_left (by omega)]
          exact f6 (by omega)
    · rintro D acc H6 nD ⟨s6, e6, f6⟩ hac hD
      wtm_at "wp"
      exact w_ixL (.of hD) (atI_nat (j := 0) (f6 (by simp))) (k _ (S5.trans s6))

abbrev s_law_slots_opened : Stmt := topS 63
theorem sc_law_slots_opened : FnScope ["_law_entries", "_law_wide", "_law_at", "_law_slot_here", "_law_some", "_law_number", "_law_first", "_law_last"] ["_law_entries", "_law_wide", "_law_at", "_law_slot_here"] (defScope s_law_slots_opened) := ⟨rfl, rfl, rfl, by decide +kernel, rfl, by decide +kernel, by decide +kernel⟩
theorem fdiv_nat {m c : Nat} (hc : 1 ≤ c) : (m : Int).fdiv (c : Int) = ((m / c : Nat) : Int) := by
  rw [Int.fdiv_eq_ediv_of_nonneg _ (by omega), Int.natCast_ediv]
theorem fdivC {m : Int} {c : Nat} (h1 : 1 ≤ c) (h8 : c ≤ 8) : CDivU m (c : Int) := divU (b := 64) (by omega) (by omega) (by decide) (by decide)
def opD (c : Nat) (es : List Etr) (k : Nat) : PyData := .tuple [.int k, eD (fK c es k), eD (lK c es k)]
theorem noLs_op {c : Nat} {es : List Etr} (ks : List Nat) : noLs (ks.map (opD c es)) = true := noLs_all fun d hd => by
  obtain ⟨k, _, rfl⟩ := List.mem_map.mp hd
  show (noL (.int k) && (noL (eD _) && (noL (eD _) && true))) = true
  rw [noL_eD, noL_eD]
  rfl
def spOpens : Sp := fun vs H Q _ => ∃ (a : Addr) (xs : List V) (es : List Etr) (c pos : Nat) (i : Int), vs = [.ref a, .int c, .int pos, .int i] ∧ H a = some (.lst xs) ∧ RpAll H xs (es.map eD) ∧ EntOk 0 es ∧ es.length ≤ 60 ∧ 1 ≤ c ∧ c ≤ 8 ∧ pos ≤ es.length ∧ ∀ l H', H l = none → Same H H' → H' l = some (.lst ((seekO c es pos i).toList.map nV)) → Q (.ref l) H'
theorem ok_opens {f : Addr} {fd : FuncData} (F : Fun K "_law_slots_opened" "_law_slots_opened" s_law_slots_opened f fd) (T : Txt K mg Z C_CodeReader C_Block C_Row C_Walker) : FnOk P w K mg base CX0 1 f fd ["_law_entries", "_law_wide", "_law_at", "_law_slot_here"] spOpens := by
  refine F.ok sc_law_slots_opened (fun vs H Q E h => ?_) (fun cdv A outer s H vs Q E hr h => ?_)
  · obtain ⟨a, xs, es, c, pos, i, rfl, _⟩ := h
    rfl
  · obtain ⟨a, xs, es, c, pos, i, rfl, ha, rr, hE, h60, hc1, hc8, hp, k⟩ := h
    have hxl := rr.length
    rw [List.length_map] at hxl
    refine ⟨_, (pss_cons (ps_if (PW.pt (pw_or (pt_cmpR op_ge (pv 2) (pe_callB cl_len (by rfl) T.n_len PySem.boot_len (pa_cons (pv 0) pa_nil)) (nomark _)) (pw_or1 (pt_cmpR op_ge (pe_ix ix_tup (pe_ix ix_list (pv 0) (pv 2) (fun _ _ => rfl)) pe_int (fun _ _ => rfl)) (pv 3) (nomark _)))))
 (pss_one (ps_ret (pe_lst pa_nil)))
 pss_nil)
 (pss_cons (ps_setLc (i := 4) (own := [("_law_number", 5)]) (g := gName 5) (tt := tYes) rfl sc_law_slots_opened.nd rfl rfl (sw_true rfl rfl rfl (by decide +kernel)) (pi_range2 (by rfl) T.n_range (pa_cons (pe_op op_fdivU (pv 2) (pv 1)) (pa_cons (pe_op op_fdivU (pe_op op_sub (pe_op op_add (pe_callB (show CallR _ _ (Bw.rLen K) from cl_len) (by rfl) T.n_len PySem.boot_len (pa_cons (pv 0) pa_nil)) (pv 1)) pe_int) (pv 1)) pa_nil))) (blkOk_by (own := [("_law_number", 5)]) (N := ["_law_entries", "_law_wide", "_law_at", "_law_slot_here", "_law_some", "_law_number", "_law_first", "_law_last"]) (sc := defScope s_law_slots_opened) (by decide +kernel)) (fun _ _ _ _ _ => pg_name (i := 5) sc_law_slots_opened.nd rfl (Or.inl rfl)) (fun _ _ _ _ _ => pts_nil) (fun _ _ _ _ _ => (pe_tup (pa_cons (pv 5) (pa_cons (pe_ix (show IxR _ (rIxL K) from ix_list) (pv 0) (pe_op op_mulU (pv 5) (pv 1)) (fun _ _ => rfl)) (pa_cons (pe_ix (show IxR _ (rIxL K) from ix_list) (pe_slice (show SlR _ (rSlL K) from sl_list) (pv 0) (po_some (pe_op op_mulU (pv 5) (pv 1))) (po_some (pe_op op_add (pe_op op_mulU (pv 5) (pv 1)) (pv 1)))) (pe_un un_neg pe_int) (fun _ _ => rfl)) pa_nil))))))
 (pss_one (ps_ret (pe_lc (own := [("_law_number", 5), ("_law_first", 6), ("_law_last", 7)]) (g := gTup K 3 (gCons (gName 5) (gCons (gName 6) (gCons (gName 7) gNil)))) rfl sc_law_slots_opened.nd (show PI _ _ _ (iList K _) from (pi_list (pv 4))) (blkOk_by (own := [("_law_number", 5), ("_law_first", 6), ("_law_last", 7)]) (N := ["_law_entries", "_law_wide", "_law_at", "_law_slot_here", "_law_some", "_law_number", "_law_first", "_law_last"]) (sc := defScope s_law_slots_opened) (by decide +kernel)) (fun _ _ _ _ _ => (pg_tup rfl (pgs_cons (pg_name (i := 5) sc_law_slots_opened.nd rfl (.inl rfl)) (pgs_cons (pg_name (i := 6) sc_law_slots_opened.nd rfl (.inl rfl)) (pgs_cons (pg_name (i := 7) sc_law_slots_opened.nd rfl (.inl rfl)) pgs_nil))))) (fun _ _ _ _ _ => (pts_one (pt_chain op_lt op_le (pe_ix (show IxR _ (rIxT K) from ix_tup) (pv 6) pe_int (fun _ _ => rfl)) (pv 3) (pe_ix (show IxR _ (rIxT K) from ix_tup) (pv 7) pe_int (fun _ _ => rfl))))) (fun _ _ _ _ _ => (pv 5))))))), ?_⟩
    wtm_at "w0"
    wtm_at "wp"
    rw [hxl]
    refine w_dec (fun q => ?_) (fun q => ?_)
    · wtm_at "wp"
      rename_i l1 n1 H1 s1 h1
      have eo : seekO c es pos i = none := seekO_none (seek_done (by omega)) (fun z => by omega)
      refine k l1 H1 n1 s1 ?_
      rw [eo]
      exact h1
    · have hlt : pos < es.length := by omega
      obtain ⟨x, hx⟩ : ∃ x, xs[pos]? = some x := ⟨_, List.getElem?_eq_getElem (by omega)⟩
      obtain ⟨xa, xb, en, hen, rfl, hxa, hxb⟩ := ents_at rr hx
      wtm_at "wp"
      refine w_ixL (.of ha) (atI_nat hx) ?_
      wtm_at "wp"
      refine w_dec (fun q2 => ?_) (fun q2 => ?_)
      · wtm_at "wp"
        rename_i l1 n1 H1 s1 h1
        have es0 : seekP es pos i = pos := seek_is (Nat.le_refl _) hp (fun j h1 h2 => by omega) (fun e he => by rw [hen] at he; cases he; omega)
        have eo : seekO c es pos i = none := seekO_none es0 (fun z => by omega)
        refine k l1 H1 n1 s1 ?_
        rw [eo]
        exact h1
      · have hi : (en.1 : Int) < i := by omega
        have eo := opened_eq hE hc1 hlt hen hi
        have fm : ∀ (Hx : Hp) (m : Int) (Q' : VK), Q' (.int (m.fdiv (c : Int))) Hx → rI CDivU (fun i j => .int (i.fdiv j)) (.int m) (.int c) Hx Q' := fun Hx m Q' h => w_I (fdivC hc1 hc8) h
        wtm_at "wp"
        all_goals first | exact fdivC hc1 hc8 | skip
        have el : ((xs.length : Nat) : Int) + (c : Int) - 1 = ((es.length + c - 1 : Nat) : Int) := by omega
        rw [el, fdiv_nat hc1, fdiv_nat hc1]
        have hcu : (es.length + c - 1) / c = cuts es.length c := rfl
        rw [hcu]
        have hcl : cuts es.length c ≤ 60 := by
          rw [← cutE_len]
          exact Nat.le_trans (cut_le hc1) h60
        have hsm : pos / c ≤ cuts es.length c := Nat.le_of_lt (cuts_of hc1 hlt)
        generalize hs : pos / c = s0 at *
        generalize hm : cuts es.length c = m0 at *
        have en1 : (((m0 : Nat) : Int) - ((s0 : Nat) : Int)).toNat = m0 - s0 := by omega
        refine ⟨_, _, rfl, ⟨by omega, by omega, by omega, by omega⟩, ?_⟩
        rw [en1]
        have hat : ∀ j, j < m0 - s0 → (List.range' s0 (m0 - s0))[j]? = some (s0 + j) := fun j hj => by
          rw [List.getElem?_range' hj, Nat.one_mul]
        refine lc_fin (n := m0 - s0) fin_rng (fun j acc H' => Same H H' ∧ RpAll H' acc (((List.range' s0 (m0 - s0)).take j).map (opD c es))) (fun D H1 nD s1 hD => ⟨s1, .nil⟩) (fun _ _ _ _ _ => trivial) ?_ ?_
        · rintro D j v acc H1 H1' nD hj hac ⟨s1, r1⟩ hD ⟨rfl, rfl⟩
          have hk : (s0 + j) * c < es.length := cuts_lt hc1 (by rw [hm]; omega)
          have ha1 := s1 _ _ ha
          have rr1 := rr.same s1
          obtain ⟨y0, hy0⟩ : ∃ y, xs[(s0 + j) * c]? = some y := ⟨_, List.getElem?_eq_getElem (by omega)⟩
          have hj60 : s0 + j < 60 := by omega
          have eI : ((s0 : Nat) : Int) + (j : Int) = ((s0 + j : Nat) : Int) := by omega
          rw [eI]
          have emul : ((s0 + j : Nat) : Int) * (c : Int) = (((s0 + j) * c : Nat) : Int) := by rw [Int.natCast_mul]
          have hmu : CMulU ((s0 + j : Nat) : Int) (c : Int) := mulL (by omega)
          wtm_at "wp"
          refine ⟨rfl, ?_⟩
          wtm_at "wp"
          all_goals first | exact hmu | skip
          rw [emul]
          refine w_ixL (.of ha1) (atI_nat hy0) ?_
          wtm_at "wp"
          all_goals first | exact hmu | skip
          rename_i p2 H2 n2 s2 h2
          rw [emul, cutV_pc] at h2
          have rr2 : RpAll H2 ((xs.drop ((s0 + j) * c)).take c) (((es.drop ((s0 + j) * c)).take c).map eD) := by
            rw [List.map_take, List.map_drop]
            exact ((rr1.same s2).drop _).take _
          have hzl : ((xs.drop ((s0 + j) * c)).take c).length = min c (es.length - (s0 + j) * c) := by
            rw [List.length_take, List.length_drop, hxl]
          obtain ⟨yn, hyn⟩ : ∃ y, ((xs.drop ((s0 + j) * c)).take c)[((xs.drop ((s0 + j) * c)).take c).length - 1]? = some y := ⟨_, List.getElem?_eq_getElem (by omega)⟩
          have hyx : xs[min ((s0 + j) * c + c) es.length - 1]? = some yn := by
            rw [hzl, List.getElem?_take, if_pos (by omega), List.getElem?_drop] at hyn
            rw [← hyn]
            congr 1
            omega
          refine w_ixL (.of h2) (atI_lst hyn) ?_
          obtain ⟨d0, g01, g02⟩ := (rr1.same s2).at hy0
          obtain ⟨dn, gn1, gn2⟩ := (rr1.same s2).at hyx
          rw [List.getElem?_map, getD_some hk] at g01
          rw [List.getElem?_map, getD_some (by omega)] at gn1
          cases g01
          cases gn1
          wtm_at "wp"
          rename_i t3 n3 H3 s3 h3
          have n3D : t3 ≠ D := (ne_of_none (s2 _ _ hD) n3).symm
          have hD3 := s3 _ _ (s2 _ _ hD)
          refine w_acc hD3 hac hj (sz (by omega)) (fun H4 k4 h4 => ⟨k4.same (s1.trans (s2.trans s3)) nD, ?_⟩)
          rw [take_succL (hat j hj), List.map_append]
          have tk := TupK.kb k4 hD3
          exact ((r1.same (s2.trans s3)).tupk tk (noLs_op _)).append (.cons (.tup (k4 _ _ h3 n3D) (.cons (.int _) (.cons ((g02.same s3).tupk tk (noL_eD _)) (.cons ((gn2.same s3).tupk tk (noL_eD _)) .nil)))) .nil)
        · rintro D acc H1 nD ⟨s1, r1⟩ hac hD
          have hr' : (List.range' s0 (m0 - s0)).length = m0 - s0 := List.length_range'
          have htk : (List.range' s0 (m0 - s0)).take (m0 - s0) = List.range' s0 (m0 - s0) := List.take_of_length_le (by rw [hr']; exact Nat.le_refl _)
          rw [htk] at r1
          have hal := r1.length
          rw [List.length_map, hr'] at hal
          wtm_at "wp"
          refine lc_fin (fin_list (xs := acc)) (fun j ac H' => Same H1 H' ∧ ac = (((List.range' s0 (m0 - s0)).take j).filter (opP c es i)).map nV) (fun D H2 nD s2 hD => ⟨s2, rfl⟩) (fun j ac H2 _ h => .of (h.1 _ _ hD)) ?_ ?_
          · rintro D2 j v ac H2 H2' nD2 hj hac2 ⟨s2, e2⟩ hD2 ⟨rfl, hv⟩
            obtain ⟨d, g1, g2⟩ := (r1.same s2).at hv
            rw [List.getElem?_map, hat j (by omega)] at g1
            cases g1
            obtain ⟨t, b1, b2, x1, x2, rfl, ht, hb1, hb2⟩ : ∃ t b1 b2 x1 x2, v = .ref t ∧ H2' t = some (.tup [nV (s0 + j), .ref b1, .ref b2]) ∧ H2' b1 = some (.tup [nV (fK c es (s0 + j)).1, x1]) ∧ H2' b2 = some (.tup [nV (lK c es (s0 + j)).1, x2]) := by
              cases g2 with
              | tup h r =>
                cases r with
                | cons r1 r =>
                  cases r1
                  cases r with
                  | cons r1 r =>
                    cases r with
                    | cons r2 r =>
                      cases r
                      cases r1 with
                      | tup h1 q1 =>
                        cases r2 with
                        | tup h2 q2 =>
                          cases q1 with
                          | cons a1 q1 =>
                            cases q1 with
                            | cons a2 q1 =>
                              cases q2 with
                              | cons b1 q2 =>
                                cases q2 with
                                | cons b2 q2 =>
                                  cases a1
                                  cases b1
                                  cases q1
                                  cases q2
                                  exact ⟨_, _, _, _, _, rfl, h, h1, h2⟩
            have est : ((List.range' s0 (m0 - s0)).take (j + 1)).filter (opP c es i) = ((List.range' s0 (m0 - s0)).take j).filter (opP c es i) ++ (if opP c es i (s0 + j) = true then [s0 + j] else []) := by
              rw [take_succL (hat j (by omega)), List.filter_append]
              congr 1
              by_cases hq : opP c es i (s0 + j) = true
              · rw [if_pos hq, List.filter_cons, if_pos hq]
                rfl
              · rw [if_neg hq, List.filter_cons, if_neg hq]
                rfl
            wtm_at "wp"
            refine ⟨rfl, ?_⟩
            wtm_at "wp"
            refine w_dec (fun q3 => ?_) (fun q3 => ?_)
            · wtm_at "wp"
              refine w_dec (fun q4 => ?_) (fun q4 => ?_)
              · wtm_at "wp"
                refine w_acc hD2 hac2 hj (sz (by omega)) (fun H3 k3 h3 => ⟨k3.same s2 nD2, ?_⟩)
                rw [e2, est, if_pos (by unfold opP; rw [decide_eq_true q3, decide_eq_true q4]; rfl), List.map_append]
                rfl
              · wtm_at "wp"
                refine w_skip hD2 hac2 ⟨s2, ?_⟩
                rw [e2, est, if_neg (by unfold opP; rw [decide_eq_false q4, Bool.and_false]; simp), List.append_nil]
            · wtm_at "wp"
              refine w_skip hD2 hac2 ⟨s2, ?_⟩
              rw [e2, est, if_neg (by unfold opP; rw [decide_eq_false q3, Bool.false_and]; simp), List.append_nil]
          · rintro D2 ac H2 nD2 ⟨s2, e2⟩ hac2 hD2
            rw [hal, htk, eo] at e2
            subst e2
            exact k D2 H2 (same_free s1 nD2) (s1.trans s2) hD2

end
end K16

namespace K16
section
variable {P : Program} {w : World} {K : PySem.W.Frag} {mg : Str → Option Value} {base : Heap} {Z : Zs} {C_CodeReader C_Block C_Row C_Walker : Addr}
abbrev s_law_whole : Stmt := topS 58
theorem sc_law_whole : FnScope ["_law_thing"] ["_law_thing"] (defScope s_law_whole) := ⟨rfl, rfl, rfl, by decide +kernel, rfl, by decide +kernel, by decide +kernel⟩
abbrev s_law_aims : Stmt := topS 66
theorem sc_law_aims : FnScope ["_law_pool_here", "_law_entries", "_law_some", "_law_entry", "_law_told", "_law_odd", "_law_k"] ["_law_pool_here", "_law_entries"] (defScope s_law_aims) := ⟨rfl, rfl, rfl, by decide +kernel, rfl, by decide +kernel, by decide +kernel⟩
theorem ok_lwhole {f : Addr} {fd : FuncData} (F : Fun K "_law_whole" "_law_whole" s_law_whole f fd) (T : Txt K mg Z C_CodeReader C_Block C_Row C_Walker) : FnOk P w K mg base CX0 1 f fd ["_law_thing"] spWhole := by
  refine F.ok sc_law_whole (fun vs H Q E h => ?_) (fun cdv A outer s H vs Q E hr h => ?_)
  · obtain ⟨v, rfl, _⟩ := h
    rfl
  · obtain ⟨v, rfl, hv, k⟩ := h
    refine ⟨_, (pss_one (ps_ret (pe_and (pe_callB call_isi (by rfl) T.n_isinstance PyProof.Rows.boot_isinstance (pa_cons (pv 0) (pa_cons (pe_bltn (v := .ty "int") (by rfl) T.n_int PyProof.Rows.boot_int rfl) pa_nil))) (pe_one (pe_not (pe_callB call_isi (by rfl) T.n_isinstance PyProof.Rows.boot_isinstance (pa_cons (pv 0) (pa_cons (pe_bltn (v := .ty "bool") (by rfl) T.n_bool PyProof.Rows.boot_bool rfl) pa_nil)))))))), ?_⟩
    wtm_at "w0"
    cases hv <;> (wtm_at "wp"; exact k)
/-- the odd thing among the aims -/
inductive OddA (H : Hp) : V → PyData → Prop
  | bl (b : Bool) : OddA H (.bl b) (.bool b)
  | non : OddA H .non .none
  | str : OddA H (.str "1") (.str "1")
  | tup {t : Addr} : H t = some (.tup [.int 1]) → OddA H (.ref t) (.tuple [.int 1])
  | lst {t : Addr} : H t = some (.lst [.int 1]) → OddA H (.ref t) (.list [.int 1])
theorem OddA.thg {H : Hp} {v : V} {d : PyData} (h : OddA H v d) : Thg H v ∧ isInt v = false ∧ Rp H v d ∧ GoodD d 2 := by
  cases h with
  | bl b => exact ⟨.bl b, rfl, .bl b, good_bool⟩
  | non => exact ⟨.non, rfl, .non, good_none⟩
  | str => exact ⟨.str _, rfl, .str _, good_str (by decide +kernel)⟩
  | tup h => exact ⟨.tup h, rfl, .tup h (.cons (.int _) .nil), (good_tuple (n := 0) fun d hd => by rw [List.mem_singleton.mp hd]; exact good_int).mono (by decide)⟩
  | lst h => exact ⟨.lst h, rfl, .lst h (.cons (.int _) .nil), (good_list (n := 0) fun d hd => by rw [List.mem_singleton.mp hd]; exact good_int).mono (by decide)⟩
theorem OddA.mono {H H' : Hp} {v : V} {d : PyData} (h : OddA H v d) (k : ∀ a o, H a = some o → (o = .tup [.int 1] ∨ o = .lst [.int 1]) → H' a = some o) : OddA H' v d := by
  cases h with
  | bl b => exact .bl b
  | non => exact .non
  | str => exact .str
  | tup h => exact .tup (k _ _ h (.inl rfl))
  | lst h => exact .lst (k _ _ h (.inr rfl))
/-- the rest of the aims from the odd thing on -/
def BadA (H : Hp) (bad : List V) (bd : List PyData) : Prop := (bad = [] ∧ bd = []) ∨ ∃ (y : V) (d : PyData) (js : List Int), bad = y :: js.map V.int ∧ bd = d :: js.map PyData.int ∧ OddA H y d
theorem BadA.mono {H H' : Hp} {bad : List V} {bd : List PyData} (h : BadA H bad bd) (k : ∀ a o, H a = some o → (o = .tup [.int 1] ∨ o = .lst [.int 1]) → H' a = some o) : BadA H' bad bd := h.imp id fun ⟨y, d, js, e1, e2, e3⟩ => ⟨y, d, js, e1, e2, e3.mono k⟩
def spAims : Sp := fun vs H Q _ => ∃ (p a : Addr) (n : Nat) (xs : List V) (es : List Etr), vs = [.ref p, .ref a] ∧ Pool H p n ∧ n ≤ 10 ^ 6 ∧ a ≠ p ∧ H a = some (.lst xs) ∧ RpAll H xs (es.map eD) ∧ es.length ≤ 60 ∧
  ∀ (q : Addr) (H' : Hp) (is : List Int) (bad : List V) (bd : List PyData), H q = none → KB p H H' → Pool H' p (n + 11) → H' q = some (.lst (is.map V.int ++ bad)) → is.length + bad.length ≤ 8 → BadA H' bad bd → Q (.ref q) H'
theorem cutV_to6 (xs : List V) : cutV xs none (some 6) = xs.take 6 := by
  have e : HT.sIx xs.length xs.length (some ((6 : Nat) : Int)) = min 6 xs.length := HT.sIx_nat _ _ 6
  show cutV xs none (some ((6 : Nat) : Int)) = _
  unfold cutV
  rw [e, HT.sIx_none, Nat.sub_zero, List.drop_zero]
  exact (List.take_eq_take_min ..).symm
theorem ok_aims {f : Addr} {fd : FuncData} (F : Fun K "_law_aims" "_law_aims" s_law_aims f fd) (T : Txt K mg Z C_CodeReader C_Block C_Row C_Walker) (f__law_take : Fn P w K mg base "_law_take" 1 ["_law_pool_here", "_law_many"] spTake) : FnOk P w K mg base CX0 2 f fd ["_law_pool_here", "_law_entries"] spAims := by
  refine F.ok sc_law_aims (fun vs H Q E h => ?_) (fun cdv A outer s H vs Q E hr h => ?_)
  · obtain ⟨p, a, n, xs, es, rfl, _⟩ := h
    rfl
  · obtain ⟨p, a, n, xs, es, rfl, hp, hn, nap, ha, rr, h60, k⟩ := h
    refine ⟨_, (pss_cons (ps_set (i := 2) sc_law_aims.nd rfl (.inr rfl) (pe_lst (pa_cons pe_int (pa_cons pe_int (pa_cons pe_int pa_nil)))))
 (pss_cons (ps_for PassesOwn.never rfl (pi_list (pe_slice sl_list (pv 1) po_none (po_some pe_int))) (pg_name (i := 3) sc_law_aims.nd rfl (.inl rfl))
 (pss_one (ps_set (i := 2) sc_law_aims.nd rfl (.inr rfl) (pe_op op_cat (pv 2) (pe_lst (pa_cons (pe_ix ix_tup (pv 3) pe_int (fun _ _ => rfl)) (pa_cons (pe_op op_add (pe_ix ix_tup (pv 3) pe_int (fun _ _ => rfl)) pe_int) pa_nil)))))))
 (pss_cons (ps_setLc (i := 4) (own := [("_law_k", 6)]) (g := gName 6) (tt := tYes) rfl sc_law_aims.nd rfl rfl (sw_true rfl rfl rfl (by decide +kernel)) (pi_range1 (by rfl) T.n_range (pa_cons (pe_fn f__law_take (hr.mono (by omega)) rfl (pa_cons (pv 0) (pa_cons pe_int pa_nil))) pa_nil)) (blkOk_by (own := [("_law_k", 6)]) (N := ["_law_pool_here", "_law_entries", "_law_some", "_law_entry", "_law_told", "_law_odd", "_law_k"]) (sc := defScope s_law_aims) (by decide +kernel)) (fun _ _ _ _ _ => pg_name (i := 6) sc_law_aims.nd rfl (Or.inl rfl)) (fun _ _ _ _ _ => pts_nil) (fun _ _ _ _ _ => (pe_ix (show IxR _ (rIxL K) from ix_list) (pv 2) (pe_fn f__law_take (hr.mono (by omega)) rfl (pa_cons (pv 0) (pa_cons (pe_callB (show CallR _ _ (Bw.rLen K) from cl_len) (by rfl) T.n_len PySem.boot_len (pa_cons (pv 2) pa_nil)) pa_nil))) (fun _ _ => rfl))))
 (pss_cons (ps_if (pt_cmpR op_eq (pe_fn f__law_take (hr.mono (by omega)) rfl (pa_cons (pv 0) (pa_cons pe_int pa_nil))) pe_int (nomark _))
 (pss_cons (ps_set (i := 5) sc_law_aims.nd rfl (.inl rfl) (pe_ix ix_list (pe_lst (pa_cons pe_bl (pa_cons pe_non (pa_cons pe_str (pa_cons (pe_tup (pa_cons pe_int pa_nil)) (pa_cons (pe_lst (pa_cons pe_int pa_nil)) (pa_cons pe_bl pa_nil))))))) (pe_fn f__law_take (hr.mono (by omega)) rfl (pa_cons (pv 0) (pa_cons pe_int pa_nil))) (fun _ _ => rfl)))
 (pss_one (ps_expr (pe_bm PySem.F.plainAttrs_list PySem.F.slot_list_insert PySem.F.type_list_insert mt_insertN (pv 4) (pa_cons (pe_fn f__law_take (hr.mono (by omega)) rfl (pa_cons (pv 0) (pa_cons (pe_op op_add (pe_callB cl_len (by rfl) T.n_len PySem.boot_len (pa_cons (pv 4) pa_nil)) pe_int) pa_nil))) (pa_cons (pv 5) pa_nil))))))
 pss_nil)
 (pss_one (ps_ret (pv 4))))))), ?_⟩
    wtm_at "w0"
    wtm_at "wp"
    rename_i s1a n1 H1 s1 h1 c2a H2 n2 s2 h2
    rw [cutV_to6] at h2
    have S2 := s1.trans s2
    refine for_fin (fin_list (xs := xs.take 6)) (fun j σ H' => ∃ (sa : Addr) (is : List Int) (v3 v4 v5 v6 : Option V), σ = [some (.ref p), some (.ref a), some (.ref sa), v3, v4, v5, v6] ∧ Same H H' ∧ H' c2a = some (.lst (xs.take 6)) ∧ H' sa = some (.lst (is.map V.int)) ∧ H sa = none ∧ 1 ≤ is.length ∧ is.length ≤ 3 + 2 * j) ⟨s1a, [0, 3, 60], _, _, _, _, rfl, S2, h2, s2 _ _ h1, n1, by decide, by decide⟩ (fun j σ H' _ h => by obtain ⟨_, _, _, _, _, _, _, _, h, _⟩ := h; exact .of h) ?_ ?_
    · rintro j z σ H3 H3' hj ⟨sa, is, v3, v4, v5, v6, rfl, s3, hc3, hs3, ns3, l1, l3⟩ ⟨rfl, hz⟩
      have hj6 : j < 6 := by
        rw [List.length_take] at hj
        omega
      have hz' : xs[j]? = some z := by
        rw [List.getElem?_take] at hz
        rw [if_pos hj6] at hz
        exact hz
      obtain ⟨xa, xb, en, hen, rfl, hxa, hxb⟩ := ents_at (rr.same s3) hz'
      wtm_at "wp"
      rename_i pN nN H4 s4 h4
      refine w_cat (s4 _ _ hs3) h4 (sz (by simp; omega)) (fun pC H5 nC s5 h5 => ?_)
      have S5 := s3.trans (s4.trans s5)
      refine ⟨pC, is ++ [(en.1 : Int), (en.1 : Int) + 1], _, _, _, _, rfl, S5, s5 _ _ (s4 _ _ hc3), by rw [List.map_append]; exact h5, same_free (s3.trans s4) nC, by simp, by simp; omega⟩
    · rintro σ H3 ⟨sa, is, v3, v4, v5, v6, rfl, s3, hc3, hs3, ns3, l1, l3⟩
      have l15 : is.length ≤ 15 := by
        rw [List.length_take] at l3
        omega
      wtm_at "wp"
      refine ⟨p, 7, _, rfl, hp.mono s3 (Nat.le_refl _), by omega, by decide, by decide, fun d4 H4 d40 d41 k4 p4 => ?_⟩
      have npS : sa ≠ p := fun z => by
        obtain ⟨_, hq⟩ := hp.at
        rw [← z, ns3] at hq
        cases hq
      obtain ⟨m4, rfl⟩ := Int.eq_ofNat_of_zero_le d40
      wtm_at "wp"
      refine ⟨_, rfl, by omega, by omega, ?_⟩
      refine lc_fin (n := ((m4 : Nat) : Int).toNat) fin_rng (fun i acc H' => KB p H4 H' ∧ Pool H' p (n + 1 + i) ∧ ∃ js : List Int, acc = js.map V.int ∧ js.length = i) (fun D H5 nD s5 hD => ⟨KB.of s5, p4.mono s5 (Nat.le_refl _), [], rfl, rfl⟩) (fun _ _ _ _ _ => trivial) ?_ ?_
      · rintro D i v acc H5 H6 nD hi hac ⟨k5, p5, js, rfl, hl5⟩ hD ⟨rfl, rfl⟩
        have hi6 : i < m4 := by simpa using hi
        have nDp : D ≠ p := by
          obtain ⟨_, hq⟩ := p4.at
          exact (ne_of_none hq nD).symm
        have hs5 := k5 _ _ (k4 _ _ hs3 npS) npS
        wtm_at "wp"
        refine ⟨rfl, ?_⟩
        wtm_at "wp"
        rw [List.length_map]
        refine ⟨p, _, _, rfl, p5, by omega, by omega, Int.le_trans (Int.ofNat_le.mpr l15) (by decide), fun d6 H7 d60 d61 k6 p6 => ?_⟩
        obtain ⟨m6, rfl⟩ := Int.eq_ofNat_of_zero_le d60
        obtain ⟨x6, hx6⟩ : ∃ x6, is[m6]? = some x6 := ⟨_, List.getElem?_eq_getElem (by omega)⟩
        refine w_ixL (v := .int x6) (.of (k6 _ _ hs5 npS)) (atI_nat (by rw [List.getElem?_map, hx6]; rfl)) ?_
        refine w_acc (k6 _ _ hD nDp) hac hi (sz (by omega)) (fun H8 k8 h8 => ⟨kb2 (k5.trans k6) k8 nD, p6.kb k8 nDp.symm, js ++ [x6], by simp, by simp [hl5]⟩)
      · rintro D acc H5 nD ⟨k5, p5, js, rfl, hjl⟩ hac hD
        wtm_at "wp"
        have hm6 : m4 ≤ 6 := by omega
        have hjl' : js.length = m4 := by simpa using hjl
        have nDp : D ≠ p := by
          obtain ⟨_, hq⟩ := p4.at
          exact (ne_of_none hq nD).symm
        have nDH : H D = none := by
          cases hq : H D with
          | none => rfl
          | some o =>
            rw [k4 _ _ (s3 _ _ hq) nDp] at nD
            cases nD
        have K5 := (KB.of s3).trans (k4.trans k5)
        refine ⟨p, 2, _, rfl, p5, by omega, by decide, by decide, fun d6 H6 d60 d61 k6 p6 => ?_⟩
        have hD6 := k6 _ _ hD nDp
        wtm_at "wp"
        refine w_dec (fun q => ?_) (fun q => ?_)
        · wtm_at "wp"
          rename_i t1 nt1 H7 s7 h7 t2 nt2 H8 s8 h8 tL ntL H9 s9 h9
          have S9 := s7.trans (s8.trans s9)
          have p9 := p6.mono S9 (Nat.le_refl _)
          refine ⟨p, 6, _, rfl, p9, by omega, by decide, by decide, fun d10 H10 d100 d101 k10 p10 => ?_⟩
          have npx : ∀ {z : Addr} {G : Hp}, Same H6 G → G z = none → z ≠ p := fun sg nz => by
            obtain ⟨_, hq⟩ := p6.at
            exact (ne_of_none (sg _ _ hq) nz).symm
          have f1 := k10 _ _ (s9 _ _ (s8 _ _ h7)) (npx (.refl _) nt1)
          have f2 := k10 _ _ (s9 _ _ h8) (npx s7 nt2)
          have fL := k10 _ _ h9 (npx (s7.trans s8) ntL)
          have fD := k10 _ _ (S9 _ _ hD6) nDp
          have odd : ∃ v d, atI [V.bl true, V.non, V.str "1", V.ref t1, V.ref t2, V.bl false] d10 = some v ∧ OddA H10 v d ∧ ∀ t, v = .ref t → t ≠ D := by
            have hd : d10 = 0 ∨ d10 = 1 ∨ d10 = 2 ∨ d10 = 3 ∨ d10 = 4 ∨ d10 = 5 := by omega
            rcases hd with rfl | rfl | rfl | rfl | rfl | rfl
            · exact ⟨_, _, rfl, .bl _, fun t z => by cases z⟩
            · exact ⟨_, _, rfl, .non, fun t z => by cases z⟩
            · exact ⟨_, _, rfl, .str, fun t z => by cases z⟩
            · exact ⟨_, _, rfl, .tup f1, fun t z => by cases z; exact (ne_of_none hD6 nt1).symm⟩
            · exact ⟨_, _, rfl, .lst f2, fun t z => by cases z; exact (ne_of_none (s7 _ _ hD6) nt2).symm⟩
            · exact ⟨_, _, rfl, .bl _, fun t z => by cases z⟩
          obtain ⟨y, dy, hat, hy, hyD⟩ := odd
          refine w_ixL (.of fL) hat ?_
          wtm_at "wp"
          rw [List.length_map]
          refine ⟨p, _, _, rfl, p10, by omega, by omega, by omega, fun d11 H11 d110 d111 k11 p11 => ?_⟩
          have fD11 := k11 _ _ fD nDp
          have hy11 : OddA H11 y dy := hy.mono (fun c o hc ho => k11 _ _ hc (fun z => by
            obtain ⟨_, _, _, hq, _⟩ := p10
            rw [z, hq] at hc
            rcases ho with rfl | rfl <;> cases hc))
          wtm_at "wp"
          refine w_insert fD11 (by rw [List.length_map]; omega) d110 (by omega) (fun H12 k12 h12 => ?_)
          wtm_at "wp"
          have n1D : ∀ {c o}, H6 c = none → H11 c = some o → c ≠ D := fun hn _ z => by
            rw [z, hD6] at hn
            cases hn
          have hy12 : OddA H12 y dy := by
            cases hy11 with
            | bl b => exact .bl b
            | non => exact .non
            | str => exact .str
            | tup h => exact .tup (k12 _ _ h (fun z => by rw [z, fD11] at h; cases h))
            | lst h =>
              exact .lst (k12 _ _ h (hyD _ rfl))
          have e12 : (js.map V.int).take d11.toNat ++ [y] ++ (js.map V.int).drop d11.toNat = (js.take d11.toNat).map V.int ++ (y :: (js.drop d11.toNat).map V.int) := by
            rw [List.map_take, List.map_drop]
            simp
          rw [e12] at h12
          refine k D H12 _ _ _ nDH (kb2 (K5.trans (k6.trans ((KB.of S9).trans (k10.trans k11)))) k12 nDH) ((p11.kb k12 nDp.symm).mono (.refl _) (by omega)) h12 (by simp; omega) (.inr ⟨y, dy, _, rfl, rfl, hy12⟩)
        · wtm_at "wp"
          exact k D H6 js [] [] nDH (K5.trans k6) (p6.mono (.refl _) (by omega)) (by rw [List.append_nil]; exact hD6) (by simp; omega) (.inl ⟨rfl, rfl⟩)

end
end K16

namespace K16
section
variable {P : Program} {w : World} {K : PySem.W.Frag} {mg : Str → Option Value} {base : Heap} {Z : Zs} {C_CodeReader C_Block C_Row C_Walker : Addr}
abbrev s_law_glanced : Stmt := topS 67
theorem sc_law_glanced : FnScope ["_law_entries", "_law_wide", "_law_at", "_law_aims_here", "_law_book", "_law_told", "_law_place", "_law_aim", "_law_number"] ["_law_entries", "_law_wide", "_law_at", "_law_aims_here", "_law_book"] (defScope s_law_glanced) := ⟨rfl, rfl, rfl, by decide +kernel, rfl, by decide +kernel, by decide +kernel⟩
def bkE (k : Nat) : Key × V := (kI k, .bl true)
theorem valV_bk (ks : List Nat) (k : Nat) : valV (ks.map bkE) (kI k) = if k ∈ ks then some (.bl true) else none := by
  induction ks with
  | nil => rfl
  | cons j r ih =>
    rw [List.map_cons]
    by_cases h : j = k
    · subst h
      rw [valV_pos (p := bkE j) (show (bkE j).1 = kI j from rfl), if_pos List.mem_cons_self]
      rfl
    · have hne : ¬ (bkE j).1 = kI k := fun z => h (by
        have e2 : ((j : Nat) : Int) = (k : Int) := Sum.inl.inj z
        exact Int.ofNat.inj e2)
      rw [valV_neg hne, ih]
      have : (k ∈ j :: r) ↔ k ∈ r := ⟨fun z => by
        rcases List.mem_cons.mp z with z | z
        · exact absurd z.symm h
        · exact z, fun z => List.mem_cons_of_mem _ z⟩
      by_cases hk : k ∈ r
      · rw [if_pos hk, if_pos (this.mpr hk)]
      · rw [if_neg hk, if_neg (fun z => hk (this.mp z))]
theorem putK_bk {ks : List Nat} {k : Nat} : putK (ks.map bkE) (kI k) (.bl true) = (addK ks k).map bkE := by
  have hv := valV_bk ks k
  unfold addK
  by_cases h : k ∈ ks
  · rw [if_pos h]
    unfold putK
    rw [valV_any, hv, if_pos h]
    rw [if_pos (show (some (V.bl true)).isSome = true from rfl), List.map_map]
    apply List.map_congr_left
    intro j _
    show (if (bkE j).1 = kI k then ((bkE j).1, V.bl true) else bkE j) = bkE j
    split <;> rfl
  · rw [if_neg h]
    rw [if_neg h] at hv
    rw [putK_new _ hv, List.map_append]
    rfl
/-- what is told of aims -/
def spGlc : Sp := fun vs H Q _ => ∃ (a q bk : Addr) (xs : List V) (es : List Etr) (c pos : Nat) (ks : List Nat) (is : List Int) (bad : List V) (bd : List PyData), vs = [.ref a, .int c, .int pos, .ref q, .ref bk] ∧ H a = some (.lst xs) ∧ RpAll H xs (es.map eD) ∧ EntOk 0 es ∧ es.length ≤ 60 ∧ 1 ≤ c ∧ c ≤ 8 ∧ pos ≤ es.length ∧ H q = some (.lst (is.map V.int ++ bad)) ∧ is.length + bad.length ≤ 8 ∧ BadA H bad bd ∧ H bk = some (.dK (ks.map bkE)) ∧ ks.length ≤ 60 ∧
  ∀ (t tl : Addr) (H' : Hp), H tl = none → KB bk H H' → H' bk = some (.dK ((glK c es pos ks is).map bkE)) → H' t = some (.tup [.ref tl, if bad = [] then .non else .int is.length]) → H' tl = some (.lst (glV es pos is)) → Q (.ref t) H'
theorem addO_len (ks : List Nat) (o : Option Nat) : (addO ks o).length ≤ ks.length + 1 := by
  cases o with
  | none => exact Nat.le_succ _
  | some k =>
    show (addK ks k).length ≤ _
    unfold addK
    split
    · exact Nat.le_succ _
    · simp
theorem glK_len (c : Nat) (es : List Etr) : ∀ (is : List Int) (p : Nat) (ks : List Nat), (glK c es p ks is).length ≤ ks.length + is.length
  | [], _, _ => Nat.le_refl _
  | i :: r, p, ks => by
    show (glK c es (seekP es p i) (addO ks (seekO c es p i)) r).length ≤ _
    have h1 := glK_len c es r (seekP es p i) (addO ks (seekO c es p i))
    have h2 := addO_len ks (seekO c es p i)
    rw [List.length_cons]
    omega
theorem glE_le (es : List Etr) : ∀ (is : List Int) (p : Nat), p ≤ es.length → glE es p is ≤ es.length
  | [], _, h => h
  | i :: r, p, h => glE_le es r _ (seek_of h).2.1
theorem ok_glc {f : Addr} {fd : FuncData} (F : Fun K "_law_glanced" "_law_glanced" s_law_glanced f fd) (T : Txt K mg Z C_CodeReader C_Block C_Row C_Walker) (f__law_whole : Fn P w K mg base "_law_whole" 1 ["_law_thing"] spWhole) (f__law_slots_opened : Fn P w K mg base "_law_slots_opened" 1 ["_law_entries", "_law_wide", "_law_at", "_law_slot_here"] spOpens) (f__law_seek : Fn P w K mg base "_law_seek" 1 ["_law_entries", "_law_at", "_law_slot_here"] spLSeek) (f__law_slot : Fn P w K mg base "_law_slot" 1 ["_law_entries", "_law_at"] spLSlot) : FnOk P w K mg base CX0 2 f fd ["_law_entries", "_law_wide", "_law_at", "_law_aims_here", "_law_book"] spGlc := by
  refine F.ok sc_law_glanced (fun vs H Q E h => ?_) (fun cdv A outer s H vs Q E hr h => ?_)
  · obtain ⟨a, q, bk, xs, es, c, pos, ks, is, bad, bd, rfl, _⟩ := h
    rfl
  · obtain ⟨a, q, bk, xs, es, c, pos, ks, is, bad, bd, rfl, ha, rr, hE, h60, hc1, hc8, hp, hq, hl8, hb, hbk, hk60, k⟩ := h
    refine ⟨_, (pss_cons (ps_set (i := 5) sc_law_glanced.nd rfl (.inl rfl) (pe_lst pa_nil))
 (pss_cons (ps_for PassesOwn.never rfl (pi_enum (by rfl) T.n_enumerate (pa_cons (pv 3) pa_nil)) (pg_tup rfl (pgs_cons (pg_name (i := 6) sc_law_glanced.nd rfl (.inl rfl)) (pgs_cons (pg_name (i := 7) sc_law_glanced.nd rfl (.inl rfl)) pgs_nil)))
 (pss_cons (ps_if (pt_not (pt_val (pe_fn f__law_whole (hr.mono (by omega)) rfl (pa_cons (pv 7) pa_nil))))
 (pss_one (ps_ret (pe_tup (pa_cons (pv 5) (pa_cons (pv 6) pa_nil)))))
 pss_nil)
 (pss_cons (ps_for PassesOwn.never rfl (pi_list (pe_fn f__law_slots_opened (hr.mono (by omega)) rfl (pa_cons (pv 0) (pa_cons (pv 1) (pa_cons (pv 2) (pa_cons (pv 7) pa_nil)))))) (pg_name (i := 8) sc_law_glanced.nd rfl (.inl rfl))
 (pss_one (ps_dput (u1_of hr) (pv 4) (pv 8) pe_bl rfl)))
 (pss_cons (ps_set (i := 2) sc_law_glanced.nd rfl (.inl rfl) (pe_fn f__law_seek (hr.mono (by omega)) rfl (pa_cons (pv 0) (pa_cons (pv 2) (pa_cons (pv 7) pa_nil)))))
 (pss_one (ps_expr (pe_bm PySem.F.plainAttrs_list PySem.F.slot_list_append PySem.F.type_list_append mt_append (pv 5) (pa_cons (pe_fn f__law_slot (hr.mono (by omega)) rfl (pa_cons (pv 0) (pa_cons (pv 2) pa_nil))) pa_nil))))))))
 (pss_one (ps_ret (pe_tup (pa_cons (pv 5) (pa_cons pe_non pa_nil))))))), ?_⟩
    wtm_at "w0"
    wtm_at "wp"
    rename_i tl ntl H1 s1 h1
    have nbt : tl ≠ bk := (ne_of_none hbk ntl).symm
    have off : ∀ {H' x ys}, KB bk H H' → H x = some (.lst ys) → H' x = some (.lst ys) := fun kk hx => kk _ _ hx (fun z => by rw [z, hbk] at hx; cases hx)
    refine for_fin (fin_enum (xs := is.map V.int ++ bad)) (fun j σ H' => j ≤ is.length ∧ ∃ v6 v7 v8 : Option V, σ = [some (.ref a), some (.int c), some (.int (glE es pos (is.take j) : Nat)), some (.ref q), some (.ref bk), some (.ref tl), v6, v7, v8] ∧ KB bk H H' ∧ H' bk = some (.dK ((glK c es pos ks (is.take j)).map bkE)) ∧ H' tl = some (.lst (glV es pos (is.take j)))) ⟨Nat.zero_le _, _, _, _, rfl, KB.of s1, s1 _ _ hbk, h1⟩ (fun j σ H' _ h => by obtain ⟨_, _, _, _, _, h, _⟩ := h; exact .of (off h hq)) ?_ ?_
    · rintro j z σ H3 H4 hj ⟨hji, v6, v7, v8, rfl, k3, b3, l3⟩ ⟨t, y, rfl, nt, st, ht, hy⟩
      have k4 := k3.trans (KB.of st)
      have b4 := st _ _ b3
      have l4 := st _ _ l3
      have ha4 := off k4 ha
      have rr4 := rr.tupk (fun _ _ hx => k4 _ _ hx (fun z => by rw [z, hbk] at hx; cases hx)) (noLs_es es)
      have hgl := glE_le es (is.take j) pos hp
      rcases Nat.lt_or_ge j is.length with hlt | hge
      · rw [List.getElem?_append_left (by rw [List.length_map]; exact hlt), List.getElem?_map] at hy
        obtain ⟨i, hi, rfl⟩ := Option.map_eq_some_iff.mp hy
        wtm_at "wp"
        refine ⟨_, rfl, .int _, ?_⟩
        wtm_at "wp"
        refine ⟨a, xs, es, c, _, i, rfl, ha4, rr4, hE, h60, hc1, hc8, hgl, fun sl H5 n5 s5 h5 => ?_⟩
        obtain ⟨o, ho⟩ : ∃ o, seekO c es (glE es pos (is.take j)) i = o := ⟨_, rfl⟩
        rw [ho] at h5
        have nsb : sl ≠ bk := (ne_of_none b4 n5).symm
        have nst' : sl ≠ tl := (ne_of_none l4 n5).symm
        have hks : (glK c es pos ks (is.take j)).length ≤ 68 := by
          have := glK_len c es (is.take j) pos ks
          rw [List.length_take] at this
          omega
        generalize hK : glK c es pos ks (is.take j) = kk at *
        wtm_at "wp"
        refine for_fin (fin_list (xs := o.toList.map nV)) (fun m σ H' => ∃ v8 : Option V, σ = [some (.ref a), some (.int c), some (.int (glE es pos (is.take j) : Nat)), some (.ref q), some (.ref bk), some (.ref tl), some (.int j), some (.int i), v8] ∧ KB bk H5 H' ∧ H' bk = some (.dK ((if m = 0 then kk else addO kk o).map bkE))) ⟨_, rfl, KB.of (.refl _), s5 _ _ b4⟩ (fun m σ H' _ h => by
          obtain ⟨_, _, h, _⟩ := h
          exact .of (h _ _ h5 nsb)) ?_ ?_
        · rintro m z σ H6 H6' hm ⟨v8, rfl, k6, b6⟩ ⟨rfl, hz⟩
          cases o with
          | none => simp at hm
          | some w =>
            have em : m = 0 := by simpa using hm
            subst em
            rw [if_pos rfl] at b6
            cases hz
            wtm_at "wp"
            refine w_dput (n := w) b6 (by rw [List.length_map]; omega) (fun H7 k7 h7 => ?_)
            refine ⟨_, rfl, k6.trans k7, ?_⟩
            rw [h7, putK_bk]
            rfl
        · rintro σ H6 ⟨v8, rfl, k6, b6⟩
          have b6' : H6 bk = some (.dK ((addO kk o).map bkE)) := by
            rw [b6]
            cases o with
            | none => rfl
            | some w => rfl
          have k46 := (KB.of s5).trans k6
          have K6 := k4.trans k46
          have ha6 := off K6 ha
          have l6 := k46 _ _ l4 nbt
          have rr6 := rr.tupk (fun _ _ hx => K6 _ _ hx (fun z => by rw [z, hbk] at hx; cases hx)) (noLs_es es)
          wtm_at "wp"
          refine ⟨a, xs, es, _, i, rfl, ha6, rr6, hgl, ?_⟩
          wtm_at "wp"
          refine ⟨a, xs, es, _, rfl, ha6, rr6, h60, (seek_of hgl).2.1, fun H7 s7 => ?_⟩
          have l7 := s7 _ _ l6
          wtm_at "wp"
          refine w_append l7 (Nat.lt_of_le_of_lt (by rw [glV_len, List.length_take]; omega : _ ≤ 1001) (by decide)) (fun H8 k8 h8 => ?_)
          refine ⟨hlt, some (.int j), some (.int i), v8, ?_, kb2 (K6.trans (KB.of s7)) k8 ntl, ?_, ?_⟩
          · rw [take_succL hi, glE_snoc]
            rfl
          · rw [take_succL hi, glK_snoc, hK, ho]
            exact k8 _ _ (s7 _ _ b6') nbt.symm
          · rw [h8, take_succL hi, glV_snoc]
      · have ej : j = is.length := by omega
        subst ej
        rw [List.getElem?_append_right (by rw [List.length_map]; exact Nat.le_refl _), List.length_map, Nat.sub_self] at hy
        rcases hb with ⟨rfl, _⟩ | ⟨y', d', js, rfl, _, hod⟩
        · cases hy
        cases hy
        rw [List.take_length] at b4 l4
        have hy4 := (hod.mono (H' := H4) (fun c o hc ho => k4 _ _ hc (fun z => by
          rw [z, hbk] at hc
          rcases ho with rfl | rfl <;> cases hc))).thg
        wtm_at "wp"
        refine ⟨_, rfl, hy4.1, ?_⟩
        rw [hy4.2.1]
        wtm_at "wp"
        rename_i t9 n9 H9 s9 h9
        exact k t9 tl H9 ntl (k4.trans (KB.of s9)) (s9 _ _ b4) (by rw [if_neg (by simp)]; exact h9) (s9 _ _ l4)
    · rintro σ H3 ⟨hji, v6, v7, v8, rfl, k3, b3, l3⟩
      rcases hb with ⟨rfl, _⟩ | ⟨y', d', js, rfl, _, hod⟩
      rotate_left
      · simp at hji
        omega
      rw [List.append_nil, List.length_map, List.take_length] at b3 l3
      wtm_at "wp"
      rename_i t9 n9 H9 s9 h9
      exact k t9 tl H9 ntl (k3.trans (KB.of s9)) (s9 _ _ b3) (by rw [if_pos rfl]; exact h9) (s9 _ _ l3)

end
end K16

namespace K16
section
variable {P : Program} {w : World} {K : PySem.W.Frag} {mg : Str → Option Value} {base : Heap} {Z : Zs} {C_CodeReader C_Block C_Row C_Walker : Addr}
theorem grown_kbp {TT : List (Addr × Str)} {H H1 H2 : Hp} {p : Addr} {xs : List V} (g : Grown TT H H1) (n : H p = none) (k : KB p H1 H2) (hp : H1 p = some (.lst xs)) : Grown TT H H2 := ⟨fun b o h no => k b o (g.e b o h no) (ne_of_none h n), tabs_kb g.t hp k⟩
mutual
theorem Rp.extn {H H' : Hp} (e : LamX.ExtN H H') : ∀ {v : V} {d : PyData}, Rp H v d → Rp H' v d
  | _, _, .non => .non
  | _, _, .bl b => .bl b
  | _, _, .int i => .int i
  | _, _, .str x => .str x
  | _, _, .lst h r => .lst (e _ _ h (fun _ z => by cases z)) (RpAll.extn e r)
  | _, _, .tup h r => .tup (e _ _ h (fun _ z => by cases z)) (RpAll.extn e r)
theorem RpAll.extn {H H' : Hp} (e : LamX.ExtN H H') : ∀ {vs : List V} {ds : List PyData}, RpAll H vs ds → RpAll H' vs ds
  | _, _, .nil => .nil
  | _, _, .cons h r => .cons (Rp.extn e h) (RpAll.extn e r)
end

theorem glK_idem (c : Nat) (es : List Etr) : ∀ (is : List Int) (p : Nat) (ks K : List Nat), (∀ j, j ∈ glK c es p ks is → j ∈ K) → glK c es p K is = K
  | [], _, _, _, _ => rfl
  | i :: r, p, ks, K, h => by
    have h0 : ∀ j, j ∈ addO ks (seekO c es p i) → j ∈ K := fun j hj => h j (glK_sub c es r _ _ hj)
    have e : addO K (seekO c es p i) = K := by
      cases ho : seekO c es p i with
      | none => rfl
      | some k =>
        rw [ho] at h0
        exact addK_mem (h0 k mem_addK)
    show glK c es (seekP es p i) (addO K (seekO c es p i)) r = K
    rw [e]
    exact glK_idem c es r _ (addO ks (seekO c es p i)) K h
theorem glK_app (c : Nat) (es : List Etr) : ∀ (is js : List Int) (p : Nat) (ks : List Nat), glK c es p ks (is ++ js) = glK c es (glE es p is) (glK c es p ks is) js
  | [], _, _, _ => rfl
  | _ :: r, js, _, _ => glK_app c es r js _ _
theorem glK_take {c : Nat} {es : List Etr} {is : List Int} {p : Nat} {ks : List Nat} (n : Nat) : glK c es p (glK c es p ks is) (is.take n) = glK c es p ks is := by
  refine glK_idem c es (is.take n) p ks _ fun j hj => ?_
  have := glK_app c es (is.take n) (is.drop n) p ks
  rw [List.take_append_drop] at this
  rw [this]
  exact glK_sub c es _ _ _ hj
theorem glK_again {c : Nat} {es : List Etr} {is : List Int} {p : Nat} {ks : List Nat} : glK c es p (glK c es p ks is) is = glK c es p ks is := glK_idem c es is p ks _ fun _ hj => hj
theorem glV_take (es : List Etr) : ∀ (is : List Int) (p n : Nat), glV es p (is.take n) = (glV es p is).take n
  | [], _, n => by cases n <;> rfl
  | i :: r, p, 0 => rfl
  | i :: r, p, n + 1 => by
    show slotV es (seekP es p i) :: glV es (seekP es p i) (r.take n) = slotV es (seekP es p i) :: (glV es (seekP es p i) r).take n
    rw [glV_take es r]
def slotD' (es : List Etr) (pos : Nat) : PyData := match es[pos]? with
  | some e => .int (e.1 : Nat)
  | none => .none
theorem rp_slot {H : Hp} (es : List Etr) (pos : Nat) : Rp H (slotV es pos) (slotD' es pos) := by
  unfold slotV slotD'
  cases es[pos]? with
  | none => exact .non
  | some e => exact .int _
theorem good_slot (es : List Etr) (pos : Nat) : GoodD (slotD' es pos) 0 := by
  unfold slotD'
  cases es[pos]? with
  | none => exact good_none
  | some e => exact good_int
def glD (es : List Etr) : Nat → List Int → List PyData
  | _, [] => []
  | p, i :: r => slotD' es (seekP es p i) :: glD es (seekP es p i) r
theorem rp_glV {H : Hp} (es : List Etr) : ∀ (is : List Int) (p : Nat), RpAll H (glV es p is) (glD es p is)
  | [], _ => .nil
  | _ :: r, _ => .cons (rp_slot es _) (rp_glV es r _)
theorem good_glD (es : List Etr) : ∀ (is : List Int) (p : Nat), ∀ d ∈ glD es p is, GoodD d 0
  | [], _, d, h => by cases h
  | i :: r, p, d, h => by
    rcases List.mem_cons.mp h with rfl | h
    · exact good_slot es _
    · exact good_glD es r _ d h
theorem tabs_kw {TT : List (Addr × Str)} {H H' : Hp} {r d C dx : Addr} {fs : List (Str × V)} {kvs : List (Key × V)} (t : LamX.Tabs TT H) (hr : H r = some (.ins C dx fs)) (hd : H d = some (.dK kvs)) (e : KW r d H H') : LamX.Tabs TT H' := by
  intro x hx
  obtain ⟨ps, h1, h2, h3⟩ := t x hx
  refine ⟨ps, e _ _ h1 (fun z => by rw [z, hr] at h1; cases h1) (fun z => by rw [z, hd] at h1; cases h1), h2, fun pos cv hc => ?_⟩
  obtain ⟨c, e1, e2⟩ := h3 pos cv hc
  refine ⟨c, e1, e _ _ e2 (fun z => ?_) (fun z => ?_)⟩
  · rw [z, hr] at e2
    unfold LamX.CodeO at e2
    cases e2
  · rw [z, hd] at e2
    unfold LamX.CodeO at e2
    cases e2
theorem tabs_kd {TT : List (Addr × Str)} {H H' : Hp} {d : Addr} {kvs : List (Key × V)} (t : LamX.Tabs TT H) (hd : H d = some (.dK kvs)) (e : KB d H H') : LamX.Tabs TT H' := by
  intro x hx
  obtain ⟨ps, h1, h2, h3⟩ := t x hx
  refine ⟨ps, e _ _ h1 (fun z => by rw [z, hd] at h1; cases h1), h2, fun pos cv hc => ?_⟩
  obtain ⟨c, e1, e2⟩ := h3 pos cv hc
  refine ⟨c, e1, e _ _ e2 (fun z => ?_)⟩
  rw [z, hd] at e2
  unfold LamX.CodeO at e2
  cases e2
theorem nt_kn {N : Addr → Prop} {H H' : Hp} (h : ∀ c, N c → ∃ o, H c = some o ∧ ∀ ps, o ≠ .tbl ps) (k : KN N H H') : ∀ c, N c → ∃ o, H' c = some o ∧ ∀ ps, o ≠ .tbl ps := fun c hc => by
  obtain ⟨o, h1, h2⟩ := h c hc
  exact ⟨o, k _ _ h1 hc, h2⟩
theorem kn_ext {N : Addr → Prop} {H H' : Hp} (h : ∀ c, N c → ∃ o, H c = some o ∧ ∀ ps, o ≠ .tbl ps) (e : LamX.ExtN H H') : KN N H H' := fun c o h1 hc => by
  obtain ⟨o', h2, h3⟩ := h c hc
  rw [h1] at h2
  cases h2
  exact e _ _ h1 h3
/-- how things stand between the deeds -/
structure Stand (TT : List (Addr × Str)) (H0 : Hp) (N : Addr → Prop) (CB CW : Addr) (H : Hp) (p l r kp dd bk : Addr) (n : Nat) (xs : List V) (ls : List Nat) (c : Nat) (es : List Etr) (pos : Nat) (ks bs : List Nat) : Prop where
  g : Grown TT H0 H
  pp : Pool H p n
  ll : H l = some (.lst xs)
  rr : RpAll H xs (es.map eD)
  w : WkN N (fun c => c ≠ p) CB CW H r kp dd ls c es pos ks
  nt : ∀ c, N c → ∃ o, H c = some o ∧ ∀ ps, o ≠ .tbl ps
  bb : H bk = some (.dK (bs.map bkE))
  h0 : H0 p = none ∧ H0 r = none ∧ H0 dd = none ∧ H0 bk = none
  ne : l ≠ p ∧ ¬ N p ∧ bk ≠ dd ∧ ¬ N bk
section
variable {TT : List (Addr × Str)} {H0 H H' : Hp} {N : Addr → Prop} {CB CW : Addr} {p l r kp dd bk : Addr} {n : Nat} {xs : List V} {ls : List Nat} {c : Nat} {es : List Etr} {pos : Nat} {ks bs : List Nat}
theorem Stand.same (h : Stand TT H0 N CB CW H p l r kp dd bk n xs ls c es pos ks bs) (s : Same H H') : Stand TT H0 N CB CW H' p l r kp dd bk n xs ls c es pos ks bs := ⟨h.g.same s, h.pp.mono s (Nat.le_refl _), s _ _ h.ll, h.rr.same s, h.w.same s, nt_kn h.nt (.of s), s _ _ h.bb, h.h0, h.ne⟩
theorem Stand.pne (h : Stand TT H0 N CB CW H p l r kp dd bk n xs ls c es pos ks bs) : bk ≠ p := fun z => by
  obtain ⟨_, hq⟩ := h.pp.at
  have := h.bb
  rw [z, hq] at this
  cases this
theorem Stand.draw {m : Nat} (h : Stand TT H0 N CB CW H p l r kp dd bk n xs ls c es pos ks bs) (k : KB p H H') (hp : Pool H' p m) : Stand TT H0 N CB CW H' p l r kp dd bk m xs ls c es pos ks bs := by
  obtain ⟨ys, hy⟩ := h.pp.at
  obtain ⟨zs, hz⟩ := hp.at
  exact ⟨grown_kbp h.g h.h0.1 k hy, hp, k _ _ h.ll h.ne.1, h.rr.tupk (TupK.kb k hy) (noLs_es es), h.w.kb k hy hz h.ne.2.1 (fun z => z rfl), nt_kn h.nt (.kb h.ne.2.1 k), k _ _ h.bb h.pne, h.h0, h.ne⟩
theorem Stand.rne (h : Stand TT H0 N CB CW H p l r kp dd bk n xs ls c es pos ks bs) : bk ≠ r := fun z => by
  obtain ⟨_, hq⟩ := h.w.raw.obj
  have := h.bb
  rw [z, hq] at this
  cases this
theorem Stand.walk {pos' : Nat} {ks' : List Nat} (h : Stand TT H0 N CB CW H p l r kp dd bk n xs ls c es pos ks bs) (k : KW r dd H H') (w : WkN N (fun c => c ≠ p) CB CW H' r kp dd ls c es pos' ks') : Stand TT H0 N CB CW H' p l r kp dd bk n xs ls c es pos' ks' bs := by
  obtain ⟨d, h1⟩ := h.w.raw.obj
  obtain ⟨kvs, h6, _⟩ := h.w.raw.dec
  obtain ⟨a, b, z, hp, h2⟩ := h.pp
  have kn := k.kn h.w.raw.nr h.w.raw.nd
  exact ⟨⟨fun b o hb no => k b o (h.g.e b o hb no) (ne_of_none hb h.h0.2.1) (ne_of_none hb h.h0.2.2.1), tabs_kw h.g.t h1 h6 k⟩, ⟨a, b, z, h.w.raw.lst k hp, h2⟩, h.w.raw.lst k h.ll, h.rr.tupk (h.w.raw.tupk k) (noLs_es es), w, nt_kn h.nt kn, k _ _ h.bb h.rne h.ne.2.2.1, h.h0, h.ne⟩
theorem Stand.ext (h : Stand TT H0 N CB CW H p l r kp dd bk n xs ls c es pos ks bs) (g : Grown TT H H') : Stand TT H0 N CB CW H' p l r kp dd bk n xs ls c es pos ks bs := by
  have e := g.e
  have kn := kn_ext h.nt e
  have p' := h.pp.ext e (Nat.le_refl _)
  obtain ⟨P, ⟨d, h1⟩, ⟨bs', h2, h3⟩, h4, h5, hnr, hnd, hex, kvs, h6, h7, h8⟩ := h.w.raw
  have kl : KL (fun c => c ≠ p) H H' := fun c xs hc _ => e _ _ hc (fun _ z => by cases z)
  have tk : TupK H H' := fun a ys ha => e _ _ ha (fun _ z => by cases z)
  refine ⟨h.g.trans g, p', e _ _ h.ll (fun _ z => by cases z), h.rr.tupk tk (noLs_es es), ⟨⟨P, ⟨d, e _ _ h1 (fun _ z => by cases z)⟩, ⟨bs', kl _ _ h2 h4, h3.kn kn⟩, h4, fun c hc z => ?_, hnr, hnd, kn_ex hex kn, kvs, e _ _ h6 (fun _ z => by cases z), h7.kn kl tk, h8⟩, h.w.le, h.w.op⟩, nt_kn h.nt kn, e _ _ h.bb (fun _ z => by cases z), h.h0, h.ne⟩
  obtain ⟨_, hq⟩ := p'.at
  rw [z, hq] at hc
  cases hc
theorem Stand.book {bs' : List Nat} (h : Stand TT H0 N CB CW H p l r kp dd bk n xs ls c es pos ks bs) (k : KB bk H H') (hb : H' bk = some (.dK (bs'.map bkE))) : Stand TT H0 N CB CW H' p l r kp dd bk n xs ls c es pos ks bs' := by
  obtain ⟨a, b, z, hp, h1⟩ := h.pp
  have hbb := h.bb
  have off : ∀ {x ys}, H x = some (.lst ys) → H' x = some (.lst ys) := fun hx => k _ _ hx (fun z => by rw [z, hbb] at hx; cases hx)
  exact ⟨⟨fun b o hb no => k b o (h.g.e b o hb no) (ne_of_none hb h.h0.2.2.2), tabs_kd h.g.t hbb k⟩, ⟨a, b, z, off hp, h1⟩, off h.ll, h.rr.tupk (fun x ys hx => k _ _ hx (fun z => by rw [z, hbb] at hx; cases hx)) (noLs_es es), h.w.kbd k hbb hb h.ne.2.2.1 h.ne.2.2.2, nt_kn h.nt (.kb h.ne.2.2.2 k), hb, h.h0, h.ne⟩
end

end
end K16

namespace K16
section
variable {P : Program} {w : World} {K : PySem.W.Frag} {mg : Str → Option Value} {base : Heap} {Z : Zs} {C_CodeReader C_Block C_Row C_Walker : Addr}
abbrev s_law_right : Stmt := topS 68
theorem sc_law_right : FnScope ["_law_walker", "_law_entries", "_law_wide", "_law_at", "_law_aims_here", "_law_book", "_law_due", "_law_place", "_law_handed", "_law_told"] ["_law_walker", "_law_entries", "_law_wide", "_law_at", "_law_aims_here", "_law_book"] (defScope s_law_right) := ⟨rfl, rfl, rfl, by decide +kernel, rfl, by decide +kernel, by decide +kernel⟩
theorem rp_ints {H : Hp} : ∀ (is : List Int), RpAll H (is.map V.int) (is.map PyData.int)
  | [] => .nil
  | _ :: r => .cons (.int _) (rp_ints r)
theorem glD_take (es : List Etr) : ∀ (is : List Int) (p n : Nat), glD es p (is.take n) = (glD es p is).take n
  | [], _, n => by cases n <;> rfl
  | i :: r, p, 0 => rfl
  | i :: r, p, n + 1 => by
    show slotD' es (seekP es p i) :: glD es (seekP es p i) (r.take n) = slotD' es (seekP es p i) :: (glD es (seekP es p i) r).take n
    rw [glD_take es r]
theorem cutV_to1 (xs : List V) : cutV xs none (some 1) = xs.take 1 := by
  have e : HT.sIx xs.length xs.length (some ((1 : Nat) : Int)) = min 1 xs.length := HT.sIx_nat _ _ 1
  show cutV xs none (some ((1 : Nat) : Int)) = _
  unfold cutV
  rw [e, HT.sIx_none, Nat.sub_zero, List.drop_zero]
  exact (List.take_eq_take_min ..).symm
def spRight (TT : List (Addr × Str)) (CB CW : Addr) : Sp := fun vs H Q _ => ∃ (H0 : Hp) (N : Addr → Prop) (p l r kp dd bk q : Addr) (n : Nat) (xs : List V) (ls : List Nat) (c : Nat) (es : List Etr) (pos : Nat) (ks : List Nat) (is : List Int) (bad : List V) (bd : List PyData), vs = [.ref r, .ref l, .int c, .int pos, .ref q, .ref bk] ∧ Stand TT H0 N CB CW H p l r kp dd bk n xs ls c es pos ks ks ∧ EntOk 0 es ∧ es.length ≤ 60 ∧ 1 ≤ c ∧ c ≤ 8 ∧ ks.length ≤ 60 ∧ H q = some (.lst (is.map V.int ++ bad)) ∧ is.length + bad.length ≤ 8 ∧ BadA H bad bd ∧
  ∀ H', Stand TT H0 N CB CW H' p l r kp dd bk n xs ls c es pos (glK c es pos ks is) (glK c es pos ks is) → Q (.bl true) H'
theorem ok_right {f c0 P1 : Addr} {fd : FuncData} {TT : List (Addr × Str)} (F : FunC K "_law_right" "_law_right" s_law_right f fd c0) (T : Txt K mg Z C_CodeReader C_Block C_Row C_Walker) (hTB : LamX.TabB base mg c0 P1) (hmT : (P1, lamN "_law_right") ∈ TT) (hu : ∀ p ∈ TT, p.1 = P1 → p.2 = lamN "_law_right")
    (f__law_glanced : Fn P w K mg base "_law_glanced" 2 ["_law_entries", "_law_wide", "_law_at", "_law_aims_here", "_law_book"] spGlc) (f__law_slot : Fn P w K mg base "_law_slot" 1 ["_law_entries", "_law_at"] spLSlot)
    (me_Walker_slot : Me P w K mg base C_Walker "slot" 10 ["self"] (spWkS C_Block C_Walker)) (me_Walker_opened : Me P w K mg base C_Walker "opened" 1 ["self"] (spWkO C_Block C_Walker)) (me_Walker_glance : MeX P w K mg base C_Walker "glance" 12 ["self", "slots"] (spWkGX K Z C_Block C_Walker))
    (f__law_how : Asks P w K mg base "_law_how" "_law_deed" ["_law_deed", "_law_e"] s_law_how 2 (TTHow K Z)) : FnOk P w K mg base CX0 15 f fd ["_law_walker", "_law_entries", "_law_wide", "_law_at", "_law_aims_here", "_law_book"] (spRight TT C_Block C_Walker) := by
  have c2 := T.cl_Walker
  refine F.ok sc_law_right (fun vs H Q E h => ?_) (fun A outer s H vs Q E hr h => ?_)
  · obtain ⟨H0, N, p, l, r, kp, dd, bk, q, n, xs, ls, c, es, pos, ks, is, bad, bd, rfl, _⟩ := h
    rfl
  · obtain ⟨H0, N, p, l, r, kp, dd, bk, q, n, xs, ls, c, es, pos, ks, is, bad, bd, rfl, St, hE, h60, hc1, hc8, hk60, hq, hl8, hb, k⟩ := h
    have hu0 := hr.units
    have hle := St.w.le
    refine ⟨_, (pss_cons (ps_asg (pe_fn f__law_glanced (hr.mono (by omega)) rfl (pa_cons (pv 1) (pa_cons (pv 2) (pa_cons (pv 3) (pa_cons (pv 4) (pa_cons (pv 5) pa_nil)))))) (pg_tup rfl (pgs_cons (pg_name (i := 6) sc_law_right.nd rfl (.inl rfl)) (pgs_cons (pg_name (i := 7) sc_law_right.nd rfl (.inl rfl)) pgs_nil))))
 (pss_cons (ps_set (i := 8) sc_law_right.nd rfl (.inr rfl) (pe_callTy cl_list (by rfl) T.n_list PyProof.Rows.boot_list (pa_cons (pv 4) pa_nil)))
 (pss_cons (ps_if (pt_cmpR op_isnot0 (pv 7) pe_non (nomark _))
 (pss_one (ps_if (pt_cmpR (op_neD hr.units) (pe_asks (T := TT) (j := 12) f__law_how rfl (by exact hTB) (by rfl) (by rfl) hmT hu (hr.mono (by omega)) (hr.mono (by omega)) (by rfl) rfl (fun _ _ _ _ _ => rfl) (fun A' outer' s' H' E' f' c' hr' => (pe_mex (pv 0) T.cl_Walker me_Walker_glance (lets_of takesLam) (hr'.mono (by omega)) (pa_cons (pv 8) pa_nil)))) (pe_tup (pa_cons pe_str (pa_cons (pv 7) pa_nil))) (nomark _))
 (pss_one (ps_ret pe_bl))
 pss_nil))
 (pss_cons (ps_set (i := 9) sc_law_right.nd rfl (.inl rfl) (pe_mex (pv 0) T.cl_Walker me_Walker_glance lets0 (hr.mono (by omega)) (pa_cons (pv 8) pa_nil)))
 (pss_cons (ps_if (PW.pt (pw_or (pt_not (pt_val (pe_callB call_isi (by rfl) T.n_isinstance PyProof.Rows.boot_isinstance (pa_cons (pv 9) (pa_cons (pe_bltn (v := .ty "list") (by rfl) T.n_list PyProof.Rows.boot_list rfl) pa_nil))))) (pw_or1 (pt_cmpR (op_neD hr.units) (pv 9) (pv 6) (nomark _)))))
 (pss_one (ps_ret pe_bl))
 pss_nil)
 (pss_cons (ps_expr (pe_bm PySem.F.plainAttrs_list PySem.F.slot_list_append PySem.F.type_list_append mt_append (pv 9) (pa_cons pe_int pa_nil)))
 (pss_one (ps_if (PW.pt (pw_or (pt_cmpR (op_neD hr.units) (pe_mex (pv 0) T.cl_Walker me_Walker_glance lets0 (hr.mono (by omega)) (pa_cons (pe_slice sl_list (pv 8) po_none (po_some pe_int)) pa_nil)) (pe_slice sl_list (pv 6) po_none (po_some pe_int)) (nomark _)) (pw_or (pt_cmpR (op_neD hr.units) (pe_mex (pv 0) T.cl_Walker me_Walker_glance lets0 (hr.mono (by omega)) (pa_cons (pv 8) pa_nil)) (pv 6) (nomark _)) (pw_or1 (pt_cmpR (op_neD hr.units) (pv 9) (pe_op op_cat (pv 6) (pe_lst (pa_cons pe_int pa_nil))) (nomark _))))))
 (pss_one (ps_ret pe_bl))
 pss_nil))))))
 (pss_one (ps_ret (pe_and (pe_cmpR (op_eqD hr.units) (pv 8) (pv 4) (nomark _)) (pe_and (pe_cmpR (op_eqD hr.units) (pe_me0 (pv 0) T.cl_Walker me_Walker_slot (hr.mono (by omega))) (pe_fn f__law_slot (hr.mono (by omega)) rfl (pa_cons (pv 1) (pa_cons (pv 3) pa_nil))) (nomark _)) (pe_one (pe_cmpR op_eq (pe_me0 (pv 0) T.cl_Walker me_Walker_opened (hr.mono (by omega))) (pe_callB cl_lenD (by rfl) T.n_len PySem.boot_len (pa_cons (pv 5) pa_nil)) (nomark _)))))))))), ?_⟩
    wtm_at "w0"
    wtm_at "wp"
    refine ⟨l, q, bk, xs, es, c, pos, ks, is, bad, bd, rfl, St.ll, St.rr, hE, h60, hc1, hc8, hle, hq, hl8, hb, St.bb, hk60, fun t tl H1 ntl k1 b1 ht htl => ?_⟩
    have St1 := St.book k1 b1
    have hbb := St.bb
    have hq1 := k1 _ _ hq (fun z => by rw [z, hbb] at hq; cases hq)
    have hb1 : BadA H1 bad bd := hb.mono fun x o hx ho => k1 _ _ hx (fun z => by
      rw [z, hbb] at hx
      rcases ho with rfl | rfl <;> cases hx)
    have gA : GoodD (.list (is.map PyData.int ++ bd)) 3 := good_list fun d hd => by
      rcases List.mem_append.mp hd with h | h
      · obtain ⟨i, _, rfl⟩ := List.mem_map.mp h
        exact good_int
      · rcases hb with ⟨_, rfl⟩ | ⟨y, dy, js, _, rfl, ho⟩
        · cases h
        · rcases List.mem_cons.mp h with rfl | h
          · exact ho.thg.2.2.2
          · obtain ⟨i, _, rfl⟩ := List.mem_map.mp h
            exact good_int
    have rA : ∀ {G : Hp}, BadA G bad bd → RpAll G (is.map V.int ++ bad) (is.map PyData.int ++ bd) := fun {G} hG => by
      refine (rp_ints is).append ?_
      rcases hG with ⟨rfl, rfl⟩ | ⟨y, dy, js, rfl, rfl, ho⟩
      · exact .nil
      · exact .cons ho.thg.2.2.1 (rp_ints js)
    wtm_at "wq"
    refine w_listOf (.of hq1) (fun hd H2 nhd s2 h2 => ?_)
    have St2 := St1.same s2
    have hq2 := s2 _ _ hq1
    have htl2 := s2 _ _ htl
    have hb2 : BadA H2 bad bd := hb1.mono fun x o hx _ => s2 _ _ hx
    rcases hb with ⟨rfl, rfl⟩ | ⟨y, dy, js, rfl, rfl, hodd⟩
    · rw [if_pos rfl]
      rw [List.append_nil] at hq2 h2
      obtain ⟨dr2, hr2⟩ := St2.w.raw.obj
      wtm_at "wp"
      refine ⟨N, _, r, kp, dd, .ref hd, c, ls, es, pos, ks, rfl, St2.w, .inl ⟨hd, is, rfl, h2, by simp at hl8; omega, fun p3 H3 np3 kw3 hp3 W3 => ?_⟩⟩
      have St3 := St2.walk kw3 ⟨W3.raw.moreM (fun _ z => z.1), W3.le, W3.op⟩
      have ht3 := St2.w.raw.lst kw3 htl2
      have gD : ∀ n, GoodD (.list ((glD es pos is).take n)) 1 := fun n => good_list fun d hd => good_glD es is pos d (List.mem_of_mem_take hd)
      have gD0 : GoodD (.list (glD es pos is)) 1 := good_list fun d hd => good_glD es is pos d hd
      obtain ⟨dr3, hr3⟩ := St3.w.raw.obj
      wtm_at "wp"
      refine w_neG (.lst (.of hp3) (rp_glV es is pos).dp) (.lst (.of ht3) (rp_glV es is pos).dp) gD0 (by decide) ?_
      wtm_at "wp"
      refine w_append hp3 (Nat.lt_of_le_of_lt (by rw [glV_len]; simp at hl8; omega : _ ≤ 1001) (by decide)) (fun H4 k4 h4 => ?_)
      have kw4 : KW r dd H2 H4 := fun x o hx a b => k4 _ _ (kw3 x o hx a b) (fun z => by rw [z, np3] at hx; cases hx)
      have nN3 : ¬ N p3 := fun z => by
        obtain ⟨o, ho, _⟩ := St2.nt _ z
        rw [np3] at ho
        cases ho
      have W4 := W3.kb k4 hp3 h4 nN3 (fun z => z.2 rfl)
      have St4 := St2.walk kw4 ⟨W4.raw.moreM (fun _ z => z.1), W4.le, W4.op⟩
      have hq4 := St2.w.raw.lst kw4 hq2
      have hh4 := St2.w.raw.lst kw4 h2
      have ht4 := St2.w.raw.lst kw4 htl2
      obtain ⟨dr4, hr4⟩ := St4.w.raw.obj
      wtm_at "wp"
      rename_i p5 H5 n5 s5 h5
      rw [cutV_to1, ← List.map_take] at h5
      have St5 := St4.same s5
      refine ⟨N, _, r, kp, dd, .ref p5, c, ls, es, pos, _, rfl, St5.w, .inl ⟨p5, is.take 1, rfl, h5, by rw [List.length_take]; omega, fun p6 H6 np6 kw6 hp6 W6 => ?_⟩⟩
      rw [glK_take] at W6
      have St6 := St5.walk kw6 ⟨W6.raw.moreM (fun _ z => z.1), W6.le, W6.op⟩
      have ht6 := St5.w.raw.lst kw6 (s5 _ _ ht4)
      have h46 := St5.w.raw.lst kw6 (s5 _ _ h4)
      have hq6 := St5.w.raw.lst kw6 (s5 _ _ hq4)
      have hh6 := St5.w.raw.lst kw6 (s5 _ _ hh4)
      wtm_at "wp"
      rename_i p7 H7 n7 s7 h7
      rw [cutV_to1] at h7
      have rT : ∀ {G : Hp}, RpAll G ((glV es pos is).take 1) ((glD es pos is).take 1) := fun {G} => by
        have := rp_glV (H := G) es (is.take 1) pos
        rw [glV_take] at this
        rw [← glD_take]
        exact this
      rw [glV_take] at hp6
      refine w_neG (.lst (.of (s7 _ _ hp6)) rT.dp) (.lst (.of h7) rT.dp) (gD 1) (by decide) ?_
      have St7 := St6.same s7
      have ht7 := s7 _ _ ht6
      have h47 := s7 _ _ h46
      have hq7 := s7 _ _ hq6
      have hh7 := s7 _ _ hh6
      obtain ⟨dr7, hr7⟩ := St7.w.raw.obj
      wtm_at "wp"
      refine ⟨N, _, r, kp, dd, .ref hd, c, ls, es, pos, _, rfl, St7.w, .inl ⟨hd, is, rfl, hh7, by simp at hl8; omega, fun p8 H8 np8 kw8 hp8 W8 => ?_⟩⟩
      rw [glK_again] at W8
      have St8 := St7.walk kw8 ⟨W8.raw.moreM (fun _ z => z.1), W8.le, W8.op⟩
      have ht8 := St7.w.raw.lst kw8 ht7
      have h48 := St7.w.raw.lst kw8 h47
      have hq8 := St7.w.raw.lst kw8 hq7
      have hh8 := St7.w.raw.lst kw8 hh7
      wtm_at "wp"
      refine w_neG (.lst (.of hp8) (rp_glV es is pos).dp) (.lst (.of ht8) (rp_glV es is pos).dp) gD0 (by decide) ?_
      wtm_at "wp"
      rename_i p9 n9 H9 s9 h9
      refine w_cat (s9 _ _ ht8) h9 (sz (by rw [glV_len]; simp at hl8 ⊢; omega)) (fun pD H10 nD s10 h10 => ?_)
      have S10 := s9.trans s10
      have rD : ∀ {G : Hp}, RpAll G (glV es pos is ++ [V.int 0]) (glD es pos is ++ [PyData.int 0]) := fun {G} => (rp_glV es is pos).append (.cons (.int 0) .nil)
      have gD1 : GoodD (.list (glD es pos is ++ [PyData.int 0])) 1 := good_list fun d hd => by
        rcases List.mem_append.mp hd with h | h
        · exact good_glD es is pos d h
        · rw [List.mem_singleton.mp h]
          exact good_int
      refine w_neG (.lst (.of (S10 _ _ h48)) rD.dp) (.lst (.of h10) rD.dp) gD1 (by decide) ?_
      have St10 := St8.same S10
      have hq10 := S10 _ _ hq8
      have hh10 := S10 _ _ hh8
      obtain ⟨dr10, hr10⟩ := St10.w.raw.obj
      have rI : ∀ {G : Hp}, RpAll G (is.map V.int) (is.map PyData.int) := fun {G} => rp_ints is
      rw [List.append_nil] at gA
      wtm_at "wp"
      refine w_eqG (.lst (.of hh10) rI.dp) (.lst (.of hq10) rI.dp) gA (by decide) ?_
      wtm_at "wp"
      refine ⟨N, _, r, kp, dd, c, ls, es, pos, _, rfl, St10.w, fun G1 gw1 V1 => ?_⟩
      have T1 := St10.walk gw1 V1
      wtm_at "wp"
      refine ⟨l, xs, es, pos, rfl, T1.ll, T1.rr, h60, hle, fun G2 g2 => ?_⟩
      refine w_eqG (d := slotD' es pos) (n := 0) (rp_slot _ _).dp (rp_slot _ _).dp (good_slot _ _) (by decide) ?_
      have T2 := T1.same g2
      obtain ⟨dz, hz⟩ := T2.w.raw.obj
      wtm_at "wp"
      refine ⟨N, _, r, kp, dd, c, ls, es, _, _, _, rfl, T2.w.raw, ?_⟩
      wtm_at "wp"
      refine w_lenD T2.bb ?_
      wtm_at "wp"
      rw [List.length_map, decide_eq_true rfl]
      exact k _ T2
    · rw [if_neg (by simp)]
      wtm_at "wp"
      refine w_lam St2.g.t (fun H3 e3 t3 => ?_)
      refine w_how ?_
      have St3 := St2.ext ⟨e3, t3⟩
      have hq3 := e3 _ _ hq2 (fun _ z => by cases z)
      have h3 := e3 _ _ h2 (fun _ z => by cases z)
      obtain ⟨dr3, hr3⟩ := St3.w.raw.obj
      wtm_at "wp"
      have hb3 : OddA H3 y dy := hodd.mono fun x o hx ho => e3 _ _ (s2 _ _ (k1 _ _ hx (fun z => by
        rw [z, hbb] at hx
        rcases ho with rfl | rfl <;> cases hx))) (fun ps z => by rcases ho with rfl | rfl <;> cases z)
      refine ⟨N, _, r, kp, dd, .ref hd, c, ls, es, pos, ks, rfl, St3.w, .inr (.inl ⟨hd, is, y, js.map V.int, rfl, h3, by simp at hl8 ⊢; omega, hb3.thg.1, hb3.thg.2.1, fun d5 H5 nd5 kw5 hd5 W5 => ⟨Z.NoRow, rfl, .inr (.inl ⟨10, "row", d5, .int is.length, "int", T.h_NoRow, rfl, rfl, hd5, tyx_int, kit_int_bool, fun p6 H6 np6 s6 hp6 => ?_⟩)⟩⟩)⟩
      have St6 := (St3.walk kw5 W5).same s6
      have hq6 := s6 _ _ (St3.w.raw.lst kw5 hq3)
      have hh6 := s6 _ _ (St3.w.raw.lst kw5 h3)
      wtm_at "wp"
      rename_i t7 n7 H7 s7 h7
      refine w_neG (d := .tuple [.str "row", .int is.length]) (n := 1) (Rp.tup (s7 _ _ hp6) (.cons (.str _) (.cons (.int _) .nil))).dp (Rp.tup h7 (.cons (.str _) (.cons (.int _) .nil))).dp (good_tuple (n := 0) fun d hd => by
        simp only [List.mem_cons, List.not_mem_nil, or_false] at hd
        rcases hd with rfl | rfl
        · exact good_str (by decide +kernel)
        · exact good_int) (by decide) ?_
      have St7 := St6.same s7
      have hb7 : BadA H7 (y :: js.map V.int) (dy :: js.map PyData.int) := .inr ⟨y, dy, js, rfl, rfl, hb3.mono fun x o hx ho => s7 _ _ (s6 _ _ (kw5 _ _ hx (fun z => by
        rw [z, hr3] at hx
        rcases ho with rfl | rfl <;> cases hx) (fun z => by
        obtain ⟨kv, hkv, _⟩ := St3.w.raw.dec
        rw [z, hkv] at hx
        rcases ho with rfl | rfl <;> cases hx)))⟩
      have hq7 := s7 _ _ hq6
      have hh7 := s7 _ _ hh6
      obtain ⟨dr7, hr7⟩ := St7.w.raw.obj
      wtm_at "wp"
      refine w_eqG (.lst (.of hh7) (rA hb7).dp) (.lst (.of hq7) (rA hb7).dp) gA (by decide) ?_
      wtm_at "wp"
      refine ⟨N, _, r, kp, dd, c, ls, es, pos, _, rfl, St7.w, fun G1 gw1 V1 => ?_⟩
      have T1 := St7.walk gw1 V1
      wtm_at "wp"
      refine ⟨l, xs, es, pos, rfl, T1.ll, T1.rr, h60, hle, fun G2 g2 => ?_⟩
      refine w_eqG (d := slotD' es pos) (n := 0) (rp_slot _ _).dp (rp_slot _ _).dp (good_slot _ _) (by decide) ?_
      have T2 := T1.same g2
      obtain ⟨dz, hz⟩ := T2.w.raw.obj
      wtm_at "wp"
      refine ⟨N, _, r, kp, dd, c, ls, es, _, _, _, rfl, T2.w.raw, ?_⟩
      wtm_at "wp"
      refine w_lenD T2.bb ?_
      wtm_at "wp"
      rw [List.length_map, decide_eq_true rfl]
      exact k _ T2

end
end K16

namespace K16
abbrev s_law : Stmt := topS 69
theorem sc_law : FnScope ["_law_script", "_law_k", "_law_pool_here", "_law_entries", "_law_wide", "_law_walker", "_law_at", "_law_book", "_law_turn", "_law_thing", "_law_aim", "_law_number"] ["_law_script"] (defScope s_law) := ⟨rfl, rfl, rfl, by decide +kernel, rfl, by decide +kernel, by decide +kernel⟩
section
variable {P : Program} {w : World} {K : PySem.W.Frag} {mg : Str → Option Value} {base : Heap} {Z : Zs} {C_CodeReader C_Block C_Row C_Walker : Addr}
theorem WkN.few {N M : Addr → Prop} {CB CW : Addr} {H : Hp} {r kp dd : Addr} {ls : List Nat} {c : Nat} {es : List Etr} {pos : Nat} {ks : List Nat} (h : WkN N M CB CW H r kp dd ls c es pos ks) : ks.length ≤ 60 := by
  obtain ⟨x0, hP0⟩ := h.raw.P
  obtain ⟨kvs, _, _, h8⟩ := h.raw.dec
  exact Nat.le_trans (nodup_lt _ _ h8.1 h8.2) (Nat.le_trans (cut_le hP0.c1) hP0.len)
theorem RowN.nowT {N : Addr → Prop} {CB CR : Addr} {H : Hp} {r : Addr} {x : Str} {c : Nat} {ls : List Nat} {es : List Etr} (h : RowN N CB CR H r x c ls es) : RowN (fun c => N c ∧ ∃ o, H c = some o ∧ ∀ ps, o ≠ .tbl ps) CB CR H r x c ls es := by
  obtain ⟨h0, d, kp, bs, h1, h2, h3, h4, h5⟩ := h
  refine ⟨h0, d, kp, bs, ⟨h1, _, h3, fun _ z => by cases z⟩, ⟨h2, _, h4, fun _ z => by cases z⟩, h3, h4, h5.1, fun i b es g1 g2 => ?_⟩
  obtain ⟨hP, d', t, f1, f2, f3, f4⟩ := h5.2 i b es g1 g2
  exact ⟨hP, d', t, ⟨f1, _, f3, fun _ z => by cases z⟩, ⟨f2, _, f4, fun _ z => by cases z⟩, f3, f4⟩
theorem rp_nats16 {H : Hp} : ∀ (ns : List Nat), RpAll H (ns.map nV) (ns.map nD)
  | [] => .nil
  | _ :: r => .cons (.int _) (rp_nats16 r)
def spLaw (K : PySem.W.Frag) (TT : List (Addr × Str)) : Sp := fun vs H Q _ => ∃ (a : Addr) (ns : List Int), vs = [.ref a] ∧ SqL K H a (ns.map V.int) ∧ ns.length ≤ 63 ∧ LamX.Tabs TT H ∧ ∀ H', Q (.bl true) H'
theorem ok_law {f c0 P1 : Addr} {fd : FuncData} {TT : List (Addr × Str)} (F : FunC K "law" "law" s_law f fd c0) (T : Txt K mg Z C_CodeReader C_Block C_Row C_Walker) (hTB : LamX.TabB base mg c0 P1) (hmT : (P1, lamN "law") ∈ TT) (hu : ∀ p ∈ TT, p.1 = P1 → p.2 = lamN "law")
    (f__law_pool : Fn P w K mg base "_law_pool" 1 ["_law_script", "_law_at"] (spPool K)) (f__law_take : Fn P w K mg base "_law_take" 1 ["_law_pool_here", "_law_many"] spTake) (f__law_kinds : Fn P w K mg base "_law_kinds" 2 ["_law_pool_here"] spKinds) (f__law_row_entries : Fn P w K mg base "_law_row_entries" 2 ["_law_pool_here", "_law_many", "_law_most"] spREnts) (f__law_lengths : Fn P w K mg base "_law_lengths" 2 ["_law_pool_here", "_law_entries"] spLens)
    (f__law_seek : Fn P w K mg base "_law_seek" 1 ["_law_entries", "_law_at", "_law_slot_here"] spLSeek) (f__law_slot : Fn P w K mg base "_law_slot" 1 ["_law_entries", "_law_at"] spLSlot) (f__law_aims : Fn P w K mg base "_law_aims" 2 ["_law_pool_here", "_law_entries"] spAims) (f__law_slots_opened : Fn P w K mg base "_law_slots_opened" 1 ["_law_entries", "_law_wide", "_law_at", "_law_slot_here"] spOpens) (f__law_right : Fn P w K mg base "_law_right" 15 ["_law_walker", "_law_entries", "_law_wide", "_law_at", "_law_aims_here", "_law_book"] (spRight TT C_Block C_Walker))
    (mk_Row_size : MkrK P w K mg base "Row" C_Row 9 ["self", "word", "entries", "lengths", "size"] 3 ["size"] (fun vs zs => vs ++ zs) (spRowI C_Block C_Row)) (mk_Walker_1 : Mkr P w K mg base "Walker" C_Walker 2 ["self", "row"] [] (spWkI C_Block C_Row C_Walker)) (me_Walker_seek : Me P w K mg base C_Walker "seek" 11 ["self", "slot"] (spWkK C_Block C_Walker)) (me_Walker_places : Me P w K mg base C_Walker "places" 10 ["self"] (spWkP C_Block C_Walker)) (me_Walker_glance : MeX P w K mg base C_Walker "glance" 12 ["self", "slots"] (spWkGX K Z C_Block C_Walker))
    (f__law_how : Asks P w K mg base "_law_how" "_law_deed" ["_law_deed", "_law_e"] s_law_how 2 (TTHow K Z)) : FnOk P w K mg base CX0 17 f fd ["_law_script"] (spLaw K TT) := by
  have c2 := T.cl_Walker
  refine F.ok sc_law (fun vs H Q E h => ?_) (fun A outer s H vs Q E hr h => ?_)
  · obtain ⟨a, ns, rfl, _⟩ := h
    rfl
  · obtain ⟨a, ns, rfl, hS, hlen, hT, k⟩ := h
    refine ⟨_, (pss_cons (ps_for PassesOwn.never rfl (pi_range1 (by rfl) T.n_range (pa_cons (pe_callB (cl_max rfl) (by rfl) T.n_max PyProof.Rows.boot_max (pa_cons pe_int (pa_cons (pe_callB (cl_min rfl) (by rfl) T.n_min PyProof.Rows.boot_min (pa_cons pe_int (pa_cons (pe_callB cl_len (by rfl) T.n_len PySem.boot_len (pa_cons (pv 0) pa_nil)) pa_nil))) pa_nil))) pa_nil)) (pg_name (i := 1) sc_law.nd rfl (.inl rfl))
 (pss_cons (ps_set (i := 2) sc_law.nd rfl (.inl rfl) (pe_fn f__law_pool (hr.mono (by omega)) rfl (pa_cons (pv 0) (pa_cons (pv 1) pa_nil))))
 (pss_cons (ps_set (i := 3) sc_law.nd rfl (.inl rfl) (pe_fn f__law_row_entries (hr.mono (by omega)) rfl (pa_cons (pv 2) (pa_cons pe_int (pa_cons pe_int pa_nil)))))
 (pss_cons (ps_set (i := 4) sc_law.nd rfl (.inl rfl) (pe_op op_add pe_int (pe_fn f__law_take (hr.mono (by omega)) rfl (pa_cons (pv 2) (pa_cons pe_int pa_nil)))))
 (pss_cons (ps_set (i := 5) sc_law.nd rfl (.inr rfl) (pe_mkr mk_Walker_1 (hr.mono (by omega)) rfl (pa_cons (pe_mkk mk_Row_size (hr.mono (by omega)) rfl (pa_cons (pe_ix ix_list (pe_fn f__law_kinds (hr.mono (by omega)) rfl (pa_cons (pv 2) pa_nil)) pe_int (fun _ _ => rfl)) (pa_cons (pv 3) (pa_cons (pe_fn f__law_lengths (hr.mono (by omega)) rfl (pa_cons (pv 2) (pa_cons (pv 3) pa_nil))) pa_nil))) (pk_cons (pv 4) pk_nil)) pa_nil)))
 (pss_cons (ps_set (i := 6) sc_law.nd rfl (.inl rfl) pe_int)
 (pss_cons (ps_set (i := 7) sc_law.nd rfl (.inl rfl) pe_dnewK)
 (pss_one (ps_for PassesOwn.never rfl (pi_range1 (by rfl) T.n_range (pa_cons pe_int pa_nil)) (pg_name (i := 8) sc_law.nd rfl (.inl rfl))
 (pss_cons (ps_if (pt_not (pt_val (pe_fn f__law_right (hr.mono (by omega)) rfl (pa_cons (pv 5) (pa_cons (pv 3) (pa_cons (pv 4) (pa_cons (pv 6) (pa_cons (pe_fn f__law_aims (hr.mono (by omega)) rfl (pa_cons (pv 2) (pa_cons (pv 3) pa_nil))) (pa_cons (pv 7) pa_nil)))))))))
 (pss_one (ps_ret pe_bl))
 pss_nil)
 (pss_cons (ps_if (pt_cmpR (op_neD hr.units) (pe_asks (T := TT) (j := 12) f__law_how rfl (by exact hTB) (by rfl) (by rfl) hmT hu (hr.mono (by omega)) (hr.mono (by omega)) (by rfl) rfl (fun _ _ _ _ _ => rfl) (fun A' outer' s' H' E' f' c' hr' => (pe_mex (pv 5) T.cl_Walker me_Walker_glance (lets_of takesLam) (hr'.mono (by omega)) (pa_cons (pe_lst (pa_cons (pe_tup (pa_cons pe_int (pa_cons pe_int pa_nil))) (pa_cons pe_int pa_nil))) pa_nil)))) (pe_tup (pa_cons pe_str (pa_cons pe_int pa_nil))) (nomark _))
 (pss_one (ps_ret pe_bl))
 pss_nil)
 (pss_cons (ps_for PassesOwn.never rfl (pi_tup (pe_tup (pa_cons pe_non (pa_cons (pe_tup (pa_cons pe_int (pa_cons pe_int pa_nil))) (pa_cons pe_int (pa_cons pe_str pa_nil)))))) (pg_name (i := 9) sc_law.nd rfl (.inr rfl))
 (pss_one (ps_if (pt_cmpR (op_neD hr.units) (pe_asks (T := TT) (j := 12) f__law_how rfl (by exact hTB) (by rfl) (by rfl) hmT hu (hr.mono (by omega)) (hr.mono (by omega)) (by rfl) rfl (fun _ _ _ _ _ => rfl) (fun A' outer' s' H' E' f' c' hr' => (pe_mex (pv 5) T.cl_Walker me_Walker_glance (lets_of takesLam) (hr'.mono (by omega)) (pa_cons (pv 9) pa_nil)))) (pe_tup (pa_cons pe_str (pa_cons pe_non pa_nil))) (nomark _))
 (pss_one (ps_ret pe_bl))
 pss_nil)))
 (pss_cons (ps_set (i := 10) sc_law.nd rfl (.inl rfl) (pe_fn f__law_take (hr.mono (by omega)) rfl (pa_cons (pv 2) (pa_cons pe_int pa_nil))))
 (pss_cons (ps_for PassesOwn.never rfl (pi_list (pe_fn f__law_slots_opened (hr.mono (by omega)) rfl (pa_cons (pv 3) (pa_cons (pv 4) (pa_cons (pv 6) (pa_cons (pv 10) pa_nil)))))) (pg_name (i := 11) sc_law.nd rfl (.inl rfl))
 (pss_one (ps_dput (u1_of hr) (pv 7) (pv 11) pe_bl rfl)))
 (pss_cons (ps_set (i := 6) sc_law.nd rfl (.inl rfl) (pe_fn f__law_seek (hr.mono (by omega)) rfl (pa_cons (pv 3) (pa_cons (pv 6) (pa_cons (pv 10) pa_nil)))))
 (pss_cons (ps_if (pt_cmpR (op_neD hr.units) (pe_me (pv 5) T.cl_Walker me_Walker_seek (hr.mono (by omega)) (pa_cons (pv 10) pa_nil)) (pe_fn f__law_slot (hr.mono (by omega)) rfl (pa_cons (pv 3) (pa_cons (pv 6) pa_nil))) (nomark _))
 (pss_one (ps_ret pe_bl))
 pss_nil)
 (pss_one (ps_if (pt_cmpR op_lt (pv 6) (pe_callB cl_len (by rfl) T.n_len PySem.boot_len (pa_cons (pv 3) pa_nil)) (nomark _))
 (pss_cons (ps_dput (u1_of hr) (pv 7) (pe_op op_fdivU (pv 6) (pv 4)) pe_bl rfl)
 (pss_one (ps_if (pt_cmpR (op_neD hr.units) (pe_me0 (pv 5) T.cl_Walker me_Walker_places (hr.mono (by omega))) (pe_ix ix_tup (pe_ix ix_list (pv 3) (pv 6) (fun _ _ => rfl)) pe_int (fun _ _ => rfl)) (nomark _))
 (pss_one (ps_ret pe_bl))
 pss_nil)))
 pss_nil))))))))))))))))))
 (pss_one (ps_ret pe_bl))), ?_⟩
    wtm_at "w0"
    wtm_at "wp"
    rw [List.length_map]
    refine ⟨_, rfl, by omega, by omega, for_fin (n := (max (1 : Int) (min (6 : Int) (ns.length : Int))).toNat) fin_rng (fun i σ H' => ∃ v1 v2 v3 v4 v5 v6 v7 v8 v9 v10 v11 : Option V, σ = [some (.ref a), v1, v2, v3, v4, v5, v6, v7, v8, v9, v10, v11] ∧ Grown TT H H') ?_ (fun _ _ _ _ _ => trivial) ?_ ?_⟩
    · exact ⟨_, _, _, _, _, _, _, _, _, _, _, rfl, Grown.of hT (.refl _)⟩
    · rintro i x σ H0 H0' hi ⟨v1, v2, v3, v4, v5, v6, v7, v8, v9, v10, v11, rfl, g0⟩ ⟨rfl, rfl⟩
      wtm_at "wp"
      rw [Int.zero_add]
      refine ⟨a, ns, i, rfl, extn_seq g0.e hS, by omega, fun p H1 np s1 p1 => ?_⟩
      wtm_at "wp"
      refine ⟨p, _, 20, 3, rfl, p1, by decide, by decide, by decide, by decide, fun l xs es H3 nl k3 p3 hl3 rr3 ok3 len3 sm3 => ?_⟩
      have hxl := rr3.length
      rw [List.length_map] at hxl
      have nlp : l ≠ p := (ne_of_none p1.at.choose_spec nl).symm
      wtm_at "wp"
      refine ⟨p, 8, _, rfl, p3, by decide, by decide, by decide, fun d4 H4 d40 d41 k4 p4 => ?_⟩
      obtain ⟨d, rfl⟩ := Int.eq_ofNat_of_zero_le d40
      have e1 : (1 : Int) + (d : Int) = ((1 + d : Nat) : Int) := by omega
      refine w_I0 ?_
      dsimp only
      rw [e1]
      have hd1 : 1 ≤ 1 + d := by omega
      have hd8 : 1 + d ≤ 8 := by omega
      generalize 1 + d = c at *
      wtm_at "wp"
      refine ⟨p, _, rfl, p4, by decide, fun q ws H5 nq k5 p5 hq hw1 hw5 hww _ => ?_⟩
      obtain ⟨x, hx⟩ : ∃ x, ws[0]? = some x := ⟨_, List.getElem?_eq_getElem (by omega)⟩
      have hxw := hww x (List.mem_of_getElem? hx)
      wtm_at "wp"
      refine w_ixL (v := .str x) (.of hq) (atI_nat (j := 0) (by rw [List.getElem?_map, hx]; rfl)) ?_
      have K5 : KB p H3 H5 := k4.trans k5
      have hl5 := K5 _ _ hl3 nlp
      have rr5 := rr3.tupk (TupK.kb K5 p3.at.choose_spec) (noLs_es es)
      wtm_at "wp"
      refine ⟨p, l, _, xs, es, rfl, p5, by decide, nlp, hl5, rr5, ok3, len3, fun e he => ⟨by have := (sm3 e he).1; omega, (sm3 e he).2.2⟩, fun m ls H6 nm k6 p6 hm6 hl60 hl120 hfit => ?_⟩
      have hP : RowP x c ls es := ⟨hxw, ok3, by omega, hl60, hl120, hfit, hd1, hd8⟩
      have hl6 := k6 _ _ hl5 nlp
      have rr6 := rr5.tupk (TupK.kb k6 p5.at.choose_spec) (noLs_es es)
      have G6 : Same H0' H6 := (k3.trans (k4.trans (k5.trans k6))).same s1 np
      wtm_at "wp"
      refine ⟨rfl, rfl, ?_⟩
      wtm_at "make"
      rename_i r7 d7 n7 nd7 H7 s7 h7
      refine ⟨r7, d7, l, m, x, c, ls, es, xs, rfl, h7, s7 _ _ hl6, rr6.same s7, s7 _ _ hm6, hP, fun H8 k8 R8 => ⟨rfl, ?_⟩⟩
      have S8 : Same H6 H8 := k8.same s7 n7
      have R8' := (R8.more (M := fun c => H6 c = none) (fun z hz => by
        rcases hz with rfl | hz
        · exact n7
        · exact same_free s7 hz)).nowT
      wtm_at "wp"
      rename_i r9 d9 n9 nd9 H9 s9 h9
      have hp9 : ∃ ys, H9 p = some (.lst ys) := ⟨_, s9 _ _ (S8 _ _ p6.at.choose_spec)⟩
      refine ⟨_, (fun c => c ≠ p), r9, d9, r7, x, c, ls, es, rfl, h9, R8'.kn (.of s9), fun z => (by obtain ⟨_, o, h, _⟩ := z; rw [n9] at h; cases h), fun z hz => (by obtain ⟨_, o, h, _⟩ := hz; rw [s9 _ _ h]; simp), fun z hz e => (by obtain ⟨_, h⟩ := hp9; rw [e, h] at hz; cases hz), fun kp dd H10 nkp ndd k10 W10 => ⟨rfl, ?_⟩⟩
      have S10 : Same H8 H10 := k10.same s9 n9
      have T10 := S8.trans S10
      wtm_at "wp"
      refine w_dnewK (fun bk H11 n11 s11 h11 => ?_)
      have T11 := T10.trans s11
      have nt11 : ∀ c, (H6 c = none ∧ ∃ o, H8 c = some o ∧ ∀ ps, o ≠ .tbl ps) → ∃ o, H11 c = some o ∧ ∀ ps, o ≠ .tbl ps := fun c hc => by
        obtain ⟨_, o, h, ho⟩ := hc
        exact ⟨o, s11 _ _ (S10 _ _ h), ho⟩
      have nbN0 : ¬ (H6 bk = none ∧ ∃ o, H8 bk = some o ∧ ∀ ps, o ≠ HO.tbl ps) := fun z => by
        obtain ⟨_, o, h, _⟩ := z
        rw [S10 _ _ h] at n11
        cases n11
      generalize hNN : (fun c => H6 c = none ∧ ∃ o, H8 c = some o ∧ ∀ ps, o ≠ HO.tbl ps) = N at *
      have hNp : ¬ N p := fun z => by
        rw [← hNN] at z
        obtain ⟨_, hq⟩ := p6.at
        rw [hq] at z
        cases z.1
      have nbN : ¬ N bk := fun z => nbN0 (by rw [← hNN] at z; exact z)
      have nt11' : ∀ c, N c → ∃ o, H11 c = some o ∧ ∀ ps, o ≠ .tbl ps := fun c hc => nt11 c (by rw [← hNN] at hc; exact hc)
      have nr0 : H0' r9 = none := same_free (G6.trans S8) n9
      have nd0 : H0' dd = none := same_free (G6.trans (S8.trans s9)) ndd
      have nb0 : H0' bk = none := same_free (G6.trans T10) n11
      have nbd : bk ≠ dd := by
        obtain ⟨kv, hk, _⟩ := W10.raw.dec
        exact (ne_of_none hk n11).symm
      have St11 : Stand TT H0' N C_Block C_Walker H11 p l r9 kp dd bk 2000 xs ls c es 0 [] [] := ⟨Grown.of g0.t (G6.trans T11), p6.mono T11 (by decide), T11 _ _ hl6, rr6.same T11, W10.same s11, nt11', h11, ⟨np, nr0, nd0, nb0⟩, ⟨nlp, hNp, nbd, nbN⟩⟩
      have h60 : es.length ≤ 60 := by omega
      clear nt11 nt11' hNN W10 R8' R8 h9 h7 s7 k8 k10 s9 S8 S10 T10 T11 s11 h11 n11 G6 p6 k6 k5 k4 k3 p5 p4 p3 p1 hq hl6 hl5 hl3 rr6 rr5 rr3 hm6 nbN0
      wtm_at "wp"
      refine ⟨_, rfl, by decide, by decide, for_fin (n := (4 : Int).toNat) fin_rng (fun j σ H' => ∃ (pos : Nat) (ks : List Nat) (v1 v8 v9 v10 v11 : Option V), σ = [some (.ref a), v1, some (.ref p), some (.ref l), some (.int c), some (.ref r9), some (.int pos), some (.ref bk), v8, v9, v10, v11] ∧ Stand TT H0' N C_Block C_Walker H' p l r9 kp dd bk (2000 + 20 * j) xs ls c es pos ks ks) ⟨0, [], _, _, _, _, _, rfl, St11⟩ (fun _ _ _ _ _ => trivial) ?_ ?_⟩
      · rintro j y σ H12 H12' hj ⟨pos, ks, u1, u8, u9, u10, u11, rfl, St⟩ ⟨rfl, rfl⟩
        have hj4 : j < 4 := hj
        obtain ⟨dr12, hr12⟩ := St.w.raw.obj
        wtm_at "wp"
        refine ⟨p, l, _, xs, es, rfl, St.pp, by omega, St.ne.1, St.ll, St.rr, h60, fun q H13 is bad bd nq k13 p13 hq13 hl13 hb13 => ?_⟩
        have St13 := St.draw k13 p13
        wtm_at "wp"
        refine ⟨H0', N, p, l, r9, kp, dd, bk, q, _, xs, ls, c, es, pos, ks, is, bad, bd, rfl, St13, ok3, h60, hd1, hd8, St13.w.few, hq13, hl13, hb13, fun H14 St14 => ?_⟩
        generalize hks : glK c es pos ks is = ks1 at *
        wtm_at "wp"
        refine w_lam St14.g.t (fun H15 e15 t15 => ?_)
        refine w_how ?_
        have St15 := St14.ext ⟨e15, t15⟩
        obtain ⟨dr15, hr15⟩ := St15.w.raw.obj
        wtm_at "wp"
        rename_i t16 n16 H16 s16 h16 l17 n17 H17 s17 h17
        have St17 := St15.same (s16.trans s17)
        have h167 := s17 _ _ h16
        obtain ⟨dr17, hr17⟩ := St17.w.raw.obj
        refine ⟨N, _, r9, kp, dd, .ref l17, c, ls, es, pos, ks1, rfl, St17.w, .inr (.inl ⟨l17, [], .ref t16, [.int 2], rfl, h17, by simp, .tup h167, rfl, fun d18 H18 nd18 kw18 hd18 W18 => ⟨Z.NoRow, rfl, .inr (.inl ⟨10, "row", d18, .int 0, "int", T.h_NoRow, rfl, rfl, hd18, tyx_int, kit_int_bool, fun p19 H19 np19 s19 hp19 => ?_⟩)⟩⟩)⟩
        have St19 := (St17.walk kw18 W18).same s19
        have gR : ∀ v : PyData, (v = .none ∨ v = .int 0) → GoodD (.tuple [.str "row", v]) 1 := fun v hv => good_tuple (n := 0) fun d hd => by
          simp only [List.mem_cons, List.not_mem_nil, or_false] at hd
          rcases hd with rfl | rfl
          · exact good_str (by decide +kernel)
          · rcases hv with rfl | rfl
            · exact good_none
            · exact good_int
        wtm_at "wp"
        rename_i t20 n20 H20 s20 h20
        refine w_neG (d := .tuple [.str "row", .int 0]) (n := 1) (Rp.tup (s20 _ _ hp19) (.cons (.str _) (.cons (.int _) .nil))).dp (Rp.tup h20 (.cons (.str _) (.cons (.int _) .nil))).dp (gR _ (.inr rfl)) (by decide) ?_
        have St20 := St19.same s20
        wtm_at "wp"
        rename_i t21 n21 H21 s21 h21 t22 n22 H22 s22 h22
        have St22 : Stand TT H0' N C_Block C_Walker H22 p l r9 kp dd bk (2000 + 20 * j + 11) xs ls c es pos ks1 ks1 := St20.same (s21.trans s22)
        have h212 := s22 _ _ h21
        refine for_fin fin_tup (fun m σ H' => ∃ v9 : Option V, σ = [some (.ref a), u1, some (.ref p), some (.ref l), some (.int c), some (.ref r9), some (.int pos), some (.ref bk), some (.int (0 + (j : Int))), v9, u10, u11] ∧ Stand TT H0' N C_Block C_Walker H' p l r9 kp dd bk (2000 + 20 * j + 11) xs ls c es pos ks1 ks1 ∧ H' t21 = some (.tup [.int 0, .int 1]) ∧ H' t22 = some (.tup [.non, .ref t21, .int 3, .str "a"])) ⟨_, rfl, St22, h212, h22⟩ (fun m σ H' _ h => by obtain ⟨_, _, _, _, h⟩ := h; exact .of h) ?_ ?_
        · rintro m y σ H23 H23' hm ⟨v9, rfl, St23, g21, g22⟩ ⟨rfl, hy⟩
          wtm_at "wp"
          refine w_lam St23.g.t (fun H24 e24 t24 => ?_)
          refine w_how ?_
          have St24 := St23.ext ⟨e24, t24⟩
          have g214 := e24 _ _ g21 (fun _ z => by cases z)
          have g224 := e24 _ _ g22 (fun _ z => by cases z)
          have nl : NoL H24 y := by
            have hm := List.mem_of_getElem? hy
            simp only [List.mem_cons, List.not_mem_nil, or_false] at hm
            rcases hm with rfl | rfl | rfl | rfl
            · exact .non
            · exact .tup g214
            · exact .int _
            · exact .str _
          obtain ⟨dr24, hr24⟩ := St24.w.raw.obj
          wtm_at "wp"
          refine ⟨N, _, r9, kp, dd, y, c, ls, es, pos, ks1, rfl, St24.w, .inr (.inr ⟨nl, fun d25 H25 nd25 kw25 hd25 W25 => ⟨Z.NoRow, rfl, .inr (.inl ⟨10, "row", d25, .non, "NoneType", T.h_NoRow, rfl, rfl, hd25, tyx_non, kit_NoneType_bool, fun p26 H26 np26 s26 hp26 => ?_⟩)⟩⟩)⟩
          have St26 := (St24.walk kw25 W25).same s26
          have g216 := s26 _ _ (St24.w.raw.tupk kw25 _ _ g214)
          have g226 := s26 _ _ (St24.w.raw.tupk kw25 _ _ g224)
          wtm_at "wp"
          rename_i t27 n27 H27 s27 h27
          refine w_neG (d := .tuple [.str "row", .none]) (n := 1) (Rp.tup (s27 _ _ hp26) (.cons (.str _) (.cons .non .nil))).dp (Rp.tup h27 (.cons (.str _) (.cons .non .nil))).dp (gR _ (.inl rfl)) (by decide) ?_
          wtm_at "wp"
          exact ⟨_, rfl, St26.same s27, s27 _ _ g216, s27 _ _ g226⟩
        · rintro σ H23 ⟨v9, rfl, St23, g21, g22⟩
          clear g21 g22 h212 h22 h21 St22 St20 h20 St19 St17 h17 h167 h16 St15 St14 hb13 hq13 St13
          wtm_at "wp"
          refine ⟨p, 30, _, rfl, St23.pp, by omega, by decide, by decide, fun d24 H24 d240 d241 k24 p24 => ?_⟩
          have St24 := St23.draw k24 p24
          have hle := St24.w.le
          wtm_at "wp"
          refine ⟨l, xs, es, c, pos, d24, rfl, St24.ll, St24.rr, ok3, h60, hd1, hd8, hle, fun sl H25 n25 s25 h25 => ?_⟩
          have St25 := St24.same s25
          obtain ⟨o, ho⟩ : ∃ o, seekO c es pos d24 = o := ⟨_, rfl⟩
          rw [ho] at h25
          have few := St25.w.few
          have nsb : sl ≠ bk := (ne_of_none St24.bb n25).symm
          wtm_at "wp"
          refine for_fin (fin_list (xs := o.toList.map nV)) (fun m σ H' => ∃ v11 : Option V, σ = [some (.ref a), u1, some (.ref p), some (.ref l), some (.int c), some (.ref r9), some (.int pos), some (.ref bk), some (.int (0 + (j : Int))), v9, some (.int d24), v11] ∧ Stand TT H0' N C_Block C_Walker H' p l r9 kp dd bk (2000 + 20 * j + 11 + 1) xs ls c es pos ks1 (if m = 0 then ks1 else addO ks1 o) ∧ H' sl = some (.lst (o.toList.map nV))) ⟨_, rfl, St25, h25⟩ (fun m σ H' _ h => by obtain ⟨_, _, _, h⟩ := h; exact .of h) ?_ ?_
          · rintro m z σ H26 H26' hm ⟨v11, rfl, St26, g26⟩ ⟨rfl, hz⟩
            cases o with
            | none => simp at hm
            | some w =>
              have em : m = 0 := by simpa using hm
              subst em
              rw [if_pos rfl] at St26
              cases hz
              wtm_at "wp"
              refine w_dput (n := w) St26.bb (by rw [List.length_map]; omega) (fun H27 k27 h27 => ?_)
              rw [putK_bk] at h27
              exact ⟨_, rfl, St26.book k27 h27, k27 _ _ g26 nsb⟩
          · rintro σ H26 ⟨v11, rfl, St26, g26⟩
            have St26' : Stand TT H0' N C_Block C_Walker H26 p l r9 kp dd bk (2000 + 20 * j + 11 + 1) xs ls c es pos ks1 (addO ks1 o) := by
              cases o with
              | none => exact St26
              | some w => exact St26
            clear St26 g26
            obtain ⟨dr26, hr26⟩ := St26'.w.raw.obj
            wtm_at "wp"
            refine ⟨l, xs, es, pos, d24, rfl, St26'.ll, St26'.rr, hle, ?_⟩
            wtm_at "wp"
            refine ⟨N, _, r9, kp, dd, c, ls, es, pos, ks1, d24, rfl, St26'.w, fun H27 kw27 W27 => ?_⟩
            have St27 := St26'.walk kw27 W27
            have hl27 := St27.w.le
            wtm_at "wp"
            refine ⟨l, xs, es, _, rfl, St27.ll, St27.rr, h60, hl27, fun H28 s28 => ?_⟩
            refine w_neG (d := slotD' es (seekP es pos d24)) (n := 0) (rp_slot _ _).dp (rp_slot _ _).dp (good_slot _ _) (by decide) ?_
            have St28 := St27.same s28
            rw [ho] at St28
            have hl28 := St28.ll
            have few2 := St28.w.few
            wtm_at "wp"
            rw [hxl]
            refine w_dec (fun g => ?_) (fun g => ?_)
            · have hlt : seekP es pos d24 < es.length := by omega
              obtain ⟨y, hy⟩ : ∃ y, xs[seekP es pos d24]? = some y := ⟨_, List.getElem?_eq_getElem (by omega)⟩
              obtain ⟨xa, xb, en, he, rfl, hxa, hxb⟩ := ents_at St28.rr hy
              wtm_at "wp"
              all_goals first | exact fdivC hd1 hd8 | skip
              rw [fdiv_nat hd1]
              wtm_at "wp"
              refine w_dput (n := seekP es pos d24 / c) St28.bb (by rw [List.length_map]; omega) (fun H29 k29 h29 => ?_)
              rw [putK_bk] at h29
              have St29 := St28.book k29 h29
              obtain ⟨dr29, hr29⟩ := St29.w.raw.obj
              wtm_at "wp"
              refine ⟨N, _, r9, kp, dd, c, ls, es, seekP es pos d24, _, en, rfl, St29.w, he, fun y H30 kw30 W30 hy30 => ?_⟩
              have St30 := St29.walk kw30 W30
              have hl30 := St30.ll
              obtain ⟨xa', xb', en', he', exa, hxa', hxb'⟩ := ents_at St30.rr hy
              rw [he] at he'
              cases he'
              cases exa
              wtm_at "wp"
              refine w_ixL (.of hl30) (atI_nat hy) ?_
              wtm_at "wp"
              refine w_neG (d := .tuple (en.2.map nD)) (n := 2) (Rp.tup hy30 (rp_nats16 _)).dp (Rp.tup hxb' (rp_nats16 _)).dp ((good_tuple (n := 0) fun d hd => by
                obtain ⟨n, _, rfl⟩ := List.mem_map.mp hd
                exact good_int).mono (by decide)) (by decide) ?_
              wtm_at "wp"
              exact ⟨seekP es pos d24, addK (addO ks1 o) (seekP es pos d24 / c), _, _, _, _, _, rfl, ⟨St30.g, St30.pp.mono (.refl _) (by omega), St30.ll, St30.rr, St30.w, St30.nt, St30.bb, St30.h0, St30.ne⟩⟩
            · wtm_at "wp"
              exact ⟨seekP es pos d24, addO ks1 o, _, _, _, _, _, rfl, ⟨St28.g, St28.pp.mono (.refl _) (by omega), St28.ll, St28.rr, St28.w, St28.nt, St28.bb, St28.h0, St28.ne⟩⟩
      · rintro σ H12 ⟨pos, ks, u1, u8, u9, u10, u11, rfl, St⟩
        exact ⟨_, _, _, _, _, _, _, _, _, _, _, rfl, g0.trans St.g⟩
    · rintro σ H1 ⟨v1, v2, v3, v4, v5, v6, v7, v8, v9, v10, v11, rfl, g0⟩
      wtm_at "wp"
      exact k _
end
end K16

namespace K16
section
variable {P : Program} {w : World} {K : PySem.W.Frag} {mg : Str → Option Value} {base : Heap} {Z : Zs} {C_CodeReader C_Block C_Row C_Walker : Addr}
theorem fnok_cx {k : Nat} {f : Addr} {fd : FuncData} {ps : List Str} {sp : Sp} (F : FnOk P w K mg base (CXc P w) k f fd ps sp) : FnOk P w K mg base (L2.CX P w) k f fd ps sp :=
  ⟨F.len, fun A outer s H args us vs Q E hr e0 hb r h => codeAny_mono (F.run A outer s H args us vs Q E hr e0 hb r h) fun r s' h => by
    cases r with
    | error e => exact CXc.cx h
    | ok fl => cases fl <;> exact h⟩
theorem ok_wkgl {f : Addr} {fd : FuncData} (F : Fun K "glance" "Walker.glance" s_Walker_glance f fd) (T : Txt K mg Z C_CodeReader C_Block C_Row C_Walker) (x0_NoRow : Xcl P w K mg base "NoRow" Z.NoRow 1 "at" [.non]) (x1_NoRow : Xcl P w K mg base "NoRow" Z.NoRow 1 "at" []) (f_is_whole : Fn P w K mg base "is_whole" 1 ["thing"] spWhole) (me_Walker_seek : Me P w K mg base C_Walker "seek" 11 ["self", "slot"] (spWkK C_Block C_Walker)) : FnOk P w K mg base (L2.CX P w) 12 f fd ["self", "slots"] (spWkGX K Z C_Block C_Walker) := fnok_cx (ok_wkgx F T x0_NoRow x1_NoRow f_is_whole me_Walker_seek)
end
theorem all_mk {l : PySem.W.OpenLaw} {w : World} {K : PySem.W.Frag} {h : Heap} {mg : Str → Option Value} {fa : Addr} (X : K.In h) (G : h.Ns mainGlobals mg) (hfa : mg "law" = some (.ref fa))
    {C_Wrong : Addr}
    {C_NoWord : Addr}
    {C_NoText : Addr}
    {C_NoNumber : Addr}
    {C_NoSize : Addr}
    {C_NoLengths : Addr}
    {C_NoQuery : Addr}
    {C_NoCode : Addr}
    {C_NoRow : Addr}
    {C_NoEntries : Addr}
    {C_NoQueryText : Addr}
    {C_NoPages : Addr}
    {C_NoName : Addr}
    {C_NoQueries : Addr}
    {C_NoShelf : Addr}
    {C_NoDeed : Addr}
    {C_Taken : Addr}
    {C_NoPlace : Addr}
    {C_NoSlot : Addr}
    {tc_LETTERS : Tok}
    {tc_LONGEST : Tok}
    {tc_MOST : Tok}
    {tc_ENDS : Tok}
    {tc_FURTHER : Tok}
    {tc_BASE : Tok}
    {tc_SIZE : Tok}
    {tc_GREATEST : Tok}
    {tc_MOST_PAGES : Tok}
    {fi_NoEntries Td_NoEntries : Addr} {od_NoEntries an_NoEntries odT_NoEntries : Option Addr} {sl_NoEntries slT_NoEntries : Array (Option Value)} {oc_NoEntries ocT_NoEntries kV_NoEntries dc_NoEntries pm_NoEntries ct_NoEntries cd_NoEntries : Value} {nT_NoEntries : Nat}
    {fi_NoCode Td_NoCode : Addr} {od_NoCode an_NoCode odT_NoCode : Option Addr} {sl_NoCode slT_NoCode : Array (Option Value)} {oc_NoCode ocT_NoCode kV_NoCode dc_NoCode pm_NoCode ct_NoCode cd_NoCode : Value} {nT_NoCode : Nat}
    {fi_NoRow Td_NoRow : Addr} {od_NoRow an_NoRow odT_NoRow : Option Addr} {sl_NoRow slT_NoRow : Array (Option Value)} {oc_NoRow ocT_NoRow kV_NoRow dc_NoRow pm_NoRow ct_NoRow cd_NoRow : Value} {nT_NoRow : Nat}
    {C_CodeReader : Addr}
    {C_Block : Addr}
    {C_Row : Addr}
    {C_Walker : Addr}
    {f_law_kind : Addr} {od_law_kind an_law_kind : Option Addr} {sl_law_kind : Array (Option Value)} {oc_law_kind kV_law_kind dc_law_kind pm_law_kind ct_law_kind : Value} {cd_law_kind : Value}
    {f_law_how : Addr} {od_law_how an_law_how : Option Addr} {sl_law_how : Array (Option Value)} {oc_law_how kV_law_how dc_law_how pm_law_how ct_law_how : Value} {cd_law_how : Value}
    {f_is_whole : Addr} {od_is_whole an_is_whole : Option Addr} {sl_is_whole : Array (Option Value)} {oc_is_whole kV_is_whole dc_is_whole pm_is_whole ct_is_whole : Value} {cd_is_whole : Value}
    {f_is_word : Addr} {od_is_word an_is_word : Option Addr} {sl_is_word : Array (Option Value)} {oc_is_word kV_is_word dc_is_word pm_is_word ct_is_word : Value} {cd_is_word : Value}
    {f_look_word : Addr} {od_look_word an_look_word : Option Addr} {sl_look_word : Array (Option Value)} {oc_look_word kV_look_word dc_look_word pm_look_word ct_look_word : Value} {cd_look_word : Value}
    {f_is_count : Addr} {od_is_count an_is_count : Option Addr} {sl_is_count : Array (Option Value)} {oc_is_count kV_is_count dc_is_count pm_is_count ct_is_count : Value} {cd_is_count : Value}
    {f_code : Addr} {od_code an_code : Option Addr} {sl_code : Array (Option Value)} {oc_code kV_code dc_code pm_code ct_code : Value} {cd_code : Value}
    {f_joined_codes : Addr} {od_joined_codes an_joined_codes : Option Addr} {sl_joined_codes : Array (Option Value)} {oc_joined_codes kV_joined_codes dc_joined_codes pm_joined_codes ct_joined_codes : Value} {cd_joined_codes : Value}
    {f_CodeReader___init__ : Addr} {od_CodeReader___init__ an_CodeReader___init__ : Option Addr} {sl_CodeReader___init__ : Array (Option Value)} {oc_CodeReader___init__ kV_CodeReader___init__ dc_CodeReader___init__ pm_CodeReader___init__ ct_CodeReader___init__ cd_CodeReader___init__ : Value}
    {f_CodeReader_is_done : Addr} {od_CodeReader_is_done an_CodeReader_is_done : Option Addr} {sl_CodeReader_is_done : Array (Option Value)} {oc_CodeReader_is_done kV_CodeReader_is_done dc_CodeReader_is_done pm_CodeReader_is_done ct_CodeReader_is_done cd_CodeReader_is_done : Value}
    {f_CodeReader_next_number : Addr} {od_CodeReader_next_number an_CodeReader_next_number : Option Addr} {sl_CodeReader_next_number : Array (Option Value)} {oc_CodeReader_next_number kV_CodeReader_next_number dc_CodeReader_next_number pm_CodeReader_next_number ct_CodeReader_next_number cd_CodeReader_next_number : Value}
    {f_CodeReader_rising : Addr} {od_CodeReader_rising an_CodeReader_rising : Option Addr} {sl_CodeReader_rising : Array (Option Value)} {oc_CodeReader_rising kV_CodeReader_rising dc_CodeReader_rising pm_CodeReader_rising ct_CodeReader_rising cd_CodeReader_rising : Value}
    {f_gaps : Addr} {od_gaps an_gaps : Option Addr} {sl_gaps : Array (Option Value)} {oc_gaps kV_gaps dc_gaps pm_gaps ct_gaps : Value} {cd_gaps : Value}
    {f_is_rising : Addr} {od_is_rising an_is_rising : Option Addr} {sl_is_rising : Array (Option Value)} {oc_is_rising kV_is_rising dc_is_rising pm_is_rising ct_is_rising : Value} {cd_is_rising : Value}
    {f_is_entry : Addr} {od_is_entry an_is_entry : Option Addr} {sl_is_entry : Array (Option Value)} {oc_is_entry kV_is_entry dc_is_entry pm_is_entry ct_is_entry : Value} {cd_is_entry : Value}
    {f_look_entries : Addr} {od_look_entries an_look_entries : Option Addr} {sl_look_entries : Array (Option Value)} {oc_look_entries kV_look_entries dc_look_entries pm_look_entries ct_look_entries : Value} {cd_look_entries : Value}
    {f_code_entries : Addr} {od_code_entries an_code_entries : Option Addr} {sl_code_entries : Array (Option Value)} {oc_code_entries kV_code_entries dc_code_entries pm_code_entries ct_code_entries : Value} {cd_code_entries : Value}
    {f_decode_entries : Addr} {od_decode_entries an_decode_entries : Option Addr} {sl_decode_entries : Array (Option Value)} {oc_decode_entries kV_decode_entries dc_decode_entries pm_decode_entries ct_decode_entries : Value} {cd_decode_entries : Value}
    {f_Block___init__ : Addr} {od_Block___init__ an_Block___init__ : Option Addr} {sl_Block___init__ : Array (Option Value)} {oc_Block___init__ kV_Block___init__ dc_Block___init__ pm_Block___init__ ct_Block___init__ cd_Block___init__ : Value}
    {f_Block_entries : Addr} {od_Block_entries an_Block_entries : Option Addr} {sl_Block_entries : Array (Option Value)} {oc_Block_entries kV_Block_entries dc_Block_entries pm_Block_entries ct_Block_entries cd_Block_entries : Value}
    {f_look_size : Addr} {od_look_size an_look_size : Option Addr} {sl_look_size : Array (Option Value)} {oc_look_size kV_look_size dc_look_size pm_look_size ct_look_size : Value} {cd_look_size : Value}
    {f_look_lengths : Addr} {od_look_lengths an_look_lengths : Option Addr} {sl_look_lengths : Array (Option Value)} {oc_look_lengths kV_look_lengths dc_look_lengths pm_look_lengths ct_look_lengths : Value} {cd_look_lengths : Value}
    {f_look_fit : Addr} {od_look_fit an_look_fit : Option Addr} {sl_look_fit : Array (Option Value)} {oc_look_fit kV_look_fit dc_look_fit pm_look_fit ct_look_fit : Value} {cd_look_fit : Value}
    {f_Row___init__ : Addr} {od_Row___init__ an_Row___init__ : Option Addr} {sl_Row___init__ : Array (Option Value)} {oc_Row___init__  dc_Row___init__ pm_Row___init__ ct_Row___init__ cd_Row___init__ : Value}
    {Dk_Row___init__ : Addr} {tkw_Row___init___size : Tok}
    {f_Row_blocks : Addr} {od_Row_blocks an_Row_blocks : Option Addr} {sl_Row_blocks : Array (Option Value)} {oc_Row_blocks kV_Row_blocks dc_Row_blocks pm_Row_blocks ct_Row_blocks cd_Row_blocks : Value}
    {f_look_slot : Addr} {od_look_slot an_look_slot : Option Addr} {sl_look_slot : Array (Option Value)} {oc_look_slot kV_look_slot dc_look_slot pm_look_slot ct_look_slot : Value} {cd_look_slot : Value}
    {f_Walker___init__ : Addr} {od_Walker___init__ an_Walker___init__ : Option Addr} {sl_Walker___init__ : Array (Option Value)} {oc_Walker___init__ kV_Walker___init__ dc_Walker___init__ pm_Walker___init__ ct_Walker___init__ cd_Walker___init__ : Value}
    {f_Walker_is_done : Addr} {od_Walker_is_done an_Walker_is_done : Option Addr} {sl_Walker_is_done : Array (Option Value)} {oc_Walker_is_done kV_Walker_is_done dc_Walker_is_done pm_Walker_is_done ct_Walker_is_done cd_Walker_is_done : Value}
    {f_Walker_entry : Addr} {od_Walker_entry an_Walker_entry : Option Addr} {sl_Walker_entry : Array (Option Value)} {oc_Walker_entry kV_Walker_entry dc_Walker_entry pm_Walker_entry ct_Walker_entry cd_Walker_entry : Value}
    {f_Walker_slot : Addr} {od_Walker_slot an_Walker_slot : Option Addr} {sl_Walker_slot : Array (Option Value)} {oc_Walker_slot kV_Walker_slot dc_Walker_slot pm_Walker_slot ct_Walker_slot cd_Walker_slot : Value}
    {f_Walker_next_block : Addr} {od_Walker_next_block an_Walker_next_block : Option Addr} {sl_Walker_next_block : Array (Option Value)} {oc_Walker_next_block kV_Walker_next_block dc_Walker_next_block pm_Walker_next_block ct_Walker_next_block cd_Walker_next_block : Value}
    {f_Walker_seek : Addr} {od_Walker_seek an_Walker_seek : Option Addr} {sl_Walker_seek : Array (Option Value)} {oc_Walker_seek kV_Walker_seek dc_Walker_seek pm_Walker_seek ct_Walker_seek cd_Walker_seek : Value}
    {f_Walker_opened : Addr} {od_Walker_opened an_Walker_opened : Option Addr} {sl_Walker_opened : Array (Option Value)} {oc_Walker_opened kV_Walker_opened dc_Walker_opened pm_Walker_opened ct_Walker_opened cd_Walker_opened : Value}
    {f_Walker_block : Addr} {od_Walker_block an_Walker_block : Option Addr} {sl_Walker_block : Array (Option Value)} {oc_Walker_block kV_Walker_block dc_Walker_block pm_Walker_block ct_Walker_block cd_Walker_block : Value}
    {f_Walker_places : Addr} {od_Walker_places an_Walker_places : Option Addr} {sl_Walker_places : Array (Option Value)} {oc_Walker_places kV_Walker_places dc_Walker_places pm_Walker_places ct_Walker_places cd_Walker_places : Value}
    {f_Walker_glance : Addr} {od_Walker_glance an_Walker_glance : Option Addr} {sl_Walker_glance : Array (Option Value)} {oc_Walker_glance kV_Walker_glance dc_Walker_glance pm_Walker_glance ct_Walker_glance cd_Walker_glance : Value}
    {f_law_pool : Addr} {od_law_pool an_law_pool : Option Addr} {sl_law_pool : Array (Option Value)} {oc_law_pool kV_law_pool dc_law_pool pm_law_pool ct_law_pool : Value} {cd_law_pool : Value}
    {f_law_take : Addr} {od_law_take an_law_take : Option Addr} {sl_law_take : Array (Option Value)} {oc_law_take kV_law_take dc_law_take pm_law_take ct_law_take : Value} {cd_law_take : Value}
    {f_law_kinds : Addr} {od_law_kinds an_law_kinds : Option Addr} {sl_law_kinds : Array (Option Value)} {oc_law_kinds kV_law_kinds dc_law_kinds pm_law_kinds ct_law_kinds : Value} {cd_law_kinds : Value}
    {f_law_row_entries : Addr} {od_law_row_entries an_law_row_entries : Option Addr} {sl_law_row_entries : Array (Option Value)} {oc_law_row_entries kV_law_row_entries dc_law_row_entries pm_law_row_entries ct_law_row_entries : Value} {cd_law_row_entries : Value}
    {f_law_lengths : Addr} {od_law_lengths an_law_lengths : Option Addr} {sl_law_lengths : Array (Option Value)} {oc_law_lengths kV_law_lengths dc_law_lengths pm_law_lengths ct_law_lengths : Value} {cd_law_lengths : Value}
    {f_law_whole : Addr} {od_law_whole an_law_whole : Option Addr} {sl_law_whole : Array (Option Value)} {oc_law_whole kV_law_whole dc_law_whole pm_law_whole ct_law_whole : Value} {cd_law_whole : Value}
    {f_law_seek : Addr} {od_law_seek an_law_seek : Option Addr} {sl_law_seek : Array (Option Value)} {oc_law_seek kV_law_seek dc_law_seek pm_law_seek ct_law_seek : Value} {cd_law_seek : Value}
    {f_law_slot : Addr} {od_law_slot an_law_slot : Option Addr} {sl_law_slot : Array (Option Value)} {oc_law_slot kV_law_slot dc_law_slot pm_law_slot ct_law_slot : Value} {cd_law_slot : Value}
    {f_law_aims : Addr} {od_law_aims an_law_aims : Option Addr} {sl_law_aims : Array (Option Value)} {oc_law_aims kV_law_aims dc_law_aims pm_law_aims ct_law_aims : Value} {cd_law_aims : Value}
    {f_law_slots_opened : Addr} {od_law_slots_opened an_law_slots_opened : Option Addr} {sl_law_slots_opened : Array (Option Value)} {oc_law_slots_opened kV_law_slots_opened dc_law_slots_opened pm_law_slots_opened ct_law_slots_opened : Value} {cd_law_slots_opened : Value}
    {f_law_glanced : Addr} {od_law_glanced an_law_glanced : Option Addr} {sl_law_glanced : Array (Option Value)} {oc_law_glanced kV_law_glanced dc_law_glanced pm_law_glanced ct_law_glanced : Value} {cd_law_glanced : Value}
    {f_law_right : Addr} {od_law_right an_law_right : Option Addr} {sl_law_right : Array (Option Value)} {oc_law_right kV_law_right dc_law_right pm_law_right ct_law_right : Value} {c0_law_right P_law_right : Addr}
    {f_law : Addr} {od_law an_law : Option Addr} {sl_law : Array (Option Value)} {oc_law kV_law dc_law pm_law ct_law : Value} {c0_law P_law : Addr}
    (aC_Wrong : PySem.W.nsIn K mainGlobals "Wrong" = some (some (.ref C_Wrong)))
    (aC_NoWord : PySem.W.nsIn K mainGlobals "NoWord" = some (some (.ref C_NoWord)))
    (aC_NoText : PySem.W.nsIn K mainGlobals "NoText" = some (some (.ref C_NoText)))
    (aC_NoNumber : PySem.W.nsIn K mainGlobals "NoNumber" = some (some (.ref C_NoNumber)))
    (aC_NoSize : PySem.W.nsIn K mainGlobals "NoSize" = some (some (.ref C_NoSize)))
    (aC_NoLengths : PySem.W.nsIn K mainGlobals "NoLengths" = some (some (.ref C_NoLengths)))
    (aC_NoQuery : PySem.W.nsIn K mainGlobals "NoQuery" = some (some (.ref C_NoQuery)))
    (aC_NoCode : PySem.W.nsIn K mainGlobals "NoCode" = some (some (.ref C_NoCode)))
    (aC_NoRow : PySem.W.nsIn K mainGlobals "NoRow" = some (some (.ref C_NoRow)))
    (aC_NoEntries : PySem.W.nsIn K mainGlobals "NoEntries" = some (some (.ref C_NoEntries)))
    (aC_NoQueryText : PySem.W.nsIn K mainGlobals "NoQueryText" = some (some (.ref C_NoQueryText)))
    (aC_NoPages : PySem.W.nsIn K mainGlobals "NoPages" = some (some (.ref C_NoPages)))
    (aC_NoName : PySem.W.nsIn K mainGlobals "NoName" = some (some (.ref C_NoName)))
    (aC_NoQueries : PySem.W.nsIn K mainGlobals "NoQueries" = some (some (.ref C_NoQueries)))
    (aC_NoShelf : PySem.W.nsIn K mainGlobals "NoShelf" = some (some (.ref C_NoShelf)))
    (aC_NoDeed : PySem.W.nsIn K mainGlobals "NoDeed" = some (some (.ref C_NoDeed)))
    (aC_Taken : PySem.W.nsIn K mainGlobals "Taken" = some (some (.ref C_Taken)))
    (aC_NoPlace : PySem.W.nsIn K mainGlobals "NoPlace" = some (some (.ref C_NoPlace)))
    (aC_NoSlot : PySem.W.nsIn K mainGlobals "NoSlot" = some (some (.ref C_NoSlot)))
    (g_LETTERS : PySem.W.nsIn K mainGlobals "LETTERS" = some (some (.str "abcdefghijklmnopqrstuvwxyz" tc_LETTERS)))
    (g_LONGEST : PySem.W.nsIn K mainGlobals "LONGEST" = some (some (.int 12 tc_LONGEST)))
    (g_MOST : PySem.W.nsIn K mainGlobals "MOST" = some (some (.int 120 tc_MOST)))
    (g_ENDS : PySem.W.nsIn K mainGlobals "ENDS" = some (some (.str "abcdefghijklmnop" tc_ENDS)))
    (g_FURTHER : PySem.W.nsIn K mainGlobals "FURTHER" = some (some (.str "ABCDEFGHIJKLMNOP" tc_FURTHER)))
    (g_BASE : PySem.W.nsIn K mainGlobals "BASE" = some (some (.int 16 tc_BASE)))
    (g_SIZE : PySem.W.nsIn K mainGlobals "SIZE" = some (some (.int 4 tc_SIZE)))
    (g_GREATEST : PySem.W.nsIn K mainGlobals "GREATEST" = some (some (.int 8 tc_GREATEST)))
    (g_MOST_PAGES : PySem.W.nsIn K mainGlobals "MOST_PAGES" = some (some (.int 60 tc_MOST_PAGES)))
    (z_isinstance : PySem.W.nsIn K mainGlobals "isinstance" = some none)
    (z_bool : PySem.W.nsIn K mainGlobals "bool" = some none)
    (z_int : PySem.W.nsIn K mainGlobals "int" = some none)
    (z_str : PySem.W.nsIn K mainGlobals "str" = some none)
    (z_list : PySem.W.nsIn K mainGlobals "list" = some none)
    (z_tuple : PySem.W.nsIn K mainGlobals "tuple" = some none)
    (z_len : PySem.W.nsIn K mainGlobals "len" = some none)
    (z_all : PySem.W.nsIn K mainGlobals "all" = some none)
    (z_max : PySem.W.nsIn K mainGlobals "max" = some none)
    (z_min : PySem.W.nsIn K mainGlobals "min" = some none)
    (z_range : PySem.W.nsIn K mainGlobals "range" = some none)
    (z_abs : PySem.W.nsIn K mainGlobals "abs" = some none)
    (z_enumerate : PySem.W.nsIn K mainGlobals "enumerate" = some none)
    (z_divmod : PySem.W.nsIn K mainGlobals "divmod" = some none)
    (z_zip : PySem.W.nsIn K mainGlobals "zip" = some none)
    (z_ValueError : PySem.W.nsIn K mainGlobals "ValueError" = some none)
    (z_IndexError : PySem.W.nsIn K mainGlobals "IndexError" = some none)
    (q_NoNumber : PySem.W.excIn K C_NoNumber PySem.HandSPX.veTail "ValueError.__new__" = true)
    (kp_NoNumber : PySem.W.keepIn K (.ref C_NoNumber) = true)
    (e1_NoNumber : PySem.W.subIn K (.ref C_NoNumber) (.type "BaseException") = some true)
    (e2_NoNumber : PySem.W.typeIn K (.ref C_NoNumber) = some (.type "type"))
    (oex_NoEntries : OexC K C_NoEntries)
    (no_NoEntries : PySem.W.findIn K (.ref C_NoEntries) "at" = some none)
    (i_NoEntries : PySem.W.findIn K (.ref C_NoEntries) "__init__" = some (some (.ref fi_NoEntries)))
    (ti_NoEntries : PySem.W.typeIn K (.ref fi_NoEntries) = some (.type "function"))
    (l_NoEntries : K.lookup fi_NoEntries = some ⟨oc_NoEntries, od_NoEntries, .func (PySem.W.fnOf "__init__" "NoEntries.__init__" (defArgs s_NoEntries___init__) (defBody s_NoEntries___init__) (defScope s_NoEntries___init__) (.ref Td_NoEntries) kV_NoEntries dc_NoEntries pm_NoEntries an_NoEntries cd_NoEntries ct_NoEntries), sl_NoEntries⟩)
    (c_NoEntries : PySem.W.codeIn K cd_NoEntries "NoEntries.__init__" = true)
    (k_NoEntries : PySem.W.keepIn K (.ref fi_NoEntries) = true)
    (lT_NoEntries : K.lookup Td_NoEntries = some ⟨ocT_NoEntries, odT_NoEntries, .seq (List.toArray [.none]) nT_NoEntries, slT_NoEntries⟩)
    (oex_NoCode : OexC K C_NoCode)
    (no_NoCode : PySem.W.findIn K (.ref C_NoCode) "at" = some none)
    (i_NoCode : PySem.W.findIn K (.ref C_NoCode) "__init__" = some (some (.ref fi_NoCode)))
    (ti_NoCode : PySem.W.typeIn K (.ref fi_NoCode) = some (.type "function"))
    (l_NoCode : K.lookup fi_NoCode = some ⟨oc_NoCode, od_NoCode, .func (PySem.W.fnOf "__init__" "NoCode.__init__" (defArgs s_NoCode___init__) (defBody s_NoCode___init__) (defScope s_NoCode___init__) (.ref Td_NoCode) kV_NoCode dc_NoCode pm_NoCode an_NoCode cd_NoCode ct_NoCode), sl_NoCode⟩)
    (c_NoCode : PySem.W.codeIn K cd_NoCode "NoCode.__init__" = true)
    (k_NoCode : PySem.W.keepIn K (.ref fi_NoCode) = true)
    (lT_NoCode : K.lookup Td_NoCode = some ⟨ocT_NoCode, odT_NoCode, .seq (List.toArray [.none]) nT_NoCode, slT_NoCode⟩)
    (oex_NoRow : OexC K C_NoRow)
    (no_NoRow : PySem.W.findIn K (.ref C_NoRow) "at" = some none)
    (i_NoRow : PySem.W.findIn K (.ref C_NoRow) "__init__" = some (some (.ref fi_NoRow)))
    (ti_NoRow : PySem.W.typeIn K (.ref fi_NoRow) = some (.type "function"))
    (l_NoRow : K.lookup fi_NoRow = some ⟨oc_NoRow, od_NoRow, .func (PySem.W.fnOf "__init__" "NoRow.__init__" (defArgs s_NoRow___init__) (defBody s_NoRow___init__) (defScope s_NoRow___init__) (.ref Td_NoRow) kV_NoRow dc_NoRow pm_NoRow an_NoRow cd_NoRow ct_NoRow), sl_NoRow⟩)
    (c_NoRow : PySem.W.codeIn K cd_NoRow "NoRow.__init__" = true)
    (k_NoRow : PySem.W.keepIn K (.ref fi_NoRow) = true)
    (lT_NoRow : K.lookup Td_NoRow = some ⟨ocT_NoRow, odT_NoRow, .seq (List.toArray [.none]) nT_NoRow, slT_NoRow⟩)
    (h_NoRow : howAtB K (⟨C_Wrong, C_NoWord, C_NoText, C_NoNumber, C_NoSize, C_NoLengths, C_NoQuery, C_NoCode, C_NoRow, C_NoEntries, C_NoQueryText, C_NoPages, C_NoName, C_NoQueries, C_NoShelf, C_NoDeed, C_Taken, C_NoPlace, C_NoSlot⟩ : Zs) C_NoRow 10 = true)
    (ga_W : PySem.W.specialIn K (.ref C_Wrong) "__getattribute__" = some (some (.builtin "type.__getattribute__")))
    (rd_W : PySem.W.readsIn K C_Wrong (.type "type") = true)
    (iv_W : PySem.W.findCls K (.ref C_Wrong) (.type "type") "__init__" = some (.val (.builtin "ValueError.__init__")))
    (aC_CodeReader : PySem.W.nsIn K mainGlobals "CodeReader" = some (some (.ref C_CodeReader)))
    (pg_CodeReader : PySem.W.plainGet K C_CodeReader Str.empty = true)
    (hd_CodeReader : PySem.W.hasDictIn K C_CodeReader = true)
    (po_CodeReader : PySem.W.plainOver K C_CodeReader = true)
    (sa_CodeReader : PySem.W.findIn K (.ref C_CodeReader) "__setattr__" = some (some (.builtin "object.__setattr__")))
    (na_CodeReader_text : PySem.W.findIn K (.ref C_CodeReader) "text" = some none)
    (na_CodeReader_at : PySem.W.findIn K (.ref C_CodeReader) "at" = some none)
    (aC_Block : PySem.W.nsIn K mainGlobals "Block" = some (some (.ref C_Block)))
    (pg_Block : PySem.W.plainGet K C_Block Str.empty = true)
    (hd_Block : PySem.W.hasDictIn K C_Block = true)
    (po_Block : PySem.W.plainOver K C_Block = true)
    (sa_Block : PySem.W.findIn K (.ref C_Block) "__setattr__" = some (some (.builtin "object.__setattr__")))
    (na_Block_first : PySem.W.findIn K (.ref C_Block) "first" = some none)
    (na_Block_last : PySem.W.findIn K (.ref C_Block) "last" = some none)
    (na_Block_many : PySem.W.findIn K (.ref C_Block) "many" = some none)
    (na_Block_most : PySem.W.findIn K (.ref C_Block) "most" = some none)
    (na_Block_least : PySem.W.findIn K (.ref C_Block) "least" = some none)
    (na_Block_coded : PySem.W.findIn K (.ref C_Block) "coded" = some none)
    (na_Block_counts : PySem.W.findIn K (.ref C_Block) "counts" = some none)
    (aC_Row : PySem.W.nsIn K mainGlobals "Row" = some (some (.ref C_Row)))
    (pg_Row : PySem.W.plainGet K C_Row Str.empty = true)
    (hd_Row : PySem.W.hasDictIn K C_Row = true)
    (po_Row : PySem.W.plainOver K C_Row = true)
    (sa_Row : PySem.W.findIn K (.ref C_Row) "__setattr__" = some (some (.builtin "object.__setattr__")))
    (na_Row_word : PySem.W.findIn K (.ref C_Row) "word" = some none)
    (na_Row_size : PySem.W.findIn K (.ref C_Row) "size" = some none)
    (na_Row_kept : PySem.W.findIn K (.ref C_Row) "kept" = some none)
    (aC_Walker : PySem.W.nsIn K mainGlobals "Walker" = some (some (.ref C_Walker)))
    (pg_Walker : PySem.W.plainGet K C_Walker Str.empty = true)
    (hd_Walker : PySem.W.hasDictIn K C_Walker = true)
    (po_Walker : PySem.W.plainOver K C_Walker = true)
    (sa_Walker : PySem.W.findIn K (.ref C_Walker) "__setattr__" = some (some (.builtin "object.__setattr__")))
    (na_Walker_kept : PySem.W.findIn K (.ref C_Walker) "kept" = some none)
    (na_Walker_at_block : PySem.W.findIn K (.ref C_Walker) "at_block" = some none)
    (na_Walker_at_entry : PySem.W.findIn K (.ref C_Walker) "at_entry" = some none)
    (na_Walker_decoded : PySem.W.findIn K (.ref C_Walker) "decoded" = some none)
    (a_law_kind : PySem.W.nsIn K mainGlobals "_law_kind" = some (some (.ref f_law_kind)))
    (l_law_kind : K.lookup f_law_kind = some ⟨oc_law_kind, od_law_kind, .func (PySem.W.fnOf "_law_kind" "_law_kind" (defArgs s_law_kind) (defBody s_law_kind) (defScope s_law_kind) .none kV_law_kind dc_law_kind pm_law_kind an_law_kind cd_law_kind ct_law_kind), sl_law_kind⟩)
    (c_law_kind : PySem.W.codeIn K cd_law_kind "_law_kind" = true)
    (k_law_kind : PySem.W.keepIn K (.ref f_law_kind) = true)
    (a_law_how : PySem.W.nsIn K mainGlobals "_law_how" = some (some (.ref f_law_how)))
    (l_law_how : K.lookup f_law_how = some ⟨oc_law_how, od_law_how, .func (PySem.W.fnOf "_law_how" "_law_how" (defArgs s_law_how) (defBody s_law_how) (defScope s_law_how) .none kV_law_how dc_law_how pm_law_how an_law_how cd_law_how ct_law_how), sl_law_how⟩)
    (c_law_how : PySem.W.codeIn K cd_law_how "_law_how" = true)
    (k_law_how : PySem.W.keepIn K (.ref f_law_how) = true)
    (a_is_whole : PySem.W.nsIn K mainGlobals "is_whole" = some (some (.ref f_is_whole)))
    (l_is_whole : K.lookup f_is_whole = some ⟨oc_is_whole, od_is_whole, .func (PySem.W.fnOf "is_whole" "is_whole" (defArgs s_is_whole) (defBody s_is_whole) (defScope s_is_whole) .none kV_is_whole dc_is_whole pm_is_whole an_is_whole cd_is_whole ct_is_whole), sl_is_whole⟩)
    (c_is_whole : PySem.W.codeIn K cd_is_whole "is_whole" = true)
    (k_is_whole : PySem.W.keepIn K (.ref f_is_whole) = true)
    (a_is_word : PySem.W.nsIn K mainGlobals "is_word" = some (some (.ref f_is_word)))
    (l_is_word : K.lookup f_is_word = some ⟨oc_is_word, od_is_word, .func (PySem.W.fnOf "is_word" "is_word" (defArgs s_is_word) (defBody s_is_word) (defScope s_is_word) .none kV_is_word dc_is_word pm_is_word an_is_word cd_is_word ct_is_word), sl_is_word⟩)
    (c_is_word : PySem.W.codeIn K cd_is_word "is_word" = true)
    (k_is_word : PySem.W.keepIn K (.ref f_is_word) = true)
    (a_look_word : PySem.W.nsIn K mainGlobals "look_word" = some (some (.ref f_look_word)))
    (l_look_word : K.lookup f_look_word = some ⟨oc_look_word, od_look_word, .func (PySem.W.fnOf "look_word" "look_word" (defArgs s_look_word) (defBody s_look_word) (defScope s_look_word) .none kV_look_word dc_look_word pm_look_word an_look_word cd_look_word ct_look_word), sl_look_word⟩)
    (c_look_word : PySem.W.codeIn K cd_look_word "look_word" = true)
    (k_look_word : PySem.W.keepIn K (.ref f_look_word) = true)
    (a_is_count : PySem.W.nsIn K mainGlobals "is_count" = some (some (.ref f_is_count)))
    (l_is_count : K.lookup f_is_count = some ⟨oc_is_count, od_is_count, .func (PySem.W.fnOf "is_count" "is_count" (defArgs s_is_count) (defBody s_is_count) (defScope s_is_count) .none kV_is_count dc_is_count pm_is_count an_is_count cd_is_count ct_is_count), sl_is_count⟩)
    (c_is_count : PySem.W.codeIn K cd_is_count "is_count" = true)
    (k_is_count : PySem.W.keepIn K (.ref f_is_count) = true)
    (a_code : PySem.W.nsIn K mainGlobals "code" = some (some (.ref f_code)))
    (l_code : K.lookup f_code = some ⟨oc_code, od_code, .func (PySem.W.fnOf "code" "code" (defArgs s_code) (defBody s_code) (defScope s_code) .none kV_code dc_code pm_code an_code cd_code ct_code), sl_code⟩)
    (c_code : PySem.W.codeIn K cd_code "code" = true)
    (k_code : PySem.W.keepIn K (.ref f_code) = true)
    (a_joined_codes : PySem.W.nsIn K mainGlobals "joined_codes" = some (some (.ref f_joined_codes)))
    (l_joined_codes : K.lookup f_joined_codes = some ⟨oc_joined_codes, od_joined_codes, .func (PySem.W.fnOf "joined_codes" "joined_codes" (defArgs s_joined_codes) (defBody s_joined_codes) (defScope s_joined_codes) .none kV_joined_codes dc_joined_codes pm_joined_codes an_joined_codes cd_joined_codes ct_joined_codes), sl_joined_codes⟩)
    (c_joined_codes : PySem.W.codeIn K cd_joined_codes "joined_codes" = true)
    (k_joined_codes : PySem.W.keepIn K (.ref f_joined_codes) = true)
    (a_CodeReader___init__ : PySem.W.findIn K (.ref C_CodeReader) "__init__" = some (some (.ref f_CodeReader___init__)))
    (i_CodeReader___init__ : PySem.W.isFn K (.ref f_CodeReader___init__) = true)
    (l_CodeReader___init__ : K.lookup f_CodeReader___init__ = some ⟨oc_CodeReader___init__, od_CodeReader___init__, .func (PySem.W.fnOf "__init__" "CodeReader.__init__" (defArgs s_CodeReader___init__) (defBody s_CodeReader___init__) (defScope s_CodeReader___init__) .none kV_CodeReader___init__ dc_CodeReader___init__ pm_CodeReader___init__ an_CodeReader___init__ cd_CodeReader___init__ ct_CodeReader___init__), sl_CodeReader___init__⟩)
    (c_CodeReader___init__ : PySem.W.codeIn K cd_CodeReader___init__ "CodeReader.__init__" = true)
    (k_CodeReader___init__ : PySem.W.keepIn K (.ref f_CodeReader___init__) = true)
    (mk_CodeReader : PySem.W.makesIn K C_CodeReader = true)
    (kc_CodeReader : PySem.W.keepIn K (.ref C_CodeReader) = true)
    (a_CodeReader_is_done : PySem.W.findIn K (.ref C_CodeReader) "is_done" = some (some (.ref f_CodeReader_is_done)))
    (i_CodeReader_is_done : PySem.W.isFn K (.ref f_CodeReader_is_done) = true)
    (l_CodeReader_is_done : K.lookup f_CodeReader_is_done = some ⟨oc_CodeReader_is_done, od_CodeReader_is_done, .func (PySem.W.fnOf "is_done" "CodeReader.is_done" (defArgs s_CodeReader_is_done) (defBody s_CodeReader_is_done) (defScope s_CodeReader_is_done) .none kV_CodeReader_is_done dc_CodeReader_is_done pm_CodeReader_is_done an_CodeReader_is_done cd_CodeReader_is_done ct_CodeReader_is_done), sl_CodeReader_is_done⟩)
    (c_CodeReader_is_done : PySem.W.codeIn K cd_CodeReader_is_done "CodeReader.is_done" = true)
    (k_CodeReader_is_done : PySem.W.keepIn K (.ref f_CodeReader_is_done) = true)
    (a_CodeReader_next_number : PySem.W.findIn K (.ref C_CodeReader) "next_number" = some (some (.ref f_CodeReader_next_number)))
    (i_CodeReader_next_number : PySem.W.isFn K (.ref f_CodeReader_next_number) = true)
    (l_CodeReader_next_number : K.lookup f_CodeReader_next_number = some ⟨oc_CodeReader_next_number, od_CodeReader_next_number, .func (PySem.W.fnOf "next_number" "CodeReader.next_number" (defArgs s_CodeReader_next_number) (defBody s_CodeReader_next_number) (defScope s_CodeReader_next_number) .none kV_CodeReader_next_number dc_CodeReader_next_number pm_CodeReader_next_number an_CodeReader_next_number cd_CodeReader_next_number ct_CodeReader_next_number), sl_CodeReader_next_number⟩)
    (c_CodeReader_next_number : PySem.W.codeIn K cd_CodeReader_next_number "CodeReader.next_number" = true)
    (k_CodeReader_next_number : PySem.W.keepIn K (.ref f_CodeReader_next_number) = true)
    (a_CodeReader_rising : PySem.W.findIn K (.ref C_CodeReader) "rising" = some (some (.ref f_CodeReader_rising)))
    (i_CodeReader_rising : PySem.W.isFn K (.ref f_CodeReader_rising) = true)
    (l_CodeReader_rising : K.lookup f_CodeReader_rising = some ⟨oc_CodeReader_rising, od_CodeReader_rising, .func (PySem.W.fnOf "rising" "CodeReader.rising" (defArgs s_CodeReader_rising) (defBody s_CodeReader_rising) (defScope s_CodeReader_rising) .none kV_CodeReader_rising dc_CodeReader_rising pm_CodeReader_rising an_CodeReader_rising cd_CodeReader_rising ct_CodeReader_rising), sl_CodeReader_rising⟩)
    (c_CodeReader_rising : PySem.W.codeIn K cd_CodeReader_rising "CodeReader.rising" = true)
    (k_CodeReader_rising : PySem.W.keepIn K (.ref f_CodeReader_rising) = true)
    (a_gaps : PySem.W.nsIn K mainGlobals "gaps" = some (some (.ref f_gaps)))
    (l_gaps : K.lookup f_gaps = some ⟨oc_gaps, od_gaps, .func (PySem.W.fnOf "gaps" "gaps" (defArgs s_gaps) (defBody s_gaps) (defScope s_gaps) .none kV_gaps dc_gaps pm_gaps an_gaps cd_gaps ct_gaps), sl_gaps⟩)
    (c_gaps : PySem.W.codeIn K cd_gaps "gaps" = true)
    (k_gaps : PySem.W.keepIn K (.ref f_gaps) = true)
    (a_is_rising : PySem.W.nsIn K mainGlobals "is_rising" = some (some (.ref f_is_rising)))
    (l_is_rising : K.lookup f_is_rising = some ⟨oc_is_rising, od_is_rising, .func (PySem.W.fnOf "is_rising" "is_rising" (defArgs s_is_rising) (defBody s_is_rising) (defScope s_is_rising) .none kV_is_rising dc_is_rising pm_is_rising an_is_rising cd_is_rising ct_is_rising), sl_is_rising⟩)
    (c_is_rising : PySem.W.codeIn K cd_is_rising "is_rising" = true)
    (k_is_rising : PySem.W.keepIn K (.ref f_is_rising) = true)
    (a_is_entry : PySem.W.nsIn K mainGlobals "is_entry" = some (some (.ref f_is_entry)))
    (l_is_entry : K.lookup f_is_entry = some ⟨oc_is_entry, od_is_entry, .func (PySem.W.fnOf "is_entry" "is_entry" (defArgs s_is_entry) (defBody s_is_entry) (defScope s_is_entry) .none kV_is_entry dc_is_entry pm_is_entry an_is_entry cd_is_entry ct_is_entry), sl_is_entry⟩)
    (c_is_entry : PySem.W.codeIn K cd_is_entry "is_entry" = true)
    (k_is_entry : PySem.W.keepIn K (.ref f_is_entry) = true)
    (a_look_entries : PySem.W.nsIn K mainGlobals "look_entries" = some (some (.ref f_look_entries)))
    (l_look_entries : K.lookup f_look_entries = some ⟨oc_look_entries, od_look_entries, .func (PySem.W.fnOf "look_entries" "look_entries" (defArgs s_look_entries) (defBody s_look_entries) (defScope s_look_entries) .none kV_look_entries dc_look_entries pm_look_entries an_look_entries cd_look_entries ct_look_entries), sl_look_entries⟩)
    (c_look_entries : PySem.W.codeIn K cd_look_entries "look_entries" = true)
    (k_look_entries : PySem.W.keepIn K (.ref f_look_entries) = true)
    (a_code_entries : PySem.W.nsIn K mainGlobals "code_entries" = some (some (.ref f_code_entries)))
    (l_code_entries : K.lookup f_code_entries = some ⟨oc_code_entries, od_code_entries, .func (PySem.W.fnOf "code_entries" "code_entries" (defArgs s_code_entries) (defBody s_code_entries) (defScope s_code_entries) .none kV_code_entries dc_code_entries pm_code_entries an_code_entries cd_code_entries ct_code_entries), sl_code_entries⟩)
    (c_code_entries : PySem.W.codeIn K cd_code_entries "code_entries" = true)
    (k_code_entries : PySem.W.keepIn K (.ref f_code_entries) = true)
    (a_decode_entries : PySem.W.nsIn K mainGlobals "decode_entries" = some (some (.ref f_decode_entries)))
    (l_decode_entries : K.lookup f_decode_entries = some ⟨oc_decode_entries, od_decode_entries, .func (PySem.W.fnOf "decode_entries" "decode_entries" (defArgs s_decode_entries) (defBody s_decode_entries) (defScope s_decode_entries) .none kV_decode_entries dc_decode_entries pm_decode_entries an_decode_entries cd_decode_entries ct_decode_entries), sl_decode_entries⟩)
    (c_decode_entries : PySem.W.codeIn K cd_decode_entries "decode_entries" = true)
    (k_decode_entries : PySem.W.keepIn K (.ref f_decode_entries) = true)
    (a_Block___init__ : PySem.W.findIn K (.ref C_Block) "__init__" = some (some (.ref f_Block___init__)))
    (i_Block___init__ : PySem.W.isFn K (.ref f_Block___init__) = true)
    (l_Block___init__ : K.lookup f_Block___init__ = some ⟨oc_Block___init__, od_Block___init__, .func (PySem.W.fnOf "__init__" "Block.__init__" (defArgs s_Block___init__) (defBody s_Block___init__) (defScope s_Block___init__) .none kV_Block___init__ dc_Block___init__ pm_Block___init__ an_Block___init__ cd_Block___init__ ct_Block___init__), sl_Block___init__⟩)
    (c_Block___init__ : PySem.W.codeIn K cd_Block___init__ "Block.__init__" = true)
    (k_Block___init__ : PySem.W.keepIn K (.ref f_Block___init__) = true)
    (mk_Block : PySem.W.makesIn K C_Block = true)
    (kc_Block : PySem.W.keepIn K (.ref C_Block) = true)
    (a_Block_entries : PySem.W.findIn K (.ref C_Block) "entries" = some (some (.ref f_Block_entries)))
    (i_Block_entries : PySem.W.isFn K (.ref f_Block_entries) = true)
    (l_Block_entries : K.lookup f_Block_entries = some ⟨oc_Block_entries, od_Block_entries, .func (PySem.W.fnOf "entries" "Block.entries" (defArgs s_Block_entries) (defBody s_Block_entries) (defScope s_Block_entries) .none kV_Block_entries dc_Block_entries pm_Block_entries an_Block_entries cd_Block_entries ct_Block_entries), sl_Block_entries⟩)
    (c_Block_entries : PySem.W.codeIn K cd_Block_entries "Block.entries" = true)
    (k_Block_entries : PySem.W.keepIn K (.ref f_Block_entries) = true)
    (a_look_size : PySem.W.nsIn K mainGlobals "look_size" = some (some (.ref f_look_size)))
    (l_look_size : K.lookup f_look_size = some ⟨oc_look_size, od_look_size, .func (PySem.W.fnOf "look_size" "look_size" (defArgs s_look_size) (defBody s_look_size) (defScope s_look_size) .none kV_look_size dc_look_size pm_look_size an_look_size cd_look_size ct_look_size), sl_look_size⟩)
    (c_look_size : PySem.W.codeIn K cd_look_size "look_size" = true)
    (k_look_size : PySem.W.keepIn K (.ref f_look_size) = true)
    (a_look_lengths : PySem.W.nsIn K mainGlobals "look_lengths" = some (some (.ref f_look_lengths)))
    (l_look_lengths : K.lookup f_look_lengths = some ⟨oc_look_lengths, od_look_lengths, .func (PySem.W.fnOf "look_lengths" "look_lengths" (defArgs s_look_lengths) (defBody s_look_lengths) (defScope s_look_lengths) .none kV_look_lengths dc_look_lengths pm_look_lengths an_look_lengths cd_look_lengths ct_look_lengths), sl_look_lengths⟩)
    (c_look_lengths : PySem.W.codeIn K cd_look_lengths "look_lengths" = true)
    (k_look_lengths : PySem.W.keepIn K (.ref f_look_lengths) = true)
    (a_look_fit : PySem.W.nsIn K mainGlobals "look_fit" = some (some (.ref f_look_fit)))
    (l_look_fit : K.lookup f_look_fit = some ⟨oc_look_fit, od_look_fit, .func (PySem.W.fnOf "look_fit" "look_fit" (defArgs s_look_fit) (defBody s_look_fit) (defScope s_look_fit) .none kV_look_fit dc_look_fit pm_look_fit an_look_fit cd_look_fit ct_look_fit), sl_look_fit⟩)
    (c_look_fit : PySem.W.codeIn K cd_look_fit "look_fit" = true)
    (k_look_fit : PySem.W.keepIn K (.ref f_look_fit) = true)
    (a_Row___init__ : PySem.W.findIn K (.ref C_Row) "__init__" = some (some (.ref f_Row___init__)))
    (i_Row___init__ : PySem.W.isFn K (.ref f_Row___init__) = true)
    (l_Row___init__ : K.lookup f_Row___init__ = some ⟨oc_Row___init__, od_Row___init__, .func (PySem.W.fnOf "__init__" "Row.__init__" (defArgs s_Row___init__) (defBody s_Row___init__) (defScope s_Row___init__) .none (.ref Dk_Row___init__) dc_Row___init__ pm_Row___init__ an_Row___init__ cd_Row___init__ ct_Row___init__), sl_Row___init__⟩)
    (kw_Row___init___size : PySem.W.nsIn K Dk_Row___init__ "size" = some (some (.int 4 tkw_Row___init___size)))
    (c_Row___init__ : PySem.W.codeIn K cd_Row___init__ "Row.__init__" = true)
    (k_Row___init__ : PySem.W.keepIn K (.ref f_Row___init__) = true)
    (mk_Row : PySem.W.makesIn K C_Row = true)
    (kc_Row : PySem.W.keepIn K (.ref C_Row) = true)
    (a_Row_blocks : PySem.W.findIn K (.ref C_Row) "blocks" = some (some (.ref f_Row_blocks)))
    (i_Row_blocks : PySem.W.isFn K (.ref f_Row_blocks) = true)
    (l_Row_blocks : K.lookup f_Row_blocks = some ⟨oc_Row_blocks, od_Row_blocks, .func (PySem.W.fnOf "blocks" "Row.blocks" (defArgs s_Row_blocks) (defBody s_Row_blocks) (defScope s_Row_blocks) .none kV_Row_blocks dc_Row_blocks pm_Row_blocks an_Row_blocks cd_Row_blocks ct_Row_blocks), sl_Row_blocks⟩)
    (c_Row_blocks : PySem.W.codeIn K cd_Row_blocks "Row.blocks" = true)
    (k_Row_blocks : PySem.W.keepIn K (.ref f_Row_blocks) = true)
    (a_look_slot : PySem.W.nsIn K mainGlobals "look_slot" = some (some (.ref f_look_slot)))
    (l_look_slot : K.lookup f_look_slot = some ⟨oc_look_slot, od_look_slot, .func (PySem.W.fnOf "look_slot" "look_slot" (defArgs s_look_slot) (defBody s_look_slot) (defScope s_look_slot) .none kV_look_slot dc_look_slot pm_look_slot an_look_slot cd_look_slot ct_look_slot), sl_look_slot⟩)
    (c_look_slot : PySem.W.codeIn K cd_look_slot "look_slot" = true)
    (k_look_slot : PySem.W.keepIn K (.ref f_look_slot) = true)
    (a_Walker___init__ : PySem.W.findIn K (.ref C_Walker) "__init__" = some (some (.ref f_Walker___init__)))
    (i_Walker___init__ : PySem.W.isFn K (.ref f_Walker___init__) = true)
    (l_Walker___init__ : K.lookup f_Walker___init__ = some ⟨oc_Walker___init__, od_Walker___init__, .func (PySem.W.fnOf "__init__" "Walker.__init__" (defArgs s_Walker___init__) (defBody s_Walker___init__) (defScope s_Walker___init__) .none kV_Walker___init__ dc_Walker___init__ pm_Walker___init__ an_Walker___init__ cd_Walker___init__ ct_Walker___init__), sl_Walker___init__⟩)
    (c_Walker___init__ : PySem.W.codeIn K cd_Walker___init__ "Walker.__init__" = true)
    (k_Walker___init__ : PySem.W.keepIn K (.ref f_Walker___init__) = true)
    (mk_Walker : PySem.W.makesIn K C_Walker = true)
    (kc_Walker : PySem.W.keepIn K (.ref C_Walker) = true)
    (a_Walker_is_done : PySem.W.findIn K (.ref C_Walker) "is_done" = some (some (.ref f_Walker_is_done)))
    (i_Walker_is_done : PySem.W.isFn K (.ref f_Walker_is_done) = true)
    (l_Walker_is_done : K.lookup f_Walker_is_done = some ⟨oc_Walker_is_done, od_Walker_is_done, .func (PySem.W.fnOf "is_done" "Walker.is_done" (defArgs s_Walker_is_done) (defBody s_Walker_is_done) (defScope s_Walker_is_done) .none kV_Walker_is_done dc_Walker_is_done pm_Walker_is_done an_Walker_is_done cd_Walker_is_done ct_Walker_is_done), sl_Walker_is_done⟩)
    (c_Walker_is_done : PySem.W.codeIn K cd_Walker_is_done "Walker.is_done" = true)
    (k_Walker_is_done : PySem.W.keepIn K (.ref f_Walker_is_done) = true)
    (a_Walker_entry : PySem.W.findIn K (.ref C_Walker) "entry" = some (some (.ref f_Walker_entry)))
    (i_Walker_entry : PySem.W.isFn K (.ref f_Walker_entry) = true)
    (l_Walker_entry : K.lookup f_Walker_entry = some ⟨oc_Walker_entry, od_Walker_entry, .func (PySem.W.fnOf "entry" "Walker.entry" (defArgs s_Walker_entry) (defBody s_Walker_entry) (defScope s_Walker_entry) .none kV_Walker_entry dc_Walker_entry pm_Walker_entry an_Walker_entry cd_Walker_entry ct_Walker_entry), sl_Walker_entry⟩)
    (c_Walker_entry : PySem.W.codeIn K cd_Walker_entry "Walker.entry" = true)
    (k_Walker_entry : PySem.W.keepIn K (.ref f_Walker_entry) = true)
    (a_Walker_slot : PySem.W.findIn K (.ref C_Walker) "slot" = some (some (.ref f_Walker_slot)))
    (i_Walker_slot : PySem.W.isFn K (.ref f_Walker_slot) = true)
    (l_Walker_slot : K.lookup f_Walker_slot = some ⟨oc_Walker_slot, od_Walker_slot, .func (PySem.W.fnOf "slot" "Walker.slot" (defArgs s_Walker_slot) (defBody s_Walker_slot) (defScope s_Walker_slot) .none kV_Walker_slot dc_Walker_slot pm_Walker_slot an_Walker_slot cd_Walker_slot ct_Walker_slot), sl_Walker_slot⟩)
    (c_Walker_slot : PySem.W.codeIn K cd_Walker_slot "Walker.slot" = true)
    (k_Walker_slot : PySem.W.keepIn K (.ref f_Walker_slot) = true)
    (a_Walker_next_block : PySem.W.findIn K (.ref C_Walker) "next_block" = some (some (.ref f_Walker_next_block)))
    (i_Walker_next_block : PySem.W.isFn K (.ref f_Walker_next_block) = true)
    (l_Walker_next_block : K.lookup f_Walker_next_block = some ⟨oc_Walker_next_block, od_Walker_next_block, .func (PySem.W.fnOf "next_block" "Walker.next_block" (defArgs s_Walker_next_block) (defBody s_Walker_next_block) (defScope s_Walker_next_block) .none kV_Walker_next_block dc_Walker_next_block pm_Walker_next_block an_Walker_next_block cd_Walker_next_block ct_Walker_next_block), sl_Walker_next_block⟩)
    (c_Walker_next_block : PySem.W.codeIn K cd_Walker_next_block "Walker.next_block" = true)
    (k_Walker_next_block : PySem.W.keepIn K (.ref f_Walker_next_block) = true)
    (a_Walker_seek : PySem.W.findIn K (.ref C_Walker) "seek" = some (some (.ref f_Walker_seek)))
    (i_Walker_seek : PySem.W.isFn K (.ref f_Walker_seek) = true)
    (l_Walker_seek : K.lookup f_Walker_seek = some ⟨oc_Walker_seek, od_Walker_seek, .func (PySem.W.fnOf "seek" "Walker.seek" (defArgs s_Walker_seek) (defBody s_Walker_seek) (defScope s_Walker_seek) .none kV_Walker_seek dc_Walker_seek pm_Walker_seek an_Walker_seek cd_Walker_seek ct_Walker_seek), sl_Walker_seek⟩)
    (c_Walker_seek : PySem.W.codeIn K cd_Walker_seek "Walker.seek" = true)
    (k_Walker_seek : PySem.W.keepIn K (.ref f_Walker_seek) = true)
    (a_Walker_opened : PySem.W.findIn K (.ref C_Walker) "opened" = some (some (.ref f_Walker_opened)))
    (i_Walker_opened : PySem.W.isFn K (.ref f_Walker_opened) = true)
    (l_Walker_opened : K.lookup f_Walker_opened = some ⟨oc_Walker_opened, od_Walker_opened, .func (PySem.W.fnOf "opened" "Walker.opened" (defArgs s_Walker_opened) (defBody s_Walker_opened) (defScope s_Walker_opened) .none kV_Walker_opened dc_Walker_opened pm_Walker_opened an_Walker_opened cd_Walker_opened ct_Walker_opened), sl_Walker_opened⟩)
    (c_Walker_opened : PySem.W.codeIn K cd_Walker_opened "Walker.opened" = true)
    (k_Walker_opened : PySem.W.keepIn K (.ref f_Walker_opened) = true)
    (a_Walker_block : PySem.W.findIn K (.ref C_Walker) "block" = some (some (.ref f_Walker_block)))
    (i_Walker_block : PySem.W.isFn K (.ref f_Walker_block) = true)
    (l_Walker_block : K.lookup f_Walker_block = some ⟨oc_Walker_block, od_Walker_block, .func (PySem.W.fnOf "block" "Walker.block" (defArgs s_Walker_block) (defBody s_Walker_block) (defScope s_Walker_block) .none kV_Walker_block dc_Walker_block pm_Walker_block an_Walker_block cd_Walker_block ct_Walker_block), sl_Walker_block⟩)
    (c_Walker_block : PySem.W.codeIn K cd_Walker_block "Walker.block" = true)
    (k_Walker_block : PySem.W.keepIn K (.ref f_Walker_block) = true)
    (a_Walker_places : PySem.W.findIn K (.ref C_Walker) "places" = some (some (.ref f_Walker_places)))
    (i_Walker_places : PySem.W.isFn K (.ref f_Walker_places) = true)
    (l_Walker_places : K.lookup f_Walker_places = some ⟨oc_Walker_places, od_Walker_places, .func (PySem.W.fnOf "places" "Walker.places" (defArgs s_Walker_places) (defBody s_Walker_places) (defScope s_Walker_places) .none kV_Walker_places dc_Walker_places pm_Walker_places an_Walker_places cd_Walker_places ct_Walker_places), sl_Walker_places⟩)
    (c_Walker_places : PySem.W.codeIn K cd_Walker_places "Walker.places" = true)
    (k_Walker_places : PySem.W.keepIn K (.ref f_Walker_places) = true)
    (a_Walker_glance : PySem.W.findIn K (.ref C_Walker) "glance" = some (some (.ref f_Walker_glance)))
    (i_Walker_glance : PySem.W.isFn K (.ref f_Walker_glance) = true)
    (l_Walker_glance : K.lookup f_Walker_glance = some ⟨oc_Walker_glance, od_Walker_glance, .func (PySem.W.fnOf "glance" "Walker.glance" (defArgs s_Walker_glance) (defBody s_Walker_glance) (defScope s_Walker_glance) .none kV_Walker_glance dc_Walker_glance pm_Walker_glance an_Walker_glance cd_Walker_glance ct_Walker_glance), sl_Walker_glance⟩)
    (c_Walker_glance : PySem.W.codeIn K cd_Walker_glance "Walker.glance" = true)
    (k_Walker_glance : PySem.W.keepIn K (.ref f_Walker_glance) = true)
    (a_law_pool : PySem.W.nsIn K mainGlobals "_law_pool" = some (some (.ref f_law_pool)))
    (l_law_pool : K.lookup f_law_pool = some ⟨oc_law_pool, od_law_pool, .func (PySem.W.fnOf "_law_pool" "_law_pool" (defArgs s_law_pool) (defBody s_law_pool) (defScope s_law_pool) .none kV_law_pool dc_law_pool pm_law_pool an_law_pool cd_law_pool ct_law_pool), sl_law_pool⟩)
    (c_law_pool : PySem.W.codeIn K cd_law_pool "_law_pool" = true)
    (k_law_pool : PySem.W.keepIn K (.ref f_law_pool) = true)
    (a_law_take : PySem.W.nsIn K mainGlobals "_law_take" = some (some (.ref f_law_take)))
    (l_law_take : K.lookup f_law_take = some ⟨oc_law_take, od_law_take, .func (PySem.W.fnOf "_law_take" "_law_take" (defArgs s_law_take) (defBody s_law_take) (defScope s_law_take) .none kV_law_take dc_law_take pm_law_take an_law_take cd_law_take ct_law_take), sl_law_take⟩)
    (c_law_take : PySem.W.codeIn K cd_law_take "_law_take" = true)
    (k_law_take : PySem.W.keepIn K (.ref f_law_take) = true)
    (a_law_kinds : PySem.W.nsIn K mainGlobals "_law_kinds" = some (some (.ref f_law_kinds)))
    (l_law_kinds : K.lookup f_law_kinds = some ⟨oc_law_kinds, od_law_kinds, .func (PySem.W.fnOf "_law_kinds" "_law_kinds" (defArgs s_law_kinds) (defBody s_law_kinds) (defScope s_law_kinds) .none kV_law_kinds dc_law_kinds pm_law_kinds an_law_kinds cd_law_kinds ct_law_kinds), sl_law_kinds⟩)
    (c_law_kinds : PySem.W.codeIn K cd_law_kinds "_law_kinds" = true)
    (k_law_kinds : PySem.W.keepIn K (.ref f_law_kinds) = true)
    (a_law_row_entries : PySem.W.nsIn K mainGlobals "_law_row_entries" = some (some (.ref f_law_row_entries)))
    (l_law_row_entries : K.lookup f_law_row_entries = some ⟨oc_law_row_entries, od_law_row_entries, .func (PySem.W.fnOf "_law_row_entries" "_law_row_entries" (defArgs s_law_row_entries) (defBody s_law_row_entries) (defScope s_law_row_entries) .none kV_law_row_entries dc_law_row_entries pm_law_row_entries an_law_row_entries cd_law_row_entries ct_law_row_entries), sl_law_row_entries⟩)
    (c_law_row_entries : PySem.W.codeIn K cd_law_row_entries "_law_row_entries" = true)
    (k_law_row_entries : PySem.W.keepIn K (.ref f_law_row_entries) = true)
    (a_law_lengths : PySem.W.nsIn K mainGlobals "_law_lengths" = some (some (.ref f_law_lengths)))
    (l_law_lengths : K.lookup f_law_lengths = some ⟨oc_law_lengths, od_law_lengths, .func (PySem.W.fnOf "_law_lengths" "_law_lengths" (defArgs s_law_lengths) (defBody s_law_lengths) (defScope s_law_lengths) .none kV_law_lengths dc_law_lengths pm_law_lengths an_law_lengths cd_law_lengths ct_law_lengths), sl_law_lengths⟩)
    (c_law_lengths : PySem.W.codeIn K cd_law_lengths "_law_lengths" = true)
    (k_law_lengths : PySem.W.keepIn K (.ref f_law_lengths) = true)
    (a_law_whole : PySem.W.nsIn K mainGlobals "_law_whole" = some (some (.ref f_law_whole)))
    (l_law_whole : K.lookup f_law_whole = some ⟨oc_law_whole, od_law_whole, .func (PySem.W.fnOf "_law_whole" "_law_whole" (defArgs s_law_whole) (defBody s_law_whole) (defScope s_law_whole) .none kV_law_whole dc_law_whole pm_law_whole an_law_whole cd_law_whole ct_law_whole), sl_law_whole⟩)
    (c_law_whole : PySem.W.codeIn K cd_law_whole "_law_whole" = true)
    (k_law_whole : PySem.W.keepIn K (.ref f_law_whole) = true)
    (a_law_seek : PySem.W.nsIn K mainGlobals "_law_seek" = some (some (.ref f_law_seek)))
    (l_law_seek : K.lookup f_law_seek = some ⟨oc_law_seek, od_law_seek, .func (PySem.W.fnOf "_law_seek" "_law_seek" (defArgs s_law_seek) (defBody s_law_seek) (defScope s_law_seek) .none kV_law_seek dc_law_seek pm_law_seek an_law_seek cd_law_seek ct_law_seek), sl_law_seek⟩)
    (c_law_seek : PySem.W.codeIn K cd_law_seek "_law_seek" = true)
    (k_law_seek : PySem.W.keepIn K (.ref f_law_seek) = true)
    (a_law_slot : PySem.W.nsIn K mainGlobals "_law_slot" = some (some (.ref f_law_slot)))
    (l_law_slot : K.lookup f_law_slot = some ⟨oc_law_slot, od_law_slot, .func (PySem.W.fnOf "_law_slot" "_law_slot" (defArgs s_law_slot) (defBody s_law_slot) (defScope s_law_slot) .none kV_law_slot dc_law_slot pm_law_slot an_law_slot cd_law_slot ct_law_slot), sl_law_slot⟩)
    (c_law_slot : PySem.W.codeIn K cd_law_slot "_law_slot" = true)
    (k_law_slot : PySem.W.keepIn K (.ref f_law_slot) = true)
    (a_law_aims : PySem.W.nsIn K mainGlobals "_law_aims" = some (some (.ref f_law_aims)))
    (l_law_aims : K.lookup f_law_aims = some ⟨oc_law_aims, od_law_aims, .func (PySem.W.fnOf "_law_aims" "_law_aims" (defArgs s_law_aims) (defBody s_law_aims) (defScope s_law_aims) .none kV_law_aims dc_law_aims pm_law_aims an_law_aims cd_law_aims ct_law_aims), sl_law_aims⟩)
    (c_law_aims : PySem.W.codeIn K cd_law_aims "_law_aims" = true)
    (k_law_aims : PySem.W.keepIn K (.ref f_law_aims) = true)
    (a_law_slots_opened : PySem.W.nsIn K mainGlobals "_law_slots_opened" = some (some (.ref f_law_slots_opened)))
    (l_law_slots_opened : K.lookup f_law_slots_opened = some ⟨oc_law_slots_opened, od_law_slots_opened, .func (PySem.W.fnOf "_law_slots_opened" "_law_slots_opened" (defArgs s_law_slots_opened) (defBody s_law_slots_opened) (defScope s_law_slots_opened) .none kV_law_slots_opened dc_law_slots_opened pm_law_slots_opened an_law_slots_opened cd_law_slots_opened ct_law_slots_opened), sl_law_slots_opened⟩)
    (c_law_slots_opened : PySem.W.codeIn K cd_law_slots_opened "_law_slots_opened" = true)
    (k_law_slots_opened : PySem.W.keepIn K (.ref f_law_slots_opened) = true)
    (a_law_glanced : PySem.W.nsIn K mainGlobals "_law_glanced" = some (some (.ref f_law_glanced)))
    (l_law_glanced : K.lookup f_law_glanced = some ⟨oc_law_glanced, od_law_glanced, .func (PySem.W.fnOf "_law_glanced" "_law_glanced" (defArgs s_law_glanced) (defBody s_law_glanced) (defScope s_law_glanced) .none kV_law_glanced dc_law_glanced pm_law_glanced an_law_glanced cd_law_glanced ct_law_glanced), sl_law_glanced⟩)
    (c_law_glanced : PySem.W.codeIn K cd_law_glanced "_law_glanced" = true)
    (k_law_glanced : PySem.W.keepIn K (.ref f_law_glanced) = true)
    (a_law_right : PySem.W.nsIn K mainGlobals "_law_right" = some (some (.ref f_law_right)))
    (l_law_right : K.lookup f_law_right = some ⟨oc_law_right, od_law_right, .func (PySem.W.fnOf "_law_right" "_law_right" (defArgs s_law_right) (defBody s_law_right) (defScope s_law_right) .none kV_law_right dc_law_right pm_law_right an_law_right (.ref c0_law_right) ct_law_right), sl_law_right⟩)
    (c_law_right : PySem.W.codeIn K (.ref c0_law_right) "_law_right" = true)
    (k_law_right : PySem.W.keepIn K (.ref f_law_right) = true)
    (a_law : PySem.W.nsIn K mainGlobals "law" = some (some (.ref f_law)))
    (l_law : K.lookup f_law = some ⟨oc_law, od_law, .func (PySem.W.fnOf "law" "law" (defArgs s_law) (defBody s_law) (defScope s_law) .none kV_law dc_law pm_law an_law (.ref c0_law) ct_law), sl_law⟩)
    (c_law : PySem.W.codeIn K (.ref c0_law) "law" = true)
    (k_law : PySem.W.keepIn K (.ref f_law) = true)
    (t_law_right : h.get? P_law_right = some (PySem.W.tabObj #[]))
    (ch_law_right : PySem.W.codeHdIn K c0_law_right P_law_right = true)
    (nk_law_right : K.lookup P_law_right = none)
    (t_law : h.get? P_law = some (PySem.W.tabObj #[]))
    (ch_law : PySem.W.codeHdIn K c0_law P_law = true)
    (nk_law : K.lookup P_law = none)
    (pne_law_right_law : P_law_right ≠ P_law)
    (pne_law_law_right : P_law ≠ P_law_right) :
    LamX.LawAtS l w K CX0 17 63 "_law_script" mg fa h := by
  have e := hfa.symm.trans (PySem.W.mg_of X G a_law)
  cases e
  have T : Txt K mg (⟨C_Wrong, C_NoWord, C_NoText, C_NoNumber, C_NoSize, C_NoLengths, C_NoQuery, C_NoCode, C_NoRow, C_NoEntries, C_NoQueryText, C_NoPages, C_NoName, C_NoQueries, C_NoShelf, C_NoDeed, C_Taken, C_NoPlace, C_NoSlot⟩ : Zs) C_CodeReader C_Block C_Row C_Walker := { c_LETTERS := ⟨_, PySem.W.mg_of X G g_LETTERS⟩, c_LONGEST := ⟨_, PySem.W.mg_of X G g_LONGEST⟩, c_MOST := ⟨_, PySem.W.mg_of X G g_MOST⟩, c_ENDS := ⟨_, PySem.W.mg_of X G g_ENDS⟩, c_FURTHER := ⟨_, PySem.W.mg_of X G g_FURTHER⟩, c_BASE := ⟨_, PySem.W.mg_of X G g_BASE⟩, c_SIZE := ⟨_, PySem.W.mg_of X G g_SIZE⟩, c_GREATEST := ⟨_, PySem.W.mg_of X G g_GREATEST⟩, c_MOST_PAGES := ⟨_, PySem.W.mg_of X G g_MOST_PAGES⟩, n_isinstance := PySem.W.mg_none_of X G z_isinstance, n_bool := PySem.W.mg_none_of X G z_bool, n_int := PySem.W.mg_none_of X G z_int, n_str := PySem.W.mg_none_of X G z_str, n_list := PySem.W.mg_none_of X G z_list, n_tuple := PySem.W.mg_none_of X G z_tuple, n_len := PySem.W.mg_none_of X G z_len, n_all := PySem.W.mg_none_of X G z_all, n_max := PySem.W.mg_none_of X G z_max, n_min := PySem.W.mg_none_of X G z_min, n_range := PySem.W.mg_none_of X G z_range, n_abs := PySem.W.mg_none_of X G z_abs, n_enumerate := PySem.W.mg_none_of X G z_enumerate, n_divmod := PySem.W.mg_none_of X G z_divmod, n_zip := PySem.W.mg_none_of X G z_zip, n_ValueError := PySem.W.mg_none_of X G z_ValueError, n_IndexError := PySem.W.mg_none_of X G z_IndexError, m_Wrong := PySem.W.mg_of X G aC_Wrong, m_NoWord := PySem.W.mg_of X G aC_NoWord, m_NoText := PySem.W.mg_of X G aC_NoText, m_NoNumber := PySem.W.mg_of X G aC_NoNumber, m_NoSize := PySem.W.mg_of X G aC_NoSize, m_NoLengths := PySem.W.mg_of X G aC_NoLengths, m_NoQuery := PySem.W.mg_of X G aC_NoQuery, m_NoCode := PySem.W.mg_of X G aC_NoCode, m_NoRow := PySem.W.mg_of X G aC_NoRow, m_NoEntries := PySem.W.mg_of X G aC_NoEntries, m_NoQueryText := PySem.W.mg_of X G aC_NoQueryText, m_NoPages := PySem.W.mg_of X G aC_NoPages, m_NoName := PySem.W.mg_of X G aC_NoName, m_NoQueries := PySem.W.mg_of X G aC_NoQueries, m_NoShelf := PySem.W.mg_of X G aC_NoShelf, m_NoDeed := PySem.W.mg_of X G aC_NoDeed, m_Taken := PySem.W.mg_of X G aC_Taken, m_NoPlace := PySem.W.mg_of X G aC_NoPlace, m_NoSlot := PySem.W.mg_of X G aC_NoSlot, x_NoNumber := ⟨q_NoNumber, kp_NoNumber, e1_NoNumber, e2_NoNumber⟩, h_NoRow := howAtB_ok h_NoRow, na_CodeReader_text := na_CodeReader_text, na_CodeReader_at := na_CodeReader_at, cl_CodeReader := ⟨pg_CodeReader, hd_CodeReader, po_CodeReader, sa_CodeReader⟩, m_CodeReader := PySem.W.mg_of X G aC_CodeReader, na_Block_first := na_Block_first, na_Block_last := na_Block_last, na_Block_many := na_Block_many, na_Block_most := na_Block_most, na_Block_least := na_Block_least, na_Block_coded := na_Block_coded, na_Block_counts := na_Block_counts, cl_Block := ⟨pg_Block, hd_Block, po_Block, sa_Block⟩, m_Block := PySem.W.mg_of X G aC_Block, na_Row_word := na_Row_word, na_Row_size := na_Row_size, na_Row_kept := na_Row_kept, cl_Row := ⟨pg_Row, hd_Row, po_Row, sa_Row⟩, m_Row := PySem.W.mg_of X G aC_Row, na_Walker_kept := na_Walker_kept, na_Walker_at_block := na_Walker_at_block, na_Walker_at_entry := na_Walker_at_entry, na_Walker_decoded := na_Walker_decoded, cl_Walker := ⟨pg_Walker, hd_Walker, po_Walker, sa_Walker⟩, m_Walker := PySem.W.mg_of X G aC_Walker }
  have F_law_kind := fun_mk (st := s_law_kind) l_law_kind c_law_kind k_law_kind
  have b_law_kind := F_law_kind.binds (ps := ["_law_e"]) fun _ _ _ _ _ _ us hl => match us, hl with | [_], _ => rfl
  have F_law_how := fun_mk (st := s_law_how) l_law_how c_law_how k_law_how
  have b_law_how := F_law_how.binds (ps := ["_law_deed"]) fun _ _ _ _ _ _ us hl => match us, hl with | [_], _ => rfl
  have F_is_whole := fun_mk (st := s_is_whole) l_is_whole c_is_whole k_is_whole
  have b_is_whole := F_is_whole.binds (ps := ["thing"]) fun _ _ _ _ _ _ us hl => match us, hl with | [_], _ => rfl
  have F_is_word := fun_mk (st := s_is_word) l_is_word c_is_word k_is_word
  have b_is_word := F_is_word.binds (ps := ["thing"]) fun _ _ _ _ _ _ us hl => match us, hl with | [_], _ => rfl
  have F_look_word := fun_mk (st := s_look_word) l_look_word c_look_word k_look_word
  have b_look_word := F_look_word.binds (ps := ["thing"]) fun _ _ _ _ _ _ us hl => match us, hl with | [_], _ => rfl
  have F_is_count := fun_mk (st := s_is_count) l_is_count c_is_count k_is_count
  have b_is_count := F_is_count.binds (ps := ["thing"]) fun _ _ _ _ _ _ us hl => match us, hl with | [_], _ => rfl
  have F_code := fun_mk (st := s_code) l_code c_code k_code
  have b_code := F_code.binds (ps := ["number"]) fun _ _ _ _ _ _ us hl => match us, hl with | [_], _ => rfl
  have F_joined_codes := fun_mk (st := s_joined_codes) l_joined_codes c_joined_codes k_joined_codes
  have b_joined_codes := F_joined_codes.binds (ps := ["numbers"]) fun _ _ _ _ _ _ us hl => match us, hl with | [_], _ => rfl
  have F_CodeReader___init__ := fun_mk (st := s_CodeReader___init__) l_CodeReader___init__ c_CodeReader___init__ k_CodeReader___init__
  have b_CodeReader___init__ := F_CodeReader___init__.binds (ps := ["self", "text"]) fun _ _ _ _ _ _ us hl => match us, hl with | [_, _], _ => rfl
  have F_CodeReader_is_done := fun_mk (st := s_CodeReader_is_done) l_CodeReader_is_done c_CodeReader_is_done k_CodeReader_is_done
  have b_CodeReader_is_done := F_CodeReader_is_done.binds (ps := ["self"]) fun _ _ _ _ _ _ us hl => match us, hl with | [_], _ => rfl
  have F_CodeReader_next_number := fun_mk (st := s_CodeReader_next_number) l_CodeReader_next_number c_CodeReader_next_number k_CodeReader_next_number
  have b_CodeReader_next_number := F_CodeReader_next_number.binds (ps := ["self"]) fun _ _ _ _ _ _ us hl => match us, hl with | [_], _ => rfl
  have F_CodeReader_rising := fun_mk (st := s_CodeReader_rising) l_CodeReader_rising c_CodeReader_rising k_CodeReader_rising
  have b_CodeReader_rising := F_CodeReader_rising.binds (ps := ["self", "many"]) fun _ _ _ _ _ _ us hl => match us, hl with | [_, _], _ => rfl
  have F_gaps := fun_mk (st := s_gaps) l_gaps c_gaps k_gaps
  have b_gaps := F_gaps.binds (ps := ["numbers"]) fun _ _ _ _ _ _ us hl => match us, hl with | [_], _ => rfl
  have F_is_rising := fun_mk (st := s_is_rising) l_is_rising c_is_rising k_is_rising
  have b_is_rising := F_is_rising.binds (ps := ["numbers"]) fun _ _ _ _ _ _ us hl => match us, hl with | [_], _ => rfl
  have F_is_entry := fun_mk (st := s_is_entry) l_is_entry c_is_entry k_is_entry
  have b_is_entry := F_is_entry.binds (ps := ["thing"]) fun _ _ _ _ _ _ us hl => match us, hl with | [_], _ => rfl
  have F_look_entries := fun_mk (st := s_look_entries) l_look_entries c_look_entries k_look_entries
  have b_look_entries := F_look_entries.binds (ps := ["entries"]) fun _ _ _ _ _ _ us hl => match us, hl with | [_], _ => rfl
  have F_code_entries := fun_mk (st := s_code_entries) l_code_entries c_code_entries k_code_entries
  have b_code_entries := F_code_entries.binds (ps := ["entries"]) fun _ _ _ _ _ _ us hl => match us, hl with | [_], _ => rfl
  have F_decode_entries := fun_mk (st := s_decode_entries) l_decode_entries c_decode_entries k_decode_entries
  have b_decode_entries := F_decode_entries.binds (ps := ["text"]) fun _ _ _ _ _ _ us hl => match us, hl with | [_], _ => rfl
  have F_Block___init__ := fun_mk (st := s_Block___init__) l_Block___init__ c_Block___init__ k_Block___init__
  have b_Block___init__ := F_Block___init__.binds (ps := ["self", "entries", "lengths"]) fun _ _ _ _ _ _ us hl => match us, hl with | [_, _, _], _ => rfl
  have F_Block_entries := fun_mk (st := s_Block_entries) l_Block_entries c_Block_entries k_Block_entries
  have b_Block_entries := F_Block_entries.binds (ps := ["self"]) fun _ _ _ _ _ _ us hl => match us, hl with | [_], _ => rfl
  have F_look_size := fun_mk (st := s_look_size) l_look_size c_look_size k_look_size
  have b_look_size := F_look_size.binds (ps := ["size"]) fun _ _ _ _ _ _ us hl => match us, hl with | [_], _ => rfl
  have F_look_lengths := fun_mk (st := s_look_lengths) l_look_lengths c_look_lengths k_look_lengths
  have b_look_lengths := F_look_lengths.binds (ps := ["lengths"]) fun _ _ _ _ _ _ us hl => match us, hl with | [_], _ => rfl
  have F_look_fit := fun_mk (st := s_look_fit) l_look_fit c_look_fit k_look_fit
  have b_look_fit := F_look_fit.binds (ps := ["entries", "lengths"]) fun _ _ _ _ _ _ us hl => match us, hl with | [_, _], _ => rfl
  have F_Row___init__ : FunD K "__init__" "Row.__init__" (defArgs s_Row___init__) (defBody s_Row___init__) (defScope s_Row___init__) [] [("size", .int 4)] f_Row___init__ _ := ⟨⟨_, _, _, _, _, _, _, _, _, _, rfl, l_Row___init__, c_Row___init__, .inl ⟨rfl, rfl⟩, .inr ⟨_, rfl, fun q hq => by
    simp only [List.mem_cons, List.not_mem_nil, or_false] at hq
    rcases hq with rfl
    · exact ⟨_, kw_Row___init___size, by first | exact ⟨_, rfl⟩ | rfl⟩⟩⟩, k_Row___init__⟩
  have F_Row_blocks := fun_mk (st := s_Row_blocks) l_Row_blocks c_Row_blocks k_Row_blocks
  have b_Row_blocks := F_Row_blocks.binds (ps := ["self"]) fun _ _ _ _ _ _ us hl => match us, hl with | [_], _ => rfl
  have F_look_slot := fun_mk (st := s_look_slot) l_look_slot c_look_slot k_look_slot
  have b_look_slot := F_look_slot.binds (ps := ["slot"]) fun _ _ _ _ _ _ us hl => match us, hl with | [_], _ => rfl
  have F_Walker___init__ := fun_mk (st := s_Walker___init__) l_Walker___init__ c_Walker___init__ k_Walker___init__
  have b_Walker___init__ := F_Walker___init__.binds (ps := ["self", "row"]) fun _ _ _ _ _ _ us hl => match us, hl with | [_, _], _ => rfl
  have F_Walker_is_done := fun_mk (st := s_Walker_is_done) l_Walker_is_done c_Walker_is_done k_Walker_is_done
  have b_Walker_is_done := F_Walker_is_done.binds (ps := ["self"]) fun _ _ _ _ _ _ us hl => match us, hl with | [_], _ => rfl
  have F_Walker_entry := fun_mk (st := s_Walker_entry) l_Walker_entry c_Walker_entry k_Walker_entry
  have b_Walker_entry := F_Walker_entry.binds (ps := ["self", "number"]) fun _ _ _ _ _ _ us hl => match us, hl with | [_, _], _ => rfl
  have F_Walker_slot := fun_mk (st := s_Walker_slot) l_Walker_slot c_Walker_slot k_Walker_slot
  have b_Walker_slot := F_Walker_slot.binds (ps := ["self"]) fun _ _ _ _ _ _ us hl => match us, hl with | [_], _ => rfl
  have F_Walker_next_block := fun_mk (st := s_Walker_next_block) l_Walker_next_block c_Walker_next_block k_Walker_next_block
  have b_Walker_next_block := F_Walker_next_block.binds (ps := ["self"]) fun _ _ _ _ _ _ us hl => match us, hl with | [_], _ => rfl
  have F_Walker_seek := fun_mk (st := s_Walker_seek) l_Walker_seek c_Walker_seek k_Walker_seek
  have b_Walker_seek := F_Walker_seek.binds (ps := ["self", "slot"]) fun _ _ _ _ _ _ us hl => match us, hl with | [_, _], _ => rfl
  have F_Walker_opened := fun_mk (st := s_Walker_opened) l_Walker_opened c_Walker_opened k_Walker_opened
  have b_Walker_opened := F_Walker_opened.binds (ps := ["self"]) fun _ _ _ _ _ _ us hl => match us, hl with | [_], _ => rfl
  have F_Walker_block := fun_mk (st := s_Walker_block) l_Walker_block c_Walker_block k_Walker_block
  have b_Walker_block := F_Walker_block.binds (ps := ["self"]) fun _ _ _ _ _ _ us hl => match us, hl with | [_], _ => rfl
  have F_Walker_places := fun_mk (st := s_Walker_places) l_Walker_places c_Walker_places k_Walker_places
  have b_Walker_places := F_Walker_places.binds (ps := ["self"]) fun _ _ _ _ _ _ us hl => match us, hl with | [_], _ => rfl
  have F_Walker_glance := fun_mk (st := s_Walker_glance) l_Walker_glance c_Walker_glance k_Walker_glance
  have b_Walker_glance := F_Walker_glance.binds (ps := ["self", "slots"]) fun _ _ _ _ _ _ us hl => match us, hl with | [_, _], _ => rfl
  have F_law_pool := fun_mk (st := s_law_pool) l_law_pool c_law_pool k_law_pool
  have b_law_pool := F_law_pool.binds (ps := ["_law_script", "_law_at"]) fun _ _ _ _ _ _ us hl => match us, hl with | [_, _], _ => rfl
  have F_law_take := fun_mk (st := s_law_take) l_law_take c_law_take k_law_take
  have b_law_take := F_law_take.binds (ps := ["_law_pool_here", "_law_many"]) fun _ _ _ _ _ _ us hl => match us, hl with | [_, _], _ => rfl
  have F_law_kinds := fun_mk (st := s_law_kinds) l_law_kinds c_law_kinds k_law_kinds
  have b_law_kinds := F_law_kinds.binds (ps := ["_law_pool_here"]) fun _ _ _ _ _ _ us hl => match us, hl with | [_], _ => rfl
  have F_law_row_entries := fun_mk (st := s_law_row_entries) l_law_row_entries c_law_row_entries k_law_row_entries
  have b_law_row_entries := F_law_row_entries.binds (ps := ["_law_pool_here", "_law_many", "_law_most"]) fun _ _ _ _ _ _ us hl => match us, hl with | [_, _, _], _ => rfl
  have F_law_lengths := fun_mk (st := s_law_lengths) l_law_lengths c_law_lengths k_law_lengths
  have b_law_lengths := F_law_lengths.binds (ps := ["_law_pool_here", "_law_entries"]) fun _ _ _ _ _ _ us hl => match us, hl with | [_, _], _ => rfl
  have F_law_whole := fun_mk (st := s_law_whole) l_law_whole c_law_whole k_law_whole
  have b_law_whole := F_law_whole.binds (ps := ["_law_thing"]) fun _ _ _ _ _ _ us hl => match us, hl with | [_], _ => rfl
  have F_law_seek := fun_mk (st := s_law_seek) l_law_seek c_law_seek k_law_seek
  have b_law_seek := F_law_seek.binds (ps := ["_law_entries", "_law_at", "_law_slot_here"]) fun _ _ _ _ _ _ us hl => match us, hl with | [_, _, _], _ => rfl
  have F_law_slot := fun_mk (st := s_law_slot) l_law_slot c_law_slot k_law_slot
  have b_law_slot := F_law_slot.binds (ps := ["_law_entries", "_law_at"]) fun _ _ _ _ _ _ us hl => match us, hl with | [_, _], _ => rfl
  have F_law_aims := fun_mk (st := s_law_aims) l_law_aims c_law_aims k_law_aims
  have b_law_aims := F_law_aims.binds (ps := ["_law_pool_here", "_law_entries"]) fun _ _ _ _ _ _ us hl => match us, hl with | [_, _], _ => rfl
  have F_law_slots_opened := fun_mk (st := s_law_slots_opened) l_law_slots_opened c_law_slots_opened k_law_slots_opened
  have b_law_slots_opened := F_law_slots_opened.binds (ps := ["_law_entries", "_law_wide", "_law_at", "_law_slot_here"]) fun _ _ _ _ _ _ us hl => match us, hl with | [_, _, _, _], _ => rfl
  have F_law_glanced := fun_mk (st := s_law_glanced) l_law_glanced c_law_glanced k_law_glanced
  have b_law_glanced := F_law_glanced.binds (ps := ["_law_entries", "_law_wide", "_law_at", "_law_aims_here", "_law_book"]) fun _ _ _ _ _ _ us hl => match us, hl with | [_, _, _, _, _], _ => rfl
  have FC_law_right := funC_mk (st := s_law_right) l_law_right c_law_right k_law_right
  have F_law_right := FC_law_right.fun_
  have b_law_right := F_law_right.binds (ps := ["_law_walker", "_law_entries", "_law_wide", "_law_at", "_law_aims_here", "_law_book"]) fun _ _ _ _ _ _ us hl => match us, hl with | [_, _, _, _, _, _], _ => rfl
  have FC_law := funC_mk (st := s_law) l_law c_law k_law
  have F_law := FC_law.fun_
  refine ⟨PySem.W.fnOf "law" "law" (defArgs s_law) (defBody s_law) (defScope s_law) .none kV_law dc_law pm_law an_law (.ref c0_law) ct_law, [(c0_law_right, P_law_right), (c0_law, P_law)], spLaw K [(P_law_right, lamN "_law_right"), (P_law, lamN "law")], ?_, ?_, ?_, fun s v => .of_eq rfl, ?_, fun base _ _ hTB => ?_⟩
  · intro p hp
    simp only [List.mem_cons, List.not_mem_nil, or_false] at hp
    rcases hp with rfl | rfl
    · exact t_law_right
    · exact t_law
  · intro p hp
    simp only [List.mem_cons, List.not_mem_nil, or_false] at hp
    rcases hp with rfl | rfl
    · exact nk_law_right
    · exact nk_law
  · intro p hp
    simp only [List.mem_cons, List.not_mem_nil, or_false] at hp
    rcases hp with rfl | rfl
    · exact PySem.W.codeHd_of_K X ch_law_right
    · exact PySem.W.codeHd_of_K X ch_law
  · intro H a ns hl _ hE hS
    refine ⟨a, ns, rfl, hS, hl, fun p hp => ?_, fun _ => rfl⟩
    simp only [List.mem_cons, List.not_mem_nil, or_false] at hp
    rcases hp with rfl | rfl
    · exact LamX.TabS.nil (hE (c0_law_right, P_law_right) (by simp))
    · exact LamX.TabS.nil (hE (c0_law, P_law) (by simp))
  have tb_law_right := hTB (c0_law_right, P_law_right) (by simp)
  have tb_law := hTB (c0_law, P_law) (by simp)
  have hu_law_right : ∀ p ∈ ([(P_law_right, lamN "_law_right"), (P_law, lamN "law")] : List (Addr × Str)), p.1 = P_law_right → p.2 = lamN "_law_right" := by
    intro p hp e
    simp only [List.mem_cons, List.not_mem_nil, or_false] at hp
    rcases hp with rfl | rfl
    · rfl
    · exact absurd e pne_law_law_right
  have hu_law : ∀ p ∈ ([(P_law_right, lamN "_law_right"), (P_law, lamN "law")] : List (Addr × Str)), p.1 = P_law → p.2 = lamN "law" := by
    intro p hp e
    simp only [List.mem_cons, List.not_mem_nil, or_false] at hp
    rcases hp with rfl | rfl
    · exact absurd e pne_law_right_law
    · rfl
  obtain ⟨x0_NoEntries, x1_NoEntries⟩ := xcl_of (P := l.prog) (w := w) (base := base) (st := s_NoEntries___init__) oex_NoEntries no_NoEntries (PySem.W.mg_of X G aC_NoEntries) i_NoEntries ti_NoEntries l_NoEntries c_NoEntries k_NoEntries lT_NoEntries (xi_NoEntries (PySem.W.mg_of X G aC_Wrong) ga_W rd_W iv_W) xa_NoEntries xb_NoEntries
  obtain ⟨x0_NoCode, x1_NoCode⟩ := xcl_of (P := l.prog) (w := w) (base := base) (st := s_NoCode___init__) oex_NoCode no_NoCode (PySem.W.mg_of X G aC_NoCode) i_NoCode ti_NoCode l_NoCode c_NoCode k_NoCode lT_NoCode (xi_NoCode (PySem.W.mg_of X G aC_Wrong) ga_W rd_W iv_W) xa_NoCode xb_NoCode
  obtain ⟨x0_NoRow, x1_NoRow⟩ := xcl_of (P := l.prog) (w := w) (base := base) (st := s_NoRow___init__) oex_NoRow no_NoRow (PySem.W.mg_of X G aC_NoRow) i_NoRow ti_NoRow l_NoRow c_NoRow k_NoRow lT_NoRow (xi_NoRow (PySem.W.mg_of X G aC_Wrong) ga_W rd_W iv_W) xa_NoRow xb_NoRow
  have f__law_kind : FnP l.prog w K mg base "_law_kind" _ _ _ := ⟨_, _, ok_kind F_law_kind T, PySem.W.mg_of X G a_law_kind, k_law_kind, b_law_kind⟩
  have f__law_how := how_asks (P := l.prog) (w := w) (base := base) T F_law_how (PySem.W.mg_of X G a_law_how) b_law_how f__law_kind
  have f_is_whole : Fn l.prog w K mg base "is_whole" _ _ _ := ⟨_, _, ok_whole F_is_whole T, PySem.W.mg_of X G a_is_whole, k_is_whole, b_is_whole⟩
  have f_is_word : Fn l.prog w K mg base "is_word" _ _ _ := ⟨_, _, ok_is_word F_is_word T, PySem.W.mg_of X G a_is_word, k_is_word, b_is_word⟩
  have f_look_word : Fn l.prog w K mg base "look_word" _ _ _ := ⟨_, _, ok_look1N F_look_word T f_is_word, PySem.W.mg_of X G a_look_word, k_look_word, b_look_word⟩
  have f_is_count : Fn l.prog w K mg base "is_count" _ _ _ := ⟨_, _, ok_count F_is_count T f_is_whole, PySem.W.mg_of X G a_is_count, k_is_count, b_is_count⟩
  have f_code : FnX l.prog w K mg base "code" _ _ _ := ⟨_, _, ok_code F_code T f_is_count, PySem.W.mg_of X G a_code, k_code, b_code⟩
  have f_joined_codes : FnX l.prog w K mg base "joined_codes" _ _ _ := ⟨_, _, ok_joinc F_joined_codes T f_code, PySem.W.mg_of X G a_joined_codes, k_joined_codes, b_joined_codes⟩
  have mk_CodeReader_1 : MkrX l.prog w K mg base "CodeReader" C_CodeReader _ _ [] _ := ⟨_, _, _, ⟨mk_CodeReader, a_CodeReader___init__, i_CodeReader___init__, kc_CodeReader⟩, ok_rdi F_CodeReader___init__ T x0_NoCode, PySem.W.mg_of X G aC_CodeReader, b_CodeReader___init__, .nil⟩
  have me_CodeReader_is_done : Me l.prog w K mg base C_CodeReader "is_done" _ _ _ := ⟨_, _, ok_done F_CodeReader_is_done T, ⟨a_CodeReader_is_done, i_CodeReader_is_done, k_CodeReader_is_done⟩, b_CodeReader_is_done⟩
  have me_CodeReader_next_number : MeX l.prog w K mg base C_CodeReader "next_number" _ _ _ := ⟨_, _, ok_next F_CodeReader_next_number T x1_NoCode, ⟨a_CodeReader_next_number, i_CodeReader_next_number, k_CodeReader_next_number⟩, b_CodeReader_next_number⟩
  have me_CodeReader_rising : MeX l.prog w K mg base C_CodeReader "rising" _ _ _ := ⟨_, _, ok_rise F_CodeReader_rising T me_CodeReader_next_number, ⟨a_CodeReader_rising, i_CodeReader_rising, k_CodeReader_rising⟩, b_CodeReader_rising⟩
  have f_gaps : Fn l.prog w K mg base "gaps" _ _ _ := ⟨_, _, ok_gaps F_gaps T, PySem.W.mg_of X G a_gaps, k_gaps, b_gaps⟩
  have f_is_rising : Fn l.prog w K mg base "is_rising" _ _ _ := ⟨_, _, ok_isr F_is_rising T f_is_count, PySem.W.mg_of X G a_is_rising, k_is_rising, b_is_rising⟩
  have f_is_entry : Fn l.prog w K mg base "is_entry" _ _ _ := ⟨_, _, ok_ise F_is_entry T f_is_count f_is_rising, PySem.W.mg_of X G a_is_entry, k_is_entry, b_is_entry⟩
  have f_look_entries : FnX l.prog w K mg base "look_entries" _ _ _ := ⟨_, _, ok_looke F_look_entries T f_is_entry x0_NoEntries x1_NoEntries, PySem.W.mg_of X G a_look_entries, k_look_entries, b_look_entries⟩
  have f_code_entries : FnX l.prog w K mg base "code_entries" _ _ _ := ⟨_, _, ok_codee F_code_entries T f_look_entries f_gaps f_joined_codes, PySem.W.mg_of X G a_code_entries, k_code_entries, b_code_entries⟩
  have f_decode_entries : Fn l.prog w K mg base "decode_entries" _ _ _ := ⟨_, _, ok_dece F_decode_entries T mk_CodeReader_1 me_CodeReader_is_done me_CodeReader_next_number me_CodeReader_rising, PySem.W.mg_of X G a_decode_entries, k_decode_entries, b_decode_entries⟩
  have mk_Block_2 : Mkr l.prog w K mg base "Block" C_Block _ _ [] _ := ⟨_, _, _, ⟨mk_Block, a_Block___init__, i_Block___init__, kc_Block⟩, ok_blk F_Block___init__ T f_code_entries, PySem.W.mg_of X G aC_Block, b_Block___init__, .nil⟩
  have me_Block_entries : Me l.prog w K mg base C_Block "entries" _ _ _ := ⟨_, _, ok_blke F_Block_entries T f_decode_entries, ⟨a_Block_entries, i_Block_entries, k_Block_entries⟩, b_Block_entries⟩
  have f_look_size : Fn l.prog w K mg base "look_size" _ _ _ := ⟨_, _, ok_looks F_look_size T f_is_whole, PySem.W.mg_of X G a_look_size, k_look_size, b_look_size⟩
  have f_look_lengths : Fn l.prog w K mg base "look_lengths" _ _ _ := ⟨_, _, ok_lookl F_look_lengths T f_is_whole, PySem.W.mg_of X G a_look_lengths, k_look_lengths, b_look_lengths⟩
  have f_look_fit : Fn l.prog w K mg base "look_fit" _ _ _ := ⟨_, _, ok_lookf F_look_fit T, PySem.W.mg_of X G a_look_fit, k_look_fit, b_look_fit⟩
  have G_row := ok_rowi (P := l.prog) (w := w) (base := base) F_Row___init__ T f_look_word f_look_entries f_look_lengths f_look_size f_look_fit mk_Block_2
  obtain ⟨d3, hd3, hb3⟩ := F_Row___init__.binds0 (ps := ["self", "word", "entries", "lengths", "size"]) 4 (by simp) rfl (fun D doc pm an cdv ct us ks h1 h2 => match us, ks, h1, h2 with | [_, _, _, _], [_], _, _ => ⟨_, _, _, _, _, _, rfl, rfl, rfl⟩)
  obtain ⟨mv, hb4⟩ := F_Row___init__.kbinds0 (ps := ["self", "word", "entries", "lengths", "size"]) 4 ["size"] [] (fun us _ ws => us ++ ws) (by simp) (by simp) (fun a b c => a.append c) (fun D doc pm an cdv ct us mv ws h1 h2 h3 => match us, mv, ws, h1, h2, h3 with | [_, _, _, _], [], [_], _, _, _ => rfl)
  have mk_Row_3 : Mkr l.prog w K mg base "Row" C_Row _ _ [.int 4] _ := ⟨_, _, _, ⟨mk_Row, a_Row___init__, i_Row___init__, kc_Row⟩, G_row, PySem.W.mg_of X G aC_Row, hb3, hd3⟩
  have mk_Row_size : MkrK l.prog w K mg base "Row" C_Row _ _ 3 ["size"] (fun vs zs => vs ++ zs) _ := ⟨_, _, _, ⟨mk_Row, a_Row___init__, i_Row___init__, kc_Row⟩, G_row, PySem.W.mg_of X G aC_Row, hb4⟩
  have me_Row_blocks : Me l.prog w K mg base C_Row "blocks" _ _ _ := ⟨_, _, ok_rowb F_Row_blocks T, ⟨a_Row_blocks, i_Row_blocks, k_Row_blocks⟩, b_Row_blocks⟩
  have f_look_slot : Fn l.prog w K mg base "look_slot" _ _ _ := ⟨_, _, ok_lslot F_look_slot T f_is_whole, PySem.W.mg_of X G a_look_slot, k_look_slot, b_look_slot⟩
  have mk_Walker_1 : Mkr l.prog w K mg base "Walker" C_Walker _ _ [] _ := ⟨_, _, _, ⟨mk_Walker, a_Walker___init__, i_Walker___init__, kc_Walker⟩, ok_wki F_Walker___init__ T me_Row_blocks, PySem.W.mg_of X G aC_Walker, b_Walker___init__, .nil⟩
  have me_Walker_is_done : Me l.prog w K mg base C_Walker "is_done" _ _ _ := ⟨_, _, ok_wkd F_Walker_is_done T, ⟨a_Walker_is_done, i_Walker_is_done, k_Walker_is_done⟩, b_Walker_is_done⟩
  have me_Walker_entry : Me l.prog w K mg base C_Walker "entry" _ _ _ := ⟨_, _, ok_wke F_Walker_entry T me_Block_entries, ⟨a_Walker_entry, i_Walker_entry, k_Walker_entry⟩, b_Walker_entry⟩
  have me_Walker_slot : Me l.prog w K mg base C_Walker "slot" _ _ _ := ⟨_, _, ok_wks F_Walker_slot T me_Walker_is_done me_Walker_entry, ⟨a_Walker_slot, i_Walker_slot, k_Walker_slot⟩, b_Walker_slot⟩
  have me_Walker_next_block : Me l.prog w K mg base C_Walker "next_block" _ _ _ := ⟨_, _, ok_wkb F_Walker_next_block T, ⟨a_Walker_next_block, i_Walker_next_block, k_Walker_next_block⟩, b_Walker_next_block⟩
  have me_Walker_seek : Me l.prog w K mg base C_Walker "seek" _ _ _ := ⟨_, _, ok_wkk F_Walker_seek T f_look_slot me_Walker_is_done me_Walker_entry me_Walker_next_block me_Walker_slot, ⟨a_Walker_seek, i_Walker_seek, k_Walker_seek⟩, b_Walker_seek⟩
  have me_Walker_opened : Me l.prog w K mg base C_Walker "opened" _ _ _ := ⟨_, _, ok_wko F_Walker_opened T, ⟨a_Walker_opened, i_Walker_opened, k_Walker_opened⟩, b_Walker_opened⟩
  have me_Walker_block : Me l.prog w K mg base C_Walker "block" _ _ _ := ⟨_, _, ok_wkl F_Walker_block T me_Walker_is_done, ⟨a_Walker_block, i_Walker_block, k_Walker_block⟩, b_Walker_block⟩
  have me_Walker_places : Me l.prog w K mg base C_Walker "places" _ _ _ := ⟨_, _, ok_wkp F_Walker_places T me_Walker_is_done me_Walker_entry, ⟨a_Walker_places, i_Walker_places, k_Walker_places⟩, b_Walker_places⟩
  have me_Walker_glance : MeX l.prog w K mg base C_Walker "glance" _ _ _ := ⟨_, _, ok_wkgl F_Walker_glance T x0_NoRow x1_NoRow f_is_whole me_Walker_seek, ⟨a_Walker_glance, i_Walker_glance, k_Walker_glance⟩, b_Walker_glance⟩
  have f__law_pool : Fn l.prog w K mg base "_law_pool" _ _ _ := ⟨_, _, ok_pool F_law_pool T, PySem.W.mg_of X G a_law_pool, k_law_pool, b_law_pool⟩
  have f__law_take : Fn l.prog w K mg base "_law_take" _ _ _ := ⟨_, _, ok_take F_law_take , PySem.W.mg_of X G a_law_take, k_law_take, b_law_take⟩
  have f__law_kinds : Fn l.prog w K mg base "_law_kinds" _ _ _ := ⟨_, _, ok_kinds F_law_kinds T f__law_take, PySem.W.mg_of X G a_law_kinds, k_law_kinds, b_law_kinds⟩
  have f__law_row_entries : Fn l.prog w K mg base "_law_row_entries" _ _ _ := ⟨_, _, ok_rents F_law_row_entries T f__law_take, PySem.W.mg_of X G a_law_row_entries, k_law_row_entries, b_law_row_entries⟩
  have f__law_lengths : Fn l.prog w K mg base "_law_lengths" _ _ _ := ⟨_, _, ok_lens F_law_lengths T f__law_take, PySem.W.mg_of X G a_law_lengths, k_law_lengths, b_law_lengths⟩
  have f__law_whole : Fn l.prog w K mg base "_law_whole" _ _ _ := ⟨_, _, ok_lwhole F_law_whole T, PySem.W.mg_of X G a_law_whole, k_law_whole, b_law_whole⟩
  have f__law_seek : Fn l.prog w K mg base "_law_seek" _ _ _ := ⟨_, _, ok_lseek F_law_seek T, PySem.W.mg_of X G a_law_seek, k_law_seek, b_law_seek⟩
  have f__law_slot : Fn l.prog w K mg base "_law_slot" _ _ _ := ⟨_, _, ok_lslot2 F_law_slot T, PySem.W.mg_of X G a_law_slot, k_law_slot, b_law_slot⟩
  have f__law_aims : Fn l.prog w K mg base "_law_aims" _ _ _ := ⟨_, _, ok_aims F_law_aims T f__law_take, PySem.W.mg_of X G a_law_aims, k_law_aims, b_law_aims⟩
  have f__law_slots_opened : Fn l.prog w K mg base "_law_slots_opened" _ _ _ := ⟨_, _, ok_opens F_law_slots_opened T, PySem.W.mg_of X G a_law_slots_opened, k_law_slots_opened, b_law_slots_opened⟩
  have f__law_glanced : Fn l.prog w K mg base "_law_glanced" _ _ _ := ⟨_, _, ok_glc F_law_glanced T f__law_whole f__law_slots_opened f__law_seek f__law_slot, PySem.W.mg_of X G a_law_glanced, k_law_glanced, b_law_glanced⟩
  have f__law_right : Fn l.prog w K mg base "_law_right" _ _ _ := ⟨_, _, ok_right (TT := [(P_law_right, lamN "_law_right"), (P_law, lamN "law")]) FC_law_right T tb_law_right List.mem_cons_self hu_law_right f__law_glanced f__law_slot me_Walker_slot me_Walker_opened me_Walker_glance f__law_how, PySem.W.mg_of X G a_law_right, k_law_right, b_law_right⟩
  exact ok_law FC_law T tb_law (List.mem_cons_of_mem _ List.mem_cons_self) hu_law f__law_pool f__law_take f__law_kinds f__law_row_entries f__law_lengths f__law_seek f__law_slot f__law_aims f__law_slots_opened f__law_right mk_Row_size mk_Walker_1 me_Walker_seek me_Walker_places me_Walker_glance f__law_how
end K16

open PySem PySem.W PySem.Calls PyProof.Rows
set_option maxRecDepth 100000 in
set_option maxHeartbeats 0 in
theorem PySem.Challenge.cw_blocksearch_k16_glances_holds : PySem.Challenge.rw_blocksearch_k16_glances.Holds := by
  refine topK16 ?_
  k_fill
  refine LamX.walk_ofTsE (l := PySem.Challenge.rw_blocksearch_k16_glances) (n := 63) (k := 17) (x := "_law_script") (CX := fun _ => L2.CX0) rfl (by decide) rfl ⟨rfl, by decide, by decide⟩ ?F (fun _ _ _ _ _ h => h.elim)
  case F =>
    intro w mg fa h Y G hmg
    refine ⟨_, Bw.kt_in_of Y, ?_⟩
    refine' K16.all_mk (Bw.kt_in_of Y) G hmg ?aC_Wrong ?aC_NoWord ?aC_NoText ?aC_NoNumber ?aC_NoSize ?aC_NoLengths ?aC_NoQuery ?aC_NoCode ?aC_NoRow ?aC_NoEntries ?aC_NoQueryText ?aC_NoPages ?aC_NoName ?aC_NoQueries ?aC_NoShelf ?aC_NoDeed ?aC_Taken ?aC_NoPlace ?aC_NoSlot ?g_LETTERS ?g_LONGEST ?g_MOST ?g_ENDS ?g_FURTHER ?g_BASE ?g_SIZE ?g_GREATEST ?g_MOST_PAGES ?z_isinstance ?z_bool ?z_int ?z_str ?z_list ?z_tuple ?z_len ?z_all ?z_max ?z_min ?z_range ?z_abs ?z_enumerate ?z_divmod ?z_zip ?z_ValueError ?z_IndexError ?q_NoNumber ?kp_NoNumber ?e1_NoNumber ?e2_NoNumber ?oex_NoEntries ?no_NoEntries ?i_NoEntries ?ti_NoEntries ?l_NoEntries ?c_NoEntries ?k_NoEntries ?lT_NoEntries ?oex_NoCode ?no_NoCode ?i_NoCode ?ti_NoCode ?l_NoCode ?c_NoCode ?k_NoCode ?lT_NoCode ?oex_NoRow ?no_NoRow ?i_NoRow ?ti_NoRow ?l_NoRow ?c_NoRow ?k_NoRow ?lT_NoRow ?h_NoRow ?ga_W ?rd_W ?iv_W ?aC_CodeReader ?pg_CodeReader ?hd_CodeReader ?po_CodeReader ?sa_CodeReader ?na_CodeReader_text ?na_CodeReader_at ?aC_Block ?pg_Block ?hd_Block ?po_Block ?sa_Block ?na_Block_first ?na_Block_last ?na_Block_many ?na_Block_most ?na_Block_least ?na_Block_coded ?na_Block_counts ?aC_Row ?pg_Row ?hd_Row ?po_Row ?sa_Row ?na_Row_word ?na_Row_size ?na_Row_kept ?aC_Walker ?pg_Walker ?hd_Walker ?po_Walker ?sa_Walker ?na_Walker_kept ?na_Walker_at_block ?na_Walker_at_entry ?na_Walker_decoded ?a_law_kind ?l_law_kind ?c_law_kind ?k_law_kind ?a_law_how ?l_law_how ?c_law_how ?k_law_how ?a_is_whole ?l_is_whole ?c_is_whole ?k_is_whole ?a_is_word ?l_is_word ?c_is_word ?k_is_word ?a_look_word ?l_look_word ?c_look_word ?k_look_word ?a_is_count ?l_is_count ?c_is_count ?k_is_count ?a_code ?l_code ?c_code ?k_code ?a_joined_codes ?l_joined_codes ?c_joined_codes ?k_joined_codes ?a_CodeReader___init__ ?i_CodeReader___init__ ?l_CodeReader___init__ ?c_CodeReader___init__ ?k_CodeReader___init__ ?mk_CodeReader ?kc_CodeReader ?a_CodeReader_is_done ?i_CodeReader_is_done ?l_CodeReader_is_done ?c_CodeReader_is_done ?k_CodeReader_is_done ?a_CodeReader_next_number ?i_CodeReader_next_number ?l_CodeReader_next_number ?c_CodeReader_next_number ?k_CodeReader_next_number ?a_CodeReader_rising ?i_CodeReader_rising ?l_CodeReader_rising ?c_CodeReader_rising ?k_CodeReader_rising ?a_gaps ?l_gaps ?c_gaps ?k_gaps ?a_is_rising ?l_is_rising ?c_is_rising ?k_is_rising ?a_is_entry ?l_is_entry ?c_is_entry ?k_is_entry ?a_look_entries ?l_look_entries ?c_look_entries ?k_look_entries ?a_code_entries ?l_code_entries ?c_code_entries ?k_code_entries ?a_decode_entries ?l_decode_entries ?c_decode_entries ?k_decode_entries ?a_Block___init__ ?i_Block___init__ ?l_Block___init__ ?c_Block___init__ ?k_Block___init__ ?mk_Block ?kc_Block ?a_Block_entries ?i_Block_entries ?l_Block_entries ?c_Block_entries ?k_Block_entries ?a_look_size ?l_look_size ?c_look_size ?k_look_size ?a_look_lengths ?l_look_lengths ?c_look_lengths ?k_look_lengths ?a_look_fit ?l_look_fit ?c_look_fit ?k_look_fit ?a_Row___init__ ?i_Row___init__ ?l_Row___init__ ?kw_Row___init___size ?c_Row___init__ ?k_Row___init__ ?mk_Row ?kc_Row ?a_Row_blocks ?i_Row_blocks ?l_Row_blocks ?c_Row_blocks ?k_Row_blocks ?a_look_slot ?l_look_slot ?c_look_slot ?k_look_slot ?a_Walker___init__ ?i_Walker___init__ ?l_Walker___init__ ?c_Walker___init__ ?k_Walker___init__ ?mk_Walker ?kc_Walker ?a_Walker_is_done ?i_Walker_is_done ?l_Walker_is_done ?c_Walker_is_done ?k_Walker_is_done ?a_Walker_entry ?i_Walker_entry ?l_Walker_entry ?c_Walker_entry ?k_Walker_entry ?a_Walker_slot ?i_Walker_slot ?l_Walker_slot ?c_Walker_slot ?k_Walker_slot ?a_Walker_next_block ?i_Walker_next_block ?l_Walker_next_block ?c_Walker_next_block ?k_Walker_next_block ?a_Walker_seek ?i_Walker_seek ?l_Walker_seek ?c_Walker_seek ?k_Walker_seek ?a_Walker_opened ?i_Walker_opened ?l_Walker_opened ?c_Walker_opened ?k_Walker_opened ?a_Walker_block ?i_Walker_block ?l_Walker_block ?c_Walker_block ?k_Walker_block ?a_Walker_places ?i_Walker_places ?l_Walker_places ?c_Walker_places ?k_Walker_places ?a_Walker_glance ?i_Walker_glance ?l_Walker_glance ?c_Walker_glance ?k_Walker_glance ?a_law_pool ?l_law_pool ?c_law_pool ?k_law_pool ?a_law_take ?l_law_take ?c_law_take ?k_law_take ?a_law_kinds ?l_law_kinds ?c_law_kinds ?k_law_kinds ?a_law_row_entries ?l_law_row_entries ?c_law_row_entries ?k_law_row_entries ?a_law_lengths ?l_law_lengths ?c_law_lengths ?k_law_lengths ?a_law_whole ?l_law_whole ?c_law_whole ?k_law_whole ?a_law_seek ?l_law_seek ?c_law_seek ?k_law_seek ?a_law_slot ?l_law_slot ?c_law_slot ?k_law_slot ?a_law_aims ?l_law_aims ?c_law_aims ?k_law_aims ?a_law_slots_opened ?l_law_slots_opened ?c_law_slots_opened ?k_law_slots_opened ?a_law_glanced ?l_law_glanced ?c_law_glanced ?k_law_glanced ?a_law_right ?l_law_right ?c_law_right ?k_law_right ?a_law ?l_law ?c_law ?k_law ?t_law_right ?ch_law_right ?nk_law_right ?t_law ?ch_law ?nk_law ?pne_law_right_law ?pne_law_law_right
    (case aC_Wrong => k_is); (case aC_NoWord => k_is); (case aC_NoText => k_is); (case aC_NoNumber => k_is); (case aC_NoSize => k_is); (case aC_NoLengths => k_is); (case aC_NoQuery => k_is); (case aC_NoCode => k_is); (case aC_NoRow => k_is); (case aC_NoEntries => k_is); (case aC_NoQueryText => k_is); (case aC_NoPages => k_is); (case aC_NoName => k_is); (case aC_NoQueries => k_is); (case aC_NoShelf => k_is); (case aC_NoDeed => k_is); (case aC_Taken => k_is); (case aC_NoPlace => k_is); (case aC_NoSlot => k_is); (case g_LETTERS => k_is); (case g_LONGEST => k_is); (case g_MOST => k_is); (case g_ENDS => k_is); (case g_FURTHER => k_is); (case g_BASE => k_is); (case g_SIZE => k_is); (case g_GREATEST => k_is); (case g_MOST_PAGES => k_is); (case z_isinstance => k_is); (case z_bool => k_is); (case z_int => k_is); (case z_str => k_is); (case z_list => k_is); (case z_tuple => k_is); (case z_len => k_is); (case z_all => k_is); (case z_max => k_is); (case z_min => k_is); (case z_range => k_is); (case z_abs => k_is); (case z_enumerate => k_is); (case z_divmod => k_is); (case z_zip => k_is); (case z_ValueError => k_is); (case z_IndexError => k_is); (case q_NoNumber => k_exc); (case kp_NoNumber => k_is); (case e1_NoNumber => k_is); (case e2_NoNumber => k_is); (case oex_NoEntries => (refine' oex_mk ?ol ?or ?oa ?ob ?oc ?od; (case ol => k_is); (case or => rfl); (case oa => k_is); (case ob => k_is); (case oc => k_is); (case od => k_is))); (case no_NoEntries => k_is); (case i_NoEntries => k_is); (case ti_NoEntries => k_is); (case l_NoEntries => k_is); (case c_NoEntries => k_is); (case k_NoEntries => k_is); (case lT_NoEntries => k_is); (case oex_NoCode => (refine' oex_mk ?ol ?or ?oa ?ob ?oc ?od; (case ol => k_is); (case or => rfl); (case oa => k_is); (case ob => k_is); (case oc => k_is); (case od => k_is))); (case no_NoCode => k_is); (case i_NoCode => k_is); (case ti_NoCode => k_is); (case l_NoCode => k_is); (case c_NoCode => k_is); (case k_NoCode => k_is); (case lT_NoCode => k_is); (case oex_NoRow => (refine' oex_mk ?ol ?or ?oa ?ob ?oc ?od; (case ol => k_is); (case or => rfl); (case oa => k_is); (case ob => k_is); (case oc => k_is); (case od => k_is))); (case no_NoRow => k_is); (case i_NoRow => k_is); (case ti_NoRow => k_is); (case l_NoRow => k_is); (case c_NoRow => k_is); (case k_NoRow => k_is); (case lT_NoRow => k_is); (case h_NoRow => exact Eq.refl true); (case ga_W => k_is); (case rd_W => k_is); (case iv_W => k_is); (case aC_CodeReader => k_is); (case pg_CodeReader => k_is); (case hd_CodeReader => k_is); (case po_CodeReader => k_is); (case sa_CodeReader => k_is); (case na_CodeReader_text => k_is); (case na_CodeReader_at => k_is); (case aC_Block => k_is); (case pg_Block => k_is); (case hd_Block => k_is); (case po_Block => k_is); (case sa_Block => k_is); (case na_Block_first => k_is); (case na_Block_last => k_is); (case na_Block_many => k_is); (case na_Block_most => k_is); (case na_Block_least => k_is); (case na_Block_coded => k_is); (case na_Block_counts => k_is); (case aC_Row => k_is); (case pg_Row => k_is); (case hd_Row => k_is); (case po_Row => k_is); (case sa_Row => k_is); (case na_Row_word => k_is); (case na_Row_size => k_is); (case na_Row_kept => k_is); (case aC_Walker => k_is); (case pg_Walker => k_is); (case hd_Walker => k_is); (case po_Walker => k_is); (case sa_Walker => k_is); (case na_Walker_kept => k_is); (case na_Walker_at_block => k_is); (case na_Walker_at_entry => k_is); (case na_Walker_decoded => k_is); (case a_law_kind => k_is); (case l_law_kind => k_is); (case c_law_kind => k_is); (case k_law_kind => k_is); (case a_law_how => k_is); (case l_law_how => k_is); (case c_law_how => k_is); (case k_law_how => k_is); (case a_is_whole => k_is); (case l_is_whole => k_is); (case c_is_whole => k_is); (case k_is_whole => k_is); (case a_is_word => k_is); (case l_is_word => k_is); (case c_is_word => k_is); (case k_is_word => k_is); (case a_look_word => k_is); (case l_look_word => k_is); (case c_look_word => k_is); (case k_look_word => k_is); (case a_is_count => k_is); (case l_is_count => k_is); (case c_is_count => k_is); (case k_is_count => k_is); (case a_code => k_is); (case l_code => k_is); (case c_code => k_is); (case k_code => k_is); (case a_joined_codes => k_is); (case l_joined_codes => k_is); (case c_joined_codes => k_is); (case k_joined_codes => k_is); (case a_CodeReader___init__ => k_is); (case i_CodeReader___init__ => k_is); (case l_CodeReader___init__ => k_is); (case c_CodeReader___init__ => k_is); (case k_CodeReader___init__ => k_is); (case mk_CodeReader => k_is); (case kc_CodeReader => k_is); (case a_CodeReader_is_done => k_is); (case i_CodeReader_is_done => k_is); (case l_CodeReader_is_done => k_is); (case c_CodeReader_is_done => k_is); (case k_CodeReader_is_done => k_is); (case a_CodeReader_next_number => k_is); (case i_CodeReader_next_number => k_is); (case l_CodeReader_next_number => k_is); (case c_CodeReader_next_number => k_is); (case k_CodeReader_next_number => k_is); (case a_CodeReader_rising => k_is); (case i_CodeReader_rising => k_is); (case l_CodeReader_rising => k_is); (case c_CodeReader_rising => k_is); (case k_CodeReader_rising => k_is); (case a_gaps => k_is); (case l_gaps => k_is); (case c_gaps => k_is); (case k_gaps => k_is); (case a_is_rising => k_is); (case l_is_rising => k_is); (case c_is_rising => k_is); (case k_is_rising => k_is); (case a_is_entry => k_is); (case l_is_entry => k_is); (case c_is_entry => k_is); (case k_is_entry => k_is); (case a_look_entries => k_is); (case l_look_entries => k_is); (case c_look_entries => k_is); (case k_look_entries => k_is); (case a_code_entries => k_is); (case l_code_entries => k_is); (case c_code_entries => k_is); (case k_code_entries => k_is); (case a_decode_entries => k_is); (case l_decode_entries => k_is); (case c_decode_entries => k_is); (case k_decode_entries => k_is); (case a_Block___init__ => k_is); (case i_Block___init__ => k_is); (case l_Block___init__ => k_is); (case c_Block___init__ => k_is); (case k_Block___init__ => k_is); (case mk_Block => k_is); (case kc_Block => k_is); (case a_Block_entries => k_is); (case i_Block_entries => k_is); (case l_Block_entries => k_is); (case c_Block_entries => k_is); (case k_Block_entries => k_is); (case a_look_size => k_is); (case l_look_size => k_is); (case c_look_size => k_is); (case k_look_size => k_is); (case a_look_lengths => k_is); (case l_look_lengths => k_is); (case c_look_lengths => k_is); (case k_look_lengths => k_is); (case a_look_fit => k_is); (case l_look_fit => k_is); (case c_look_fit => k_is); (case k_look_fit => k_is); (case a_Row___init__ => k_is); (case i_Row___init__ => k_is); (case l_Row___init__ => k_is); (case kw_Row___init___size => k_is); (case c_Row___init__ => k_is); (case k_Row___init__ => k_is); (case mk_Row => k_is); (case kc_Row => k_is); (case a_Row_blocks => k_is); (case i_Row_blocks => k_is); (case l_Row_blocks => k_is); (case c_Row_blocks => k_is); (case k_Row_blocks => k_is); (case a_look_slot => k_is); (case l_look_slot => k_is); (case c_look_slot => k_is); (case k_look_slot => k_is); (case a_Walker___init__ => k_is); (case i_Walker___init__ => k_is); (case l_Walker___init__ => k_is); (case c_Walker___init__ => k_is); (case k_Walker___init__ => k_is); (case mk_Walker => k_is); (case kc_Walker => k_is); (case a_Walker_is_done => k_is); (case i_Walker_is_done => k_is); (case l_Walker_is_done => k_is); (case c_Walker_is_done => k_is); (case k_Walker_is_done => k_is); (case a_Walker_entry => k_is); (case i_Walker_entry => k_is); (case l_Walker_entry => k_is); (case c_Walker_entry => k_is); (case k_Walker_entry => k_is); (case a_Walker_slot => k_is); (case i_Walker_slot => k_is); (case l_Walker_slot => k_is); (case c_Walker_slot => k_is); (case k_Walker_slot => k_is); (case a_Walker_next_block => k_is); (case i_Walker_next_block => k_is); (case l_Walker_next_block => k_is); (case c_Walker_next_block => k_is); (case k_Walker_next_block => k_is); (case a_Walker_seek => k_is); (case i_Walker_seek => k_is); (case l_Walker_seek => k_is); (case c_Walker_seek => k_is); (case k_Walker_seek => k_is); (case a_Walker_opened => k_is); (case i_Walker_opened => k_is); (case l_Walker_opened => k_is); (case c_Walker_opened => k_is); (case k_Walker_opened => k_is); (case a_Walker_block => k_is); (case i_Walker_block => k_is); (case l_Walker_block => k_is); (case c_Walker_block => k_is); (case k_Walker_block => k_is); (case a_Walker_places => k_is); (case i_Walker_places => k_is); (case l_Walker_places => k_is); (case c_Walker_places => k_is); (case k_Walker_places => k_is); (case a_Walker_glance => k_is); (case i_Walker_glance => k_is); (case l_Walker_glance => k_is); (case c_Walker_glance => k_is); (case k_Walker_glance => k_is); (case a_law_pool => k_is); (case l_law_pool => k_is); (case c_law_pool => k_is); (case k_law_pool => k_is); (case a_law_take => k_is); (case l_law_take => k_is); (case c_law_take => k_is); (case k_law_take => k_is); (case a_law_kinds => k_is); (case l_law_kinds => k_is); (case c_law_kinds => k_is); (case k_law_kinds => k_is); (case a_law_row_entries => k_is); (case l_law_row_entries => k_is); (case c_law_row_entries => k_is); (case k_law_row_entries => k_is); (case a_law_lengths => k_is); (case l_law_lengths => k_is); (case c_law_lengths => k_is); (case k_law_lengths => k_is); (case a_law_whole => k_is); (case l_law_whole => k_is); (case c_law_whole => k_is); (case k_law_whole => k_is); (case a_law_seek => k_is); (case l_law_seek => k_is); (case c_law_seek => k_is); (case k_law_seek => k_is); (case a_law_slot => k_is); (case l_law_slot => k_is); (case c_law_slot => k_is); (case k_law_slot => k_is); (case a_law_aims => k_is); (case l_law_aims => k_is); (case c_law_aims => k_is); (case k_law_aims => k_is); (case a_law_slots_opened => k_is); (case l_law_slots_opened => k_is); (case c_law_slots_opened => k_is); (case k_law_slots_opened => k_is); (case a_law_glanced => k_is); (case l_law_glanced => k_is); (case c_law_glanced => k_is); (case k_law_glanced => k_is); (case a_law_right => k_is); (case l_law_right => k_is); (case c_law_right => k_is); (case k_law_right => k_is); (case a_law => k_is); (case l_law => k_is); (case c_law => k_is); (case k_law => k_is); (case t_law_right => exact Bw.kt_tabs_of (nkK16 _) Y _ List.mem_cons_self); (case ch_law_right => exact Eq.refl true); (case nk_law_right => exact Eq.refl none); (case t_law => exact Bw.kt_tabs_of (nkK16 _) Y _ (List.mem_cons_of_mem _ List.mem_cons_self)); (case ch_law => exact Eq.refl true); (case nk_law => exact Eq.refl none); (case pne_law_right_law => exact Nat.ne_of_beq_eq_false rfl); (case pne_law_law_right => exact Nat.ne_of_beq_eq_false rfl)

