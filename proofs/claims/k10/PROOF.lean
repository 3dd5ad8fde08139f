import PyProof.Rows.All
import Wide.All
import OpenK.AllK
import Wide.FinOn
import HandS.ForMost
import HandS.ForExc
import HandS.Wide
import HandS.Style
import HandS.Flow
import HandS.IsInst
import HandS.OwnEq
import PyProof.Rows.SetFrom
import PyProof.StrWalks
import PyProof.InstNe
import HandS.Exc
import HandS.Defaults
import HandS.Walk
import PyProof.Rows.StrRev
import HandS.Steps
import PySem.Challenge.RW_crosswalls_k10_rooms_refused
import KE.GoesMore
import HandS.TupLe
import HandS.ExcOwn
import HandS.ExcIs
import PyProof.ExcBaseAll.ValueError
import HandS.Iter
import HandS.Conv
import HandS.More
import HandS.WordsExc
import HandS.MakeKw
import HandS.MakeKwOnly
import HandS.Codes
import PyProof.FString5
import HandS.ExcInit
import HandS.Nested
import KE.KExcSuper
import HandS.ExcField
import KE.KExcIs
import HandS.TryMany
import KE.KOpsOwn
import HandS.Lambda
import HandS.DeepEq
import PyProof.NeKinds
import HandS.Ends
import HandS.EndTab
import KE.KStateDown
import HandS.Head0
import HandS.Head1
import HandS.Head2
import KE.KNestM
set_option Elab.async false
set_option maxRecDepth 100000
set_option maxHeartbeats 4000000
/-! Own words over the hand layer: defs by name, texts as lists of codes. -/
namespace Cw
open PySem PySem.Spec PyProof.Rows L2

/-! ### defs by their module name -/
/-- a def of the module stands as the text has it -/
structure FnAt (K : PySem.W.Frag) (mg : Str → Option Value) (x : Str) (st : Stmt) : Prop where
  ex : ∃ f fd, mg x = some (.ref f) ∧ Fun K x x st f fd
/-- how a def's arguments bind where all are given, and where it stands -/
structure Bd (K : PySem.W.Frag) (f : Addr) (fd : FuncData) (ps : List Str) : Prop where
  b : Binds K fd ps []
  lk : ∃ oc od osl, K.lookup f = some ⟨oc, od, .func fd, osl⟩
theorem funLk {K : PySem.W.Frag} {x qual : Str} {st : Stmt} {f : Addr} {fd : FuncData} (F : Fun K x qual st f fd) : ∃ oc od osl, K.lookup f = some ⟨oc, od, .func fd, osl⟩ := by
  obtain ⟨oc, od, kV, doc, pm, an, cdv, ct, osl, rfl, lk, _⟩ := F.ex
  exact ⟨oc, od, osl, lk⟩
/-- a def of the module keeps a promise -/
structure Def (P : Program) (w : World) (K : PySem.W.Frag) (mg : Str → Option Value) (base : Heap) (CX : CXT) (k : Nat) (x : Str) (ps : List Str) (sp : Sp) : Prop where
  ex : ∃ f fd, mg x = some (.ref f) ∧ PySem.W.keepIn K (.ref f) = true ∧ Bd K f fd ps ∧ FnOk P w K mg base CX k f fd ps sp
section
variable {P : Program} {w : World} {K : PySem.W.Frag} {mg : Str → Option Value} {base : Heap} {CX : CXT} {k : Nat} {x : Str} {ps N : List Str} {sp : Sp} {st : Stmt}
theorem Def.mono {j : Nat} (D : Def P w K mg base CX j x ps sp) (h : j ≤ k) : Def P w K mg base CX k x ps sp := by
  obtain ⟨f, fd, a, b, c, d⟩ := D.ex
  exact ⟨f, fd, a, b, c, d.mono h⟩
theorem Def.imp {sp' : Sp} (D : Def P w K mg base CX k x ps sp) (h : ∀ vs H Q E, sp' vs H Q E → sp vs H Q E) : Def P w K mg base CX k x ps sp' := by
  obtain ⟨f, fd, a, b, c, d⟩ := D.ex
  exact ⟨f, fd, a, b, c, d.imp h⟩
/-- a def that lets no exception out -/
theorem FnAt.ok (F : FnAt K mg x st) (S : FnScope N ps (defScope st))
    (hb : ∀ (kV doc pm : Value) (an : Option Addr) (cdv ct : Value) (us : List Value), us.length = ps.length → bindArgs (PySem.W.fnOf x x (defArgs st) (defBody st) (defScope st) .none kV doc pm an cdv ct) ⟨us, []⟩ = pure (ps.zip us))
    (len : ∀ vs H Q E, sp vs H Q E → vs.length = ps.length)
    (hbody : ∀ (f : Addr) (cdv : Value) (A : Around) (outer : List Env) (s : Shared) (H : Hp) (vs : List V) (Q : VK) (E : XK), Room k (A.deeper (envOfC x (defScope st) s.heap.objs.size f cdv)) → sp vs H Q E →
      ∃ t, PSs (cxOf CX0 P w K mg base N x (defScope st) f cdv A outer s H E).nox (defBody st) t ∧ t { nx := fun _ H' => Q .non H', rt := Q } (start N vs) H) : Def P w K mg base CX0 (k + 1) x ps sp := by
  obtain ⟨f, fd, hm, F⟩ := F.ex
  exact ⟨f, fd, hm, F.kp, ⟨F.binds hb, funLk F⟩, F.ok S len fun cdv A outer s H vs Q E hr h => hbody f cdv A outer s H vs Q E hr h⟩
/-- a def that may raise -/
theorem FnAt.okX (F : FnAt K mg x st) (S : FnScope N ps (defScope st))
    (hb : ∀ (kV doc pm : Value) (an : Option Addr) (cdv ct : Value) (us : List Value), us.length = ps.length → bindArgs (PySem.W.fnOf x x (defArgs st) (defBody st) (defScope st) .none kV doc pm an cdv ct) ⟨us, []⟩ = pure (ps.zip us))
    (len : ∀ vs H Q E, sp vs H Q E → vs.length = ps.length)
    (hbody : ∀ (f : Addr) (cdv : Value) (A : Around) (outer : List Env) (s : Shared) (H : Hp) (vs : List V) (Q : VK) (E : XK), Room k (A.deeper (envOfC x (defScope st) s.heap.objs.size f cdv)) → sp vs H Q E →
      ∃ t, PSs (cxOf (L2.CX P w) P w K mg base N x (defScope st) f cdv A outer s H E) (defBody st) t ∧ t { nx := fun _ H' => Q .non H', rt := Q } (start N vs) H) : Def P w K mg base (L2.CX P w) (k + 1) x ps sp := by
  obtain ⟨f, fd, hm, F⟩ := F.ex
  exact ⟨f, fd, hm, F.kp, ⟨F.binds hb, funLk F⟩, F.okX S len fun cdv A outer s H vs Q E hr h => hbody f cdv A outer s H vs Q E hr h⟩
end
section
variable {X : Cx} {CX : CXT} {k : Nat} {ps : List Str} {sp : Sp} {E : XK} {x : Str} {p pos : PySem.Pos} {e : Expr} {es : List Expr} {t : TA}
/-- f(e, ..) of a def that is known by its name -/
theorem pe_cd (D : Def X.prog X.w X.K X.mg X.base CX k x ps sp) (hr : Room k X.A) (hx : Passes CX X E) (ha : PA X (e :: es) t) (hg : Gl X x := by rfl) (hdb : (x == ("__debug__" : Str)) = false := by decide)
    (he : starEach (e :: es) X.env = (false, eval e X.env) :: starEach es X.env := by rfl) (hpl : (backTo pos (starEach es X.env)).any (·.1) = false := by rfl) : PE X (.Call (.Name x p) (e :: es) [] pos) (tCall sp [] E t) := by
  obtain ⟨f, fd, a, b, c, d⟩ := D.ex
  exact pe_call d hr hg a b c.b .nil hx ha hdb he hpl
end
/-! ### heaps -/
/-- all but the object at p is kept -/
def Keep (p : Addr) (H H' : Hp) : Prop := ∀ b o, H b = some o → b ≠ p → H' b = some o
theorem Keep.refl (p : Addr) (H : Hp) : Keep p H H := fun _ _ h _ => h
theorem Keep.trans {p : Addr} {H H1 H2 : Hp} (a : Keep p H H1) (b : Keep p H1 H2) : Keep p H H2 := fun c o h n => b c o (a c o h n) n
theorem Keep.of {p : Addr} {H H' : Hp} (a : Same H H') : Keep p H H' := fun c o h _ => a c o h
theorem Same.at {H H' : Hp} {a : Addr} {o : HO} (S : Same H H') (h : H a = some o) : H' a = some o := S a o h
theorem Keep.at {p : Addr} {H H' : Hp} {a : Addr} {o : HO} (S : Keep p H H') (h : H a = some o) (n : a ≠ p) : H' a = some o := S a o h n
theorem Same.new {H : Hp} {p : Addr} {o : HO} (h : H p = none) : Same H (upd H p o) := fun a u e => by
  rw [upd_ne (ne_of_none e h)]
  exact e
theorem Keep.put {p : Addr} {H : Hp} {o : HO} : Keep p H (upd H p o) := fun a u e n => by
  rw [upd_ne n]
  exact e
end Cw
set_option Elab.async false
set_option linter.all false
set_option maxRecDepth 100000
set_option maxHeartbeats 4000000
namespace Cw
open PySem PySem.Spec L2
/-! ### texts as lists of codes -/
abbrev tx (l : List Nat) : Str := ⟨l.toArray⟩
theorem tx_len (l : List Nat) : (tx l).length = l.length := by
  show (l.toArray).size = l.length
  simp
theorem tx_app (a b : List Nat) : tx a ++ tx b = tx (a ++ b) := by
  show (⟨a.toArray ++ b.toArray⟩ : Str) = ⟨(a ++ b).toArray⟩
  simp
theorem tx_eq {z : Str} : z = tx z.cps.toList := by
  cases z
  simp [tx]
theorem tx_inj {a b : List Nat} : tx a = tx b ↔ a = b := by
  constructor
  · intro h
    have := congrArg (fun z : Str => z.cps.toList) h
    simpa using this
  · intro h
    rw [h]
theorem dec_tx {a b : List Nat} : decide (V.str (tx a) = V.str (tx b)) = decide (a = b) := by
  rw [Bool.eq_iff_iff, decide_eq_true_iff, decide_eq_true_iff]
  constructor
  · intro h
    injection h with h
    exact tx_inj.mp h
  · intro h
    rw [h]

/-! ### stepping: expressions -/
section
variable {σ : St} {H : Hp} {Q : VK} {i : Nat} {v x y : V} {ta tb te : TE} {r : R2} {D : Ends} {K : PySem.W.Frag}
theorem e_c (q : Q v H) : tC v σ H Q := q
theorem e_op (q : ta σ H fun x H1 => tb σ H1 fun y H2 => r x y H2 Q) : tOp r ta tb σ H Q := q
theorem e_un {r : V → Hp → VK → Prop} (q : ta σ H fun x H1 => r x H1 Q) : tUn r ta σ H Q := q
theorem v_I0 {g : Int → Int → V} {a b : Int} (q : Q (g a b) H) : rI0 g (.int a) (.int b) H Q := ⟨a, b, rfl, rfl, q⟩
theorem v_I {C : Int → Int → Prop} {g : Int → Int → V} {a b : Int} (c : C a b) (q : Q (g a b) H) : rI C g (.int a) (.int b) H Q := ⟨a, b, rfl, rfl, c, q⟩
theorem v_eq (c : scal x y = true) (q : Q (.bl (decide (x = y))) H) : rEq x y H Q := ⟨c, q⟩
theorem v_ne (c : scal x y = true) (q : Q (.bl (!decide (x = y))) H) : rNe x y H Q := ⟨c, q⟩
theorem v_bl {P : Bool → Prop} {b : Bool} (q : P b) : ∃ k, V.bl b = V.bl k ∧ P k := ⟨b, rfl, q⟩
theorem v_int {P : Int → Prop} {b : Int} (q : P b) : ∃ k, V.int b = V.int k ∧ P k := ⟨b, rfl, q⟩
theorem v_str {P : Str → Prop} {b : Str} (q : P b) : ∃ k, V.str b = V.str k ∧ P k := ⟨b, rfl, q⟩
theorem e_andV (q : ta σ H fun x H1 => ∃ c, x = .bl c ∧ if c = true then tb σ H1 Q else Q (.bl false) H1) : tAndV ta tb σ H Q := q
theorem e_orV (q : ta σ H fun x H1 => ∃ c, x = .bl c ∧ if c = true then Q (.bl true) H1 else tb σ H1 Q) : tOrV ta tb σ H Q := q
theorem e_notV (q : ta σ H fun x H1 => ∃ c, x = .bl c ∧ Q (.bl (!c)) H1) : tNotV ta σ H Q := q
theorem e_if {t : TT} (q : t σ H fun c H1 => if c = true then ta σ H1 Q else tb σ H1 Q) : tIf t ta tb σ H Q := q
theorem e_nil {Q : List V → Hp → Prop} (q : Q [] H) : tNil σ H Q := q
theorem e_cons {tr : TA} {Q : List V → Hp → Prop} (q : ta σ H fun x H1 => tr σ H1 fun xs H2 => Q (x :: xs) H2) : tCons ta tr σ H Q := q
theorem e_cb {r : List V → Hp → VK → Prop} {t : TA} (q : t σ H fun vs H1 => r vs H1 Q) : tCB r t σ H Q := q
theorem e_call {sp : Sp} {E : XK} {t : TA} (q : t σ H fun vs H1 => sp vs H1 Q E) : tCall sp [] E t σ H Q := by
  show t σ H fun vs H1 => sp (vs ++ []) H1 Q E
  simpa using q
theorem e_fld {f : Str} (q : ta σ H fun x H1 => ∃ a C dx fs v, x = .ref a ∧ H1 a = some (.ins C dx fs) ∧ Cls K C ∧ NoAttr K C f ∧ fs.lookup f = some v ∧ Q v H1) : tFld K ta f σ H Q := q
theorem e_dget (q : ta σ H fun x H1 => tb σ H1 fun y H2 => ∃ a v, x = .ref a ∧ DGet H2 a y (some v) ∧ Q v H2) : tDGet ta tb σ H Q := q
theorem v_dget {P : V → Prop} {a : Addr} (h : DGet H a y (some v)) (q : P v) : ∃ a' v, V.ref a = .ref a' ∧ DGet H a' y (some v) ∧ P v := ⟨a, v, rfl, h, q⟩
theorem e_lst {t : TA} (q : t σ H fun xs H1 => xs.length ≤ sizeLine ∧ ∀ p H2, H1 p = none → H2 = upd H1 p (.lst xs) → Q (.ref p) H2) : tLst t σ H Q := by
  have e : (fun (xs : List V) (H1 : Hp) => xs.length ≤ sizeLine ∧ ∀ p H2, H1 p = none → H2 = upd H1 p (.lst xs) → Q (.ref p) H2) = (fun xs H1 => xs.length ≤ sizeLine ∧ ∀ p, H1 p = none → Q (.ref p) (upd H1 p (.lst xs))) := by
    funext xs H1
    exact propext ⟨fun h => ⟨h.1, fun p hp => h.2 p _ hp rfl⟩, fun h => ⟨h.1, fun p H2 hp e => e ▸ h.2 p hp⟩⟩
  rw [e] at q
  exact q
theorem e_tup {t : TA} (q : t σ H fun xs H1 => xs.length ≤ sizeLine ∧ ∀ p H2, H1 p = none → H2 = upd H1 p (.tup xs) → Q (.ref p) H2) : tTup t σ H Q := by
  have e : (fun (xs : List V) (H1 : Hp) => xs.length ≤ sizeLine ∧ ∀ p H2, H1 p = none → H2 = upd H1 p (.tup xs) → Q (.ref p) H2) = (fun xs H1 => xs.length ≤ sizeLine ∧ ∀ p, H1 p = none → Q (.ref p) (upd H1 p (.tup xs))) := by
    funext xs H1
    exact propext ⟨fun h => ⟨h.1, fun p hp => h.2 p _ hp rfl⟩, fun h => ⟨h.1, fun p H2 hp e => e ▸ h.2 p hp⟩⟩
  rw [e] at q
  exact q
theorem e_dnew (q : ∀ p H', H p = none → Same H H' → H' p = some (.dK []) → Q (.ref p) H') : tDNewK σ H Q := fun p h => q p _ h (Same.new h) upd_same
theorem szl {n : Nat} (h : n ≤ 1000000) : n ≤ sizeLine := Nat.le_trans h (by decide)
theorem szlt {n : Nat} (h : n < 1000000) : n < sizeLine := Nat.lt_of_lt_of_le h (by decide)
theorem v_lst {xs : List V} {P : Addr → Hp → Prop} (h : xs.length ≤ 1000000) (q : ∀ p H', H p = none → Same H H' → H' p = some (.lst xs) → P p H') : xs.length ≤ sizeLine ∧ ∀ p H2, H p = none → H2 = upd H p (.lst xs) → P p H2 := ⟨szl h, fun p H2 hp e => q p H2 hp (e ▸ Same.new hp) (e ▸ upd_same)⟩
theorem v_tup {xs : List V} {P : Addr → Hp → Prop} (h : xs.length ≤ 1000000) (q : ∀ p H', H p = none → Same H H' → H' p = some (.tup xs) → P p H') : xs.length ≤ sizeLine ∧ ∀ p H2, H p = none → H2 = upd H p (.tup xs) → P p H2 := ⟨szl h, fun p H2 hp e => q p H2 hp (e ▸ Same.new hp) (e ▸ upd_same)⟩
theorem v_ixL {p : Addr} {xs : List V} {a : Int} (h : H p = some (.lst xs)) (c : atI xs a = some v) (q : Q v H) : rIxL K (.ref p) (.int a) H Q := ⟨p, xs, a, v, rfl, rfl, SqL.of h, c, q⟩
theorem v_ixS {l : List Nat} {a : Int} {c : Nat} (h : l.length ≤ 1000000) (e : atI l a = some c) (q : Q (.str (tx [c])) H) : rIxS (.str (tx l)) (.int a) H Q := ⟨tx l, a, c, rfl, rfl, by rw [tx_len]; exact szl h, by simpa using e, q⟩
end
/-! ### named relations of built-in calls -/
def rInt : List V → Hp → VK → Prop := fun xs H Q => (∃ i, xs = [.int i] ∧ Q (.int i) H) ∨ ∃ k, xs = [.bl k] ∧ Q (.int (if k then 1 else 0)) H
theorem c_int {X : Cx} : CallR X (.type "int") rInt := call_int1
def rLen (K : PySem.W.Frag) : List V → Hp → VK → Prop := fun xs H Q => ∃ p ys, xs = [.ref p] ∧ (SqL K H p ys ∨ SqT K H p ys) ∧ Q (.int ys.length) H
theorem c_len {X : Cx} : CallR X (.builtin "len") (rLen X.K) := call_len_seq
def rLenS : List V → Hp → VK → Prop := fun xs H Q => ∃ x, xs = [.str x] ∧ x.length ≤ sizeLine ∧ Q (.int x.length) H
theorem c_lenS {X : Cx} : CallR X (.builtin "len") rLenS := call_len_str
section
variable {σ : St} {H : Hp} {Q : VK} {i : Nat} {v x y : V} {K : PySem.W.Frag}
theorem v_inti {a : Int} (q : Q (.int a) H) : rInt [.int a] H Q := .inl ⟨a, rfl, q⟩
theorem v_intb {k : Bool} (q : Q (.int (if k then 1 else 0)) H) : rInt [.bl k] H Q := .inr ⟨k, rfl, q⟩
theorem v_len {p : Addr} {ys : List V} (h : H p = some (.lst ys)) (q : Q (.int ys.length) H) : rLen K [.ref p] H Q := ⟨p, ys, rfl, .inl (SqL.of h), q⟩
theorem v_lenS {l : List Nat} (h : l.length ≤ 1000000) (q : Q (.int l.length) H) : rLenS [.str (tx l)] H Q := ⟨tx l, rfl, by rw [tx_len]; exact szl h, by rw [tx_len]; exact q⟩
end
/-! ### stepping: statements -/
section
variable {σ : St} {H : Hp} {i : Nat} {v : V} {te : TE} {tt u : TT} {t1 t2 : TS} {D : Ends}
theorem s_start {N : List Str} {vs : List V} {t : TS} (s0 : St) (h : start N vs = s0) (q : t D s0 H) : t D (start N vs) H := by rw [h]; exact q
theorem s_seq (q : t1 { D with nx := t2 D } σ H) : tSeq t1 t2 D σ H := q
theorem s_next (q : D.nx σ H) : tNext D σ H := q
theorem s_set (q : te σ H fun v H1 => D.nx (σ.set i (some v)) H1) : tAsg te (gName i) D σ H := q
theorem s_drop (q : te σ H fun _ H1 => D.nx σ H1) : tDrop te D σ H := q
theorem s_ret (q : te σ H D.rt) : tRet te D σ H := q
theorem s_if (q : tt σ H fun b H1 => if b = true then t1 D σ H1 else t2 D σ H1) : tIfS tt t1 t2 D σ H := q
theorem t_test {Q : Bool → Hp → Prop} (q : te σ H fun x H' => ∃ k, x = .bl k ∧ Q k H') : tTest te σ H Q := q
theorem t_B {Q : Bool → Hp → Prop} (q : te σ H fun x H' => ∃ k, x = .bl k ∧ Q k H') : tB te σ H Q := q
theorem t_and {Q : Bool → Hp → Prop} (q : tt σ H fun c H1 => if c = true then u σ H1 Q else Q false H1) : tAnd tt u σ H Q := q
theorem t_or {Q : Bool → Hp → Prop} (q : tt σ H fun c H1 => if c = true then Q true H1 else u σ H1 Q) : tOr tt u σ H Q := q
theorem t_not {Q : Bool → Hp → Prop} (q : tt σ H fun c H1 => Q (!c) H1) : tNot tt σ H Q := q
theorem s_dput {td ty tv : TE} (q : tv σ H fun v H1 => td σ H1 fun x H2 => ty σ H2 fun y H3 => ∃ a H4, x = .ref a ∧ DPut H3 a y v H4 ∧ D.nx σ H4) : sDPut td ty tv D σ H := q
theorem if_dec {c A B : Prop} [Decidable c] (h1 : c → A) (h2 : ¬ c → B) : if decide c = true then A else B := by
  by_cases h : c
  · rw [decide_eq_true h, if_pos rfl]; exact h1 h
  · rw [decide_eq_false h, if_neg Bool.false_ne_true]; exact h2 h
theorem if_ndec {c A B : Prop} [Decidable c] (h1 : ¬ c → A) (h2 : c → B) : if (!decide c) = true then A else B := by
  by_cases h : c
  · rw [decide_eq_true h]; exact iteF (h2 h)
  · rw [decide_eq_false h]; exact iteT (h1 h)
theorem if_bool {b : Bool} {A B : Prop} (h1 : b = true → A) (h2 : b = false → B) : if b = true then A else B := by
  cases b with
  | true => exact iteT (h1 rfl)
  | false => exact iteF (h2 rfl)
end

/-! ### cuts: what follows is shown once -/
section
variable {X : Cx} {σ : St} {H : Hp} {D : Ends} {t u : TS}
def tCutE (te : TE) : TE := fun σ H Q => ∃ Mid : V → Hp → Prop, te σ H Mid ∧ ∀ v H', Mid v H' → Q v H'
theorem pe_cut {e : Expr} {te : TE} (h : PE X e te) : PE X e (tCutE te) := by
  refine ⟨fun pins s σ H Q I q => ?_⟩
  obtain ⟨Mid, hm, hu⟩ := q
  exact thn (h.run pins s σ H Mid I hm) fun u s1 ⟨x, H1, I1, r1, q1⟩ => ⟨x, H1, I1, r1, hu x H1 q1⟩
theorem e_cut {te : TE} {Q : VK} (Mid : V → Hp → Prop) (h : te σ H Mid) (q : ∀ v H', Mid v H' → Q v H') : tCutE te σ H Q := ⟨Mid, h, q⟩
def tCutS (t u : TS) : TS := fun D σ H => ∃ Mid : St → Hp → Prop, t { D with nx := Mid } σ H ∧ ∀ σ' H', Mid σ' H' → u D σ' H'
theorem pss_cutS {st : Stmt} {rest : List Stmt} (h1 : PS X st t) (h2 : PSs X rest u) : PSs X (st :: rest) (tCutS t u) := by
  refine ⟨fun pins s σ H D I h => ?_⟩
  obtain ⟨Mid, hm, hu⟩ := h
  refine wpAny_execs_cons (thn (h1.run pins s σ H { D with nx := Mid } I hm) fun f s1 q => ?_)
  cases f with
  | next =>
    obtain ⟨σ', H', I', q⟩ := q
    exact h2.run pins s1 σ' H' D I' (hu σ' H' q)
  | ret v => exact q
  | brk => exact q
  | cont => exact q
theorem s_cut (Mid : St → Hp → Prop) (h : t { D with nx := Mid } σ H) (q : ∀ σ' H', Mid σ' H' → u D σ' H') : tCutS t u D σ H := ⟨Mid, h, q⟩
end
section
variable {σ : St} {H : Hp} {v y : V}
theorem v_put {P : Hp → Prop} {a : Addr} {o : HO} (h : DPut H a y v (upd H a o)) (q : ∀ H', Keep a H H' → H' a = some o → P H') : ∃ a' H4, V.ref a = .ref a' ∧ DPut H a' y v H4 ∧ P H4 := ⟨a, _, rfl, h, q _ Keep.put upd_same⟩
end
/-! ### data -/
theorem dp_ints {K : PySem.W.Frag} {H : Hp} : ∀ ns : List Int, DpAll K H (ns.map V.int) (ns.map PyData.int)
  | [] => .nil
  | n :: r => .cons (.int n) (dp_ints r)
theorem dp_strs {K : PySem.W.Frag} {H : Hp} : ∀ ns : List Str, DpAll K H (ns.map V.str) (ns.map PyData.str)
  | [] => .nil
  | n :: r => .cons (.str n) (dp_strs r)
theorem lay_ints : ∀ ns : List Int, PyData.canLayAll0 (ns.map PyData.int) = true
  | [] => rfl
  | n :: r => lay_ints r
theorem lay_strs : ∀ ns : List Str, (∀ x ∈ ns, PyData.strOk x = true) → PyData.canLayAll0 (ns.map PyData.str) = true
  | [], _ => rfl
  | n :: r, h => by
    show (PyData.strOk n && PyData.canLayAll0 (r.map PyData.str)) = true
    rw [h n (List.mem_cons_self ..), lay_strs r fun x hx => h x (List.mem_cons_of_mem _ hx)]
    rfl
theorem dep_ints : ∀ ns : List Int, PyData.depthAll (ns.map PyData.int) ≤ 1
  | [] => by decide
  | n :: r => Nat.max_le.mpr ⟨by show PyData.depth (.int n) ≤ 1; simp [PyData.depth], dep_ints r⟩
theorem dep_strs : ∀ ns : List Str, PyData.depthAll (ns.map PyData.str) ≤ 1
  | [] => by decide
  | n :: r => Nat.max_le.mpr ⟨by show PyData.depth (.str n) ≤ 1; simp [PyData.depth], dep_strs r⟩
theorem shaped_ints (ns : List Int) : SeqAt.shaped (.list (ns.map PyData.int)) = true := by
  have h := dep_ints ns
  have h2 : (PyData.list (ns.map PyData.int)).depth ≤ 64 := by simp only [PyData.depth]; omega
  have h3 : (PyData.list (ns.map PyData.int)).canLay0 = true := by simp only [PyData.canLay0]; exact lay_ints ns
  simp [SeqAt.shaped, h2, h3]
theorem shaped_strs (ns : List Str) (h0 : ∀ x ∈ ns, PyData.strOk x = true) : SeqAt.shaped (.list (ns.map PyData.str)) = true := by
  have h := dep_strs ns
  have h2 : (PyData.list (ns.map PyData.str)).depth ≤ 64 := by simp only [PyData.depth]; omega
  have h3 : (PyData.list (ns.map PyData.str)).canLay0 = true := by simp only [PyData.canLay0]; exact lay_strs ns h0
  simp [SeqAt.shaped, h2, h3]
theorem shaped_nil : SeqAt.shaped (.list []) = true := shaped_ints []
theorem eqv_nil {ds : List PyData} : PyData.eqv (.list ds) (.list []) = ds.isEmpty := by
  cases ds <;> simp [PyData.eqv, PyData.eqvAll]
section
variable {H : Hp} {Q : VK} {K : PySem.W.Frag} {p q : Addr}
theorem v_neNilI {ns : List Int} (h : H p = some (.lst (ns.map V.int))) (hq : H q = some (.lst [])) (k : Q (.bl (!ns.isEmpty)) H) : rNeD K (.ref p) (.ref q) H Q := by
  refine ⟨.list (ns.map PyData.int), .list [], .lst (SqL.of h) (dp_ints ns), .lst (SqL.of hq) .nil, shaped_ints ns, shaped_nil, ?_⟩
  rw [eqv_nil, List.isEmpty_map]
  exact k
theorem v_neNilS {ns : List Str} (h : H p = some (.lst (ns.map V.str))) (h0 : ∀ x ∈ ns, PyData.strOk x = true) (hq : H q = some (.lst [])) (k : Q (.bl (!ns.isEmpty)) H) : rNeD K (.ref p) (.ref q) H Q := by
  refine ⟨.list (ns.map PyData.str), .list [], .lst (SqL.of h) (dp_strs ns), .lst (SqL.of hq) .nil, shaped_strs ns h0, shaped_nil, ?_⟩
  rw [eqv_nil, List.isEmpty_map]
  exact k
end
theorem ok_tx {l : List Nat} (h : ∀ c ∈ l, c < 1000) : PyData.strOk (tx l) = true := by
  show (l.toArray).all (fun c => decide (c < 0x110000)) = true
  rw [List.all_toArray, List.all_eq_true]
  intro c hc
  have := h c hc
  simp
  omega
theorem wdiv {i m : Int} (h : 0 < m) (h2 : m < 1000000) : CDivW i m := wide_div (b := 20) h (by omega) (by decide) (by decide)
end Cw
set_option Elab.async false
set_option linter.all false
set_option maxRecDepth 100000
set_option maxHeartbeats 4000000
/-! set(text), len(set(..)): a set of texts out of anything that is walked. -/
namespace Cw
open PySem PySem.Spec L2
/-- the different ones, in the order in which they are met -/
def metAdd (l : List Str) (z : Str) : List Str := if z ∈ l then l else l ++ [z]
def metOf (l : List Str) : List Str := l.foldl metAdd []
theorem metAdd_mem {l : List Str} {z y : Str} : y ∈ metAdd l z ↔ y ∈ l ∨ y = z := by
  unfold metAdd
  by_cases h : z ∈ l
  · rw [if_pos h]
    exact ⟨Or.inl, fun k => k.elim id fun e => e ▸ h⟩
  · rw [if_neg h, List.mem_append, List.mem_singleton]
theorem metOf_snoc (l : List Str) (z : Str) : metOf (l ++ [z]) = metAdd (metOf l) z := by
  unfold metOf
  rw [List.foldl_append]
  rfl
theorem metAdd_len (l : List Str) (z : Str) : (metAdd l z).length = if z ∈ l then l.length else l.length + 1 := by
  unfold metAdd
  split <;> simp
theorem metFold_len : ∀ (l acc : List Str), (l.foldl metAdd acc).length ≤ acc.length + l.length
  | [], acc => Nat.le_refl _
  | z :: r, acc => by
    have h1 := metFold_len r (metAdd acc z)
    have h2 := metAdd_len acc z
    rw [List.foldl_cons, List.length_cons]
    split at h2 <;> omega
theorem metOf_len (l : List Str) : (metOf l).length ≤ l.length := by
  have h := metFold_len l []
  simp only [List.length_nil, Nat.zero_add] at h
  exact h
theorem metFold_nodup : ∀ (l acc : List Str), (acc ++ l).Nodup → l.foldl metAdd acc = acc ++ l
  | [], acc, _ => by simp
  | z :: r, acc, h => by
    have hz : ¬ z ∈ acc := fun m => by
      have := (List.nodup_append.mp h).2.2 z m z (List.mem_cons_self ..)
      exact this rfl
    have e : metAdd acc z = acc ++ [z] := by unfold metAdd; rw [if_neg hz]
    rw [List.foldl_cons, e, metFold_nodup r (acc ++ [z]) (by simpa using h)]
    simp
theorem metOf_nodup {l : List Str} (h : l.Nodup) : metOf l = l := by
  unfold metOf
  rw [metFold_nodup l [] (by simpa using h)]
  rfl
/-- fewer, where one comes twice -/
theorem metFold_lt : ∀ (l acc : List Str), acc.Nodup → (¬ l.Nodup ∨ ∃ z, z ∈ l ∧ z ∈ acc) → (l.foldl metAdd acc).length < acc.length + l.length
  | [], acc, _, h => by
    rcases h with h | ⟨z, h, _⟩
    · exact absurd List.nodup_nil h
    · cases h
  | z :: r, acc, ha, h => by
    rw [List.foldl_cons, List.length_cons]
    have hl := metAdd_len acc z
    by_cases hz : z ∈ acc
    · rw [if_pos hz] at hl
      have h1 := metFold_len r (metAdd acc z)
      omega
    · rw [if_neg hz] at hl
      have e : metAdd acc z = acc ++ [z] := by unfold metAdd; rw [if_neg hz]
      have nd : (metAdd acc z).Nodup := by
        rw [e]
        exact nd_snoc ha hz
      have k : ¬ r.Nodup ∨ ∃ y, y ∈ r ∧ y ∈ metAdd acc z := by
        rcases h with h | ⟨y, h1, h2⟩
        · rw [List.nodup_cons] at h
          by_cases hr : z ∈ r
          · exact Or.inr ⟨z, hr, by rw [e]; simp⟩
          · exact Or.inl fun n => h ⟨hr, n⟩
        · rcases List.mem_cons.mp h1 with q | q
          · exact absurd (q ▸ h2) hz
          · exact Or.inr ⟨y, q, by rw [e]; simp [h2]⟩
      have h1 := metFold_lt r (metAdd acc z) nd k
      omega
theorem metOf_lt {l : List Str} (h : ¬ l.Nodup) : (metOf l).length < l.length := by
  have k := metFold_lt l [] List.nodup_nil (Or.inl h)
  simp only [List.length_nil, Nat.zero_add] at k
  exact k
/-- the set at a holds just the texts of l -/
abbrev SetIs (P : Program) (w : World) (h : Heap) (a : Addr) (l : List Str) : Prop := h.SetOf (PySem.strKind P w) a (fun z => decide (z ∈ l)) l.length
theorem SetIs.at {P : Program} {w : World} {h h' : Heap} {a : Addr} {l : List Str} (R : SetIs P w h a l) (k : ∀ o, h.get? a = some o → h'.get? a = some o) : SetIs P w h' a l := by
  obtain ⟨o, es, ep, t, ho, r⟩ := R
  exact ⟨o, es, ep, t, k o ho, r⟩
section
variable {P : Program} {w : World} {A : Around} {R : Result → Shared → Prop} {J : Addr} {fp wr : List Addr} {n : Nat} {Y : Nat → Value → Prop} {St : Nat → Heap → Prop}
theorem set_loop (W : Walks P w A.in1 J fp wr n Y St) (S : Addr) (hS : S ∉ fp) (xs : List Str) (hn : xs.length = n) (hy : ∀ i v, Y i v → ∃ x t, xs[i]? = some x ∧ v = .str x t) (hb : n + 1 < scanBound) :
    ∀ (k i : Nat) (s : Shared), n - i = k → i ≤ n → St i s.heap → SetIs P w s.heap S (metOf (xs.take i)) →
      (∀ h' tk, (∀ b o, b ∉ S :: wr → s.heap.get? b = some o → h'.get? b = some o) → SetIs P w h' S (metOf xs) → R (.ok (.ret .none)) { s with heap := h', toks := tk }) →
      codeAny (model P w) A (.builtin "set.update.loop" ⟨[.ref S, .ref J], []⟩) R s := by
  have hw : S ∉ wr := fun h => hS (W.sub _ h)
  intro k
  induction k with
  | zero =>
    intro i s hk hi st hset q
    have e : i = n := by omega
    subst e
    refine codeAny_builtin PyProof.Rows.F.entry_set_update_loop ?_
    rw [Around.under_plainId PyProof.Rows.F.plain_set_update_loop _]
    show wpAny _ A.in1 (pyNext (.ref J) >>= _) _ _ s
    refine wpAny_bind (W.done s _ _ st fun h' tk kp => ?_)
    show wpAny _ A.in1 (ret Value.none) _ _ _
    refine wpAny_pure (q h' tk (fun b o nb eb => kp b o (fun z => nb (List.mem_cons_of_mem _ z)) eb) ?_)
    rw [List.take_of_length_le (by omega)] at hset
    exact hset.at fun o eo => kp S o hw eo
  | succ k ih =>
    intro i s hk hi st hset q
    have hlt : i < n := by omega
    refine codeAny_builtin PyProof.Rows.F.entry_set_update_loop ?_
    rw [Around.under_plainId PyProof.Rows.F.plain_set_update_loop _]
    show wpAny _ A.in1 (pyNext (.ref J) >>= _) _ _ s
    refine wpAny_bind (W.item i s _ _ hlt st fun v h1 tk hv st1 kp => ?_)
    obtain ⟨x, t, hx, rfl⟩ := hy i v hv
    have hset1 := hset.at (h' := h1) fun o eo => kp S o hw eo
    show wpAny _ A.in1 (holding [Value.str x t] (setAdd S (.str x t)) >>= _) _ _ _
    refine wpAny_bind (wpAny_holding ?_)
    unfold setAdd
    refine wpAny_holding (wpAny_bind ((PySem.strKind P w).pyHash (k := x) (strKind_is _ _ _ _) ?_))
    have hroom : (metOf (xs.take i)).length + 1 < scanBound := by
      have h2 := metOf_len (xs.take i)
      rw [List.length_take] at h2
      omega
    refine wpAny_setAddHashed_of (knd := PySem.strKind P w) (s := { heap := h1, gens := s.gens, drawn := s.drawn, toks := tk + 1, os := s.os }) (strKind_is _ _ _ _) rfl hset1 hroom fun h2 sb hset2 => ?_
    have e1 : xs.take (i + 1) = xs.take i ++ [x] := by
      rw [List.take_add_one, hx]
      rfl
    have hset3 : SetIs P w h2 S (metOf (xs.take (i + 1))) := by
      refine PyProof.Rows.SetOf_congr hset2 (fun z => ?_) ?_
      · rw [e1, metOf_snoc, Bool.eq_iff_iff]
        simp only [Bool.or_eq_true, decide_eq_true_eq]
        exact metAdd_mem.symm
      · rw [e1, metOf_snoc, metAdd_len]
        simp only [decide_eq_true_eq]
    refine wpAny_pure ⟨plainId_quiet PyProof.Rows.F.plain_set_update_loop _, ih (i + 1) _ (by omega) hlt (W.frame _ _ _ st1 fun b hb o eo => ?_) hset3 fun h3 tk3 kp3 hs3 => ?_⟩
    · rw [sb.2 b fun z => hS (z ▸ hb)]
      exact eo
    · refine q h3 tk3 (fun b o nb eb => kp3 b o nb ?_) hs3
      show h2.get? b = some o
      rw [sb.2 b fun z => nb (z ▸ List.mem_cons_self ..)]
      exact kp b o (fun z => nb (List.mem_cons_of_mem _ z)) eb
end

/-! ### the call -/
abbrev freshSet (b : Bool) : Obj := { cls := .type "set", dict := none, data := .set #[] 0 (.fresh 0 0 b) }
section
variable {P : Program} {w : World} {A : Around} {E : Value → Shared → Prop} {s : Shared}
theorem set_of_text {x : Str} {t : Tok} {Q : Value → Shared → Prop} (hh : A.handled = none) (hb : x.cps.size + 1 < scanBound)
    (h : ∀ (h' : Heap) (tk : Nat), SetIs P w h' s.heap.objs.size (metOf (x.cps.toList.map fun c => (⟨#[c]⟩ : Str))) → (∀ b o, b < s.heap.objs.size → s.heap.get? b = some o → h'.get? b = some o) → Q (.ref s.heap.objs.size) { s with heap := h', toks := tk }) :
    wpAny (model P w) A (call (.type "set") [.str x t]) Q E s := by
  obtain ⟨c, tl, hmro⟩ := PySem.F.called_set.mro
  have hmade := PySem.F.called_set.made
  have hsub := PySem.F.called_set.sub
  refine wpAny_call (codeAny_of_tree ?_)
  show wpAny _ _ (callAny (.type "set") _) _ _ _
  refine wpAny_pure ⟨Code.quiet_builtin _ (by decide +kernel), codeAny_builtin PySem.F.entry_type_call ?_⟩
  rw [Around.under_plain (weight_type_call_type "set" [.str x t] []) rfl]
  have h1 := PySem.F.called_set.notType
  have h2 := PySem.F.called_set.canCreate
  have hct := PySem.F.typeCall_set_1 (.str x t)
  repeat (any_goals (first | assumption | wp_step))
  refine codeAny_mono (code_set_new_1 (.str x t) (E := E) (Q₁ := fun obj s1 => ∃ b : Bool, obj = .ref s.heap.objs.size ∧ s1 = { s with heap := s.heap.push (freshSet b) }) fun b => ⟨b, rfl, rfl⟩) fun r s1 hr => ?_
  cases r with
  | error e => exact hr
  | ok fl =>
    cases fl with
    | ret obj =>
      obtain ⟨b, rfl, rfl⟩ := hr
      have hS : (s.heap.push (freshSet b)).get? s.heap.objs.size = some (freshSet b) := Heap.get?_push_size _ rfl
      have hT : Shared.TypeIs { s with heap := s.heap.push (freshSet b) } (.ref s.heap.objs.size) "set" := ⟨_, hS, rfl⟩
      have hli := PySem.F.called_set.init.lookup
      have hbi := PySem.F.called_set.init.bind (.ref s.heap.objs.size)
      repeat (any_goals (first | assumption | wp_step))
      refine codeAny_mono (codeAny_call_builtin (R := wants (fun r s2 => r = .none ∧ ∃ h' tk, s2 = { s with heap := h', toks := tk } ∧ SetIs P w h' s.heap.objs.size (metOf (x.cps.toList.map fun c => (⟨#[c]⟩ : Str))) ∧
          (∀ b o, b < s.heap.objs.size → s.heap.get? b = some o → h'.get? b = some o)) E) PySem.F.called_set.init.plain PySem.F.entry_set_init (check_set_init_1 hT ?_)) fun r2 s2 hr2 => ?_
      · have k1 := F.sub_str_set
        have k2 := F.sub_str_frozenset
        have k3 : (Value.type "str" == Value.type "dict") = false := by decide
        unfold Builtin.«set.__init__» noKeywords Builtin.Frozenset.updateFrom
        generalize hPI : pyIter = PI
        wp_walk
        subst hPI
        refine wpAny_pyIter_str fun ob St hw st => ?_
        refine wpAny_bind (wpAny_runValue ?_)
        have hh3 : A.in1.in1.in1.handled = none := by simp [hh]
        have hne : s.heap.objs.size ∉ [(s.heap.push (freshSet b)).objs.size] := by
          rw [Heap.size_push, List.mem_singleton]
          exact Nat.ne_of_lt (Nat.lt_succ_self _)
        refine set_loop (hw _ hh3) s.heap.objs.size hne (x.cps.toList.map fun c => (⟨#[c]⟩ : Str)) (by simp) (fun i v hv => ?_) hb _ 0 _ rfl (Nat.zero_le _) st ?_ fun h' tk kp hs => ?_
        · obtain ⟨c, u, hc, rfl⟩ := hv
          exact ⟨⟨#[c]⟩, u, by simp [hc], rfl⟩
        · have hg : ((s.heap.push (freshSet b)).push ob).get? s.heap.objs.size = some (freshSet b) := Heap.get?_push_of_some _ hS
          exact PyProof.Rows.SetOf_congr ((PyProof.Rows.setObjOf_fresh (knd := PySem.strKind P w) b).setOf hg (by unfold scanBound; omega)) (fun z => by simp [metOf]) rfl
        · refine wpAny_pure ?_
          show wpAny _ _ (ret Value.none) _ _ _
          refine wpAny_pure ⟨rfl, h', tk, rfl, hs, fun a o ha eo => kp a o ?_ (Heap.get?_push_of_some _ (Heap.get?_push_of_some _ eo))⟩
          rw [Heap.size_push]
          simp only [List.mem_cons, List.not_mem_nil, or_false, not_or]
          exact ⟨Nat.ne_of_lt ha, Nat.ne_of_lt (Nat.lt_succ_of_lt ha)⟩
      · cases r2 with
        | error e => exact hr2
        | ok fl2 =>
          cases fl2 with
          | ret r =>
            obtain ⟨rfl, h', tk, rfl, hs', hk'⟩ := hr2
            repeat (any_goals (first | assumption | wp_step))
            exact h _ _ hs' hk'
          | _ => exact hr2.elim
    | _ => exact hr.elim
end
/-! ### over the layer -/
/-- a set of texts -/
def SetT (P : Program) (w : World) (a : Addr) (l : List Str) : HO := .ext fun h => SetIs P w h a l
theorem setT_new {P : Program} {w : World} {H : Hp} {h : Heap} {a : Addr} {l : List Str} (R : SetIs P w h a l) : ObjOk P w H h a (SetT P w a l) := by
  have ⟨o, _, _, _, ho, _⟩ := R
  exact ⟨R, ⟨o, ho⟩, fun h1 h2 q k => SetIs.at q k⟩
def rSetTx (P : Program) (w : World) : List V → Hp → VK → Prop := fun xs H Q => ∃ l : List Nat, xs = [.str (tx l)] ∧ l.length + 1 < scanBound ∧ ∀ p, H p = none → Q (.ref p) (upd H p (SetT P w p (metOf (l.map fun c => tx [c]))))
def rLenSet (P : Program) (w : World) : List V → Hp → VK → Prop := fun xs H Q => ∃ (p : Addr) (l : List Str), xs = [.ref p] ∧ H p = some (SetT P w p l) ∧ Q (.int l.length) H
section
variable {X : Cx}
theorem c_setS (hc : X.calm = true) : CallR X (.type "set") (rSetTx X.prog X.w) := by
  intro pins s σ H xs us Q I r h
  obtain ⟨l, rfl, hl, q⟩ := h
  obtain ⟨u, rfl, t, rfl⟩ := vals1 r
  refine set_of_text (I.ok.hd hc) (by simpa using hl) fun h' tk hs hk => ?_
  have hp : H s.heap.objs.size = none := I.hok.fresh (Nat.le_refl _)
  refine ⟨.ref s.heap.objs.size, upd H s.heap.objs.size (SetT X.prog X.w s.heap.objs.size (metOf (l.map fun c => tx [c]))), I.laid (h' := h') (t' := tk) (fun b o e => hk b o (Heap.lt_size e) e) (Nat.le_refl _) (setT_new ?_), rfl, q _ hp⟩
  simpa using hs
theorem c_lenSet : CallR X (.builtin "len") (rLenSet X.prog X.w) := by
  intro pins s σ H xs us Q I r h
  obtain ⟨p, l, rfl, hp, q⟩ := h
  obtain ⟨u, rfl, ru⟩ := vals1 r
  cases ru
  have hs : SetIs X.prog X.w s.heap p l := (I.hok p _ hp).1
  obtain ⟨o, es, ep, t, ho, hex, hd, h1, h2, h3, hf, hn⟩ := hs
  refine call_len_set ho hex hd hf ?_ ⟨.int l.length, H, I.tok _, ⟨_, by rw [hn]⟩, q⟩
  have : es.size < scanBound := h3
  unfold scanBound at this
  omega
end
theorem v_setS {P : Program} {w : World} {H : Hp} {Q : VK} {l : List Nat} (h : l.length < 1000) (q : ∀ p H', H p = none → Same H H' → H' p = some (SetT P w p (metOf (l.map fun c => tx [c]))) → Q (.ref p) H') : rSetTx P w [.str (tx l)] H Q :=
  ⟨l, rfl, by unfold scanBound; omega, fun p hp => q p _ hp (Same.new hp) upd_same⟩
theorem v_lenSet {P : Program} {w : World} {H : Hp} {Q : VK} {p : Addr} {l : List Str} (h : H p = some (SetT P w p l)) (q : Q (.int l.length) H) : rLenSet P w [.ref p] H Q := ⟨p, l, rfl, h, q⟩
end Cw
set_option Elab.async false
set_option linter.all false
set_option maxRecDepth 100000
set_option maxHeartbeats 4000000
/-! operators of classes of one's own -/
namespace PySem.W
open PySem PySem.Calls PyProof.Rows Builtin
section
variable {prog : Program} {w : World} {A : Around} {E : Value → Shared → Prop} {s : Shared} {K : Frag} {x C L f : Addr} {h0 : Heap} {m : Str → Option Value} {ox : Obj} {od : Option Obj} {b tb : Value}
end
end PySem.W
set_option Elab.async false
set_option linter.all false
set_option maxRecDepth 100000
set_option maxHeartbeats 4000000
namespace Cw
open PySem PySem.Spec L2
/-! ### methods -/
structure MAt (K : PySem.W.Frag) (C : Addr) (m qual : Str) (st : Stmt) : Prop where
  ex : ∃ f fd, PySem.W.findIn K (.ref C) m = some (some (.ref f)) ∧ PySem.W.isFn K (.ref f) = true ∧ Fun K m qual st f fd
structure MDef (P : Program) (w : World) (K : PySem.W.Frag) (mg : Str → Option Value) (base : Heap) (CX : CXT) (k : Nat) (C : Addr) (m : Str) (ps : List Str) (sp : Sp) : Prop where
  ex : ∃ f fd, PySem.W.findIn K (.ref C) m = some (some (.ref f)) ∧ PySem.W.isFn K (.ref f) = true ∧ PySem.W.keepIn K (.ref f) = true ∧ Bd K f fd ps ∧ FnOk P w K mg base CX k f fd ps sp
section
variable {P : Program} {w : World} {K : PySem.W.Frag} {mg : Str → Option Value} {base : Heap} {CX : CXT} {k : Nat} {C : Addr} {m qual : Str} {ps N : List Str} {sp : Sp} {st : Stmt}
theorem MDef.mono {j : Nat} (D : MDef P w K mg base CX j C m ps sp) (h : j ≤ k) : MDef P w K mg base CX k C m ps sp := by
  obtain ⟨f, fd, a, b, c, d, e⟩ := D.ex
  exact ⟨f, fd, a, b, c, d, e.mono h⟩
theorem MDef.imp {sp' : Sp} (D : MDef P w K mg base CX k C m ps sp) (h : ∀ vs H Q E, sp' vs H Q E → sp vs H Q E) : MDef P w K mg base CX k C m ps sp' := by
  obtain ⟨f, fd, a, b, c, d, e⟩ := D.ex
  exact ⟨f, fd, a, b, c, d, e.imp h⟩
theorem MAt.ok (F : MAt K C m qual st) (S : FnScope N ps (defScope st))
    (hb : ∀ (kV doc pm : Value) (an : Option Addr) (cdv ct : Value) (us : List Value), us.length = ps.length → bindArgs (PySem.W.fnOf m qual (defArgs st) (defBody st) (defScope st) .none kV doc pm an cdv ct) ⟨us, []⟩ = pure (ps.zip us))
    (len : ∀ vs H Q E, sp vs H Q E → vs.length = ps.length)
    (hbody : ∀ (f : Addr) (cdv : Value) (A : Around) (outer : List Env) (s : Shared) (H : Hp) (vs : List V) (Q : VK) (E : XK), Room k (A.deeper (PyProof.Rows.envOfC qual (defScope st) s.heap.objs.size f cdv)) → sp vs H Q E →
      ∃ t, PSs (cxOf CX0 P w K mg base N qual (defScope st) f cdv A outer s H E).nox (defBody st) t ∧ t { nx := fun _ H' => Q .non H', rt := Q } (start N vs) H) : MDef P w K mg base CX0 (k + 1) C m ps sp := by
  obtain ⟨f, fd, h1, h2, F⟩ := F.ex
  exact ⟨f, fd, h1, h2, F.kp, ⟨F.binds hb, funLk F⟩, F.ok S len fun cdv A outer s H vs Q E hr h => hbody f cdv A outer s H vs Q E hr h⟩
theorem MAt.okX (F : MAt K C m qual st) (S : FnScope N ps (defScope st))
    (hb : ∀ (kV doc pm : Value) (an : Option Addr) (cdv ct : Value) (us : List Value), us.length = ps.length → bindArgs (PySem.W.fnOf m qual (defArgs st) (defBody st) (defScope st) .none kV doc pm an cdv ct) ⟨us, []⟩ = pure (ps.zip us))
    (len : ∀ vs H Q E, sp vs H Q E → vs.length = ps.length)
    (hbody : ∀ (f : Addr) (cdv : Value) (A : Around) (outer : List Env) (s : Shared) (H : Hp) (vs : List V) (Q : VK) (E : XK), Room k (A.deeper (PyProof.Rows.envOfC qual (defScope st) s.heap.objs.size f cdv)) → sp vs H Q E →
      ∃ t, PSs (cxOf (L2.CX P w) P w K mg base N qual (defScope st) f cdv A outer s H E) (defBody st) t ∧ t { nx := fun _ H' => Q .non H', rt := Q } (start N vs) H) : MDef P w K mg base (L2.CX P w) (k + 1) C m ps sp := by
  obtain ⟨f, fd, h1, h2, F⟩ := F.ex
  exact ⟨f, fd, h1, h2, F.kp, ⟨F.binds hb, funLk F⟩, F.okX S len fun cdv A outer s H vs Q E hr h => hbody f cdv A outer s H vs Q E hr h⟩
end
section
variable {X : Cx} {CX : CXT} {k : Nat} {C : Addr} {m : Str} {ps : List Str} {sp : Sp} {E : XK} {pos apos : PySem.Pos} {o e : Expr} {es : List Expr} {ta : TE} {t : TA}
/-- two instances of the class at C, by its own operator -/
def rM2 (C : Addr) (sp : Sp) (E : XK) : R2 := fun x y H Q => ∃ a b dx dy fs gs, x = .ref a ∧ y = .ref b ∧ H a = some (.ins C dx fs) ∧ H b = some (.ins C dy gs) ∧ sp [.ref a, .ref b] H Q E
def rM2n (C : Addr) (sp : Sp) (E : XK) : R2 := fun x y H Q => ∃ a b dx dy fs gs, x = .ref a ∧ y = .ref b ∧ H a = some (.ins C dx fs) ∧ H b = some (.ins C dy gs) ∧ sp [.ref a, .ref b] H (fun v H' => ∃ r, v = .bl r ∧ Q (.bl (!r)) H') E
/-- len(o) -/
def rLenM (C : Addr) (sp : Sp) (E : XK) : List V → Hp → VK → Prop := fun xs H Q => ∃ a dx fs, xs = [.ref a] ∧ H a = some (.ins C dx fs) ∧ sp [.ref a] H (fun v H' => ∃ n : Nat, v = .int n ∧ n < 1000000 ∧ Q (.int n) H') E
theorem c_lenM (D : MDef X.prog X.w X.K X.mg X.base CX k C "__len__" ps sp) (hr : Room (k + 1) X.A) (hx : Passes CX X E) : CallR X (.builtin "len") (rLenM C sp E) := by
  obtain ⟨f, fd, h1, h2, kp, ⟨hb, _⟩, F⟩ := D.ex
  intro pins s σ H xs us Q I r h
  obtain ⟨a, dx, fs, rfl, ha, hq⟩ := h
  obtain ⟨u, rfl, ru⟩ := vals1 r
  cases ru
  obtain ⟨mA, J, _⟩ := ins_get I.hok ha
  obtain ⟨od, J, _⟩ := J.look
  obtain ⟨mm, hF⟩ := I.fr
  refine PySem.W.len_K hF I.ok.mod.kin J h1 h2 ?_
  have hl := F.len _ _ _ _ hq
  refine wpAny_call (codeAny_mono (F.run X.A.in1 X.stack s H ⟨[.ref a], []⟩ [.ref a] [.ref a] _ E hr.in1 I.env0.in1 (by
    have := hb s [.ref a] I.kIn (by simpa using hl)
    simpa using this) (.cons rfl .nil) hq) fun r s' hq => ?_)
  cases r with
  | error e => exact hx pins σ H s e s' I hq
  | ok fl =>
    cases fl with
    | ret w =>
      obtain ⟨z, H', I', rz, n, ez, hn, q⟩ := I.after hq
      subst ez
      obtain ⟨t, rfl⟩ := rz
      exact ⟨⟨by omega, by omega⟩, ⟨.int n, H', I'.tok _, ⟨_, rfl⟩, q⟩⟩
    | next => exact False.elim hq
    | brk => exact False.elim hq
    | cont => exact False.elim hq
end
section
variable {C : Addr} {sp : Sp} {E : XK} {H : Hp} {Q : VK} {a b dx dy : Addr} {fs gs : List (Str × V)}
theorem v_M2 (ha : H a = some (.ins C dx fs)) (hb : H b = some (.ins C dy gs)) (q : sp [.ref a, .ref b] H Q E) : rM2 C sp E (.ref a) (.ref b) H Q := ⟨a, b, dx, dy, fs, gs, rfl, rfl, ha, hb, q⟩
theorem v_M2n (ha : H a = some (.ins C dx fs)) (hb : H b = some (.ins C dy gs)) (q : sp [.ref a, .ref b] H (fun v H' => ∃ r, v = .bl r ∧ Q (.bl (!r)) H') E) : rM2n C sp E (.ref a) (.ref b) H Q := ⟨a, b, dx, dy, fs, gs, rfl, rfl, ha, hb, q⟩
theorem v_lenM (ha : H a = some (.ins C dx fs)) (q : sp [.ref a] H (fun v H' => ∃ n : Nat, v = .int n ∧ n < 1000000 ∧ Q (.int n) H') E) : rLenM C sp E [.ref a] H Q := ⟨a, dx, fs, rfl, ha, q⟩
end
end Cw
set_option Elab.async false
set_option linter.all false
set_option maxRecDepth 100000
set_option maxHeartbeats 4000000
namespace Cw
open PySem PySem.Spec L2
/-! ### texts as lists of codes: operators -/
def rTAdd : R2 := fun x y H Q => ∃ a b : List Nat, x = .str (tx a) ∧ y = .str (tx b) ∧ a.length + b.length ≤ 1000000 ∧ Q (.str (tx (a ++ b))) H
def rTMul : R2 := fun x y H Q => ∃ (a : List Nat) (n : Int), x = .str (tx a) ∧ y = .int n ∧ n < 1000000 ∧ -1000000 < n ∧ a.length * n.toNat ≤ 1000000 ∧ Q (.str (tx (List.replicate n.toNat a).flatten)) H
def rTLt : R2 := fun x y H Q => ∃ a b : List Nat, x = .str (tx a) ∧ y = .str (tx b) ∧ Q (.bl (decide (a < b))) H
theorem rep_cps (x : Array Nat) : ∀ (n : Nat) (acc : Array Nat), (List.replicate n x).foldl (· ++ ·) acc = acc ++ (List.replicate n x.toList).flatten.toArray
  | 0, acc => by simp
  | n + 1, acc => by
    rw [List.replicate_succ, List.foldl_cons, rep_cps x n, List.replicate_succ, List.flatten_cons]
    apply Array.ext'
    simp
section
variable {X : Cx}
theorem op_addS : OpR X (binaryOp .Add) rTAdd := by
  intro pins s σ H x y v u Q I rx ry h
  obtain ⟨a, b, rfl, rfl, hl, q⟩ := h
  refine op_add_str pins s σ H _ _ v u Q I rx ry ⟨tx a, tx b, rfl, rfl, ?_, ?_⟩
  · rw [tx_len, tx_len]; exact szl hl
  · rw [tx_app]; exact q
theorem op_mulS : OpR X (binaryOp .Mult) rTMul := by
  intro pins s σ H x y v u Q I rx ry h
  obtain ⟨a, n, rfl, rfl, h1, h2, h3, q⟩ := h
  obtain ⟨t, rfl⟩ := rx
  obtain ⟨t', rfl⟩ := ry
  have hx : (tx a).length = a.length := tx_len a
  have fin : ∀ (z : Str) (s' : Shared) (tk : Tok), z = tx (List.replicate n.toNat a).flatten → Inv X pins σ H s' → EP X pins σ Q (.str z tk) s' := fun z s' tk e I' => ⟨.str z, H, I', ⟨tk, rfl⟩, by rw [e]; exact q⟩
  have len : (List.replicate n.toNat a).flatten.length = a.length * n.toNat := by simp [Nat.mul_comm]
  refine PySem.P.mul_str ?_ ?_ ?_ ?_
  · have e1 : ¬ n < -(2 ^ 63 : Int) := by omega
    have e2 : ¬ n ≥ 2 ^ 63 := by omega
    rw [decide_eq_false e1, decide_eq_false e2]; rfl
  · intro hn _
    rw [hx]
    have e0 : (a.length : Int) ≤ a.length * n.toNat := by
      have : 1 ≤ n.toNat := by omega
      have := Nat.le_mul_of_pos_right a.length (show 0 < n.toNat by omega)
      omega
    have e1 : (a.length : Int) ≤ 1000000 := by
      have : ((a.length * n.toNat : Nat) : Int) ≤ 1000000 := by omega
      omega
    have e2 : (1000000 : Int) ≤ (2 ^ 63 - 1) / n := by
      rw [Int.le_ediv_iff_mul_le (by omega)]
      omega
    omega
  · intro hn _
    rw [hx]
    unfold Builtin.Str.tooLong
    have : a.length * n.toNat ≤ sizeLine := szl h3
    exact decide_eq_false (by omega)
  · by_cases hn : n < 1
    · rw [if_pos hn]
      have e : n.toNat = 0 := by omega
      refine ⟨by decide, fin _ _ _ ?_ (I.tok _)⟩
      rw [e]; rfl
    · rw [if_neg hn]
      by_cases c : (n == 1 || (tx a).length == 0) = true
      · rw [if_pos c]
        refine fin _ _ _ ?_ I
        rcases Bool.or_eq_true_iff.mp c with c | c
        · have e : n = 1 := eq_of_beq c
          rw [e]
          show tx a = tx (List.replicate 1 a).flatten
          simp
        · have e : a = [] := by
            rw [hx] at c
            exact List.length_eq_zero_iff.mp (eq_of_beq c)
          rw [e]
          simp
      · rw [if_neg c]
        have e : (⟨(List.replicate n.toNat (tx a).cps).foldl (· ++ ·) #[]⟩ : Str) = tx (List.replicate n.toNat a).flatten := by
          rw [rep_cps]
          simp [tx]
        refine ⟨?_, fin _ _ _ e (I.tok _)⟩
        rw [e, tx_len, len]
        exact szl h3
theorem op_ltS : OpR X (compareOp .Lt) rTLt := by
  intro pins s σ H x y v u Q I rx ry h
  obtain ⟨a, b, rfl, rfl, q⟩ := h
  exact op_lt_str pins s σ H _ _ v u Q I rx ry ⟨tx a, tx b, rfl, rfl, by simpa using q⟩
/-- text[::-1] -/
def tRevS (te : TE) : TE := fun σ H Q => te σ H fun x H1 => ∃ l : List Nat, x = .str (tx l) ∧ l.length ≤ 1000000 ∧ Q (.str (tx l.reverse)) H1
theorem pe_revS {e : Expr} {te : TE} {k : Nat} {p1 p2 p3 pos : PySem.Pos} (he : PE X e te) : PE X (.Subscript e (.Slice none none (some (.UnaryOp .USub (.Constant (.int 1) k p1) p2)) p3) pos) (tRevS te) := by
  refine ⟨fun pins s σ H Q I h => ?_⟩
  refine PyProof.Rows.Subscript_ (thn (he.run pins s σ H _ I h) fun v s1 ⟨x, H1, I1, r1, l, ex, hl, q⟩ => ?_)
  subst ex
  obtain ⟨t, rfl⟩ := r1
  have hst : PO X (some (.UnaryOp .USub (.Constant (.int 1) k p1) p2)) (tPart (tUn (rU fun i => .int (-i)) (tC (.int 1)))) := po_some (pe_un un_neg pe_int)
  refine wpAny_Slice (thn (po_none.run pins s1 σ H1 (fun o H2 => o = none ∧ H2 = H1) I1 ⟨rfl, rfl⟩) fun vl s2 ⟨o1, H2, I2, w1, e1, e2⟩ => ?_)
  subst e1 e2
  refine thn (po_none.run pins s2 σ H2 (fun o H3 => o = none ∧ H3 = H2) I2 ⟨rfl, rfl⟩) fun vu s3 ⟨o2, H3, I3, w2, e3, e4⟩ => ?_
  subst e3 e4
  refine thn (hst.run pins s3 σ H3 (fun o H4 => o = some (-1) ∧ H4 = H3) I3 ⟨1, rfl, -1, rfl, rfl, rfl⟩) fun vs s4 ⟨o3, H4, I4, w3, e5, e6⟩ => ?_
  subst e5 e6
  obtain ⟨l1, rfl, m1⟩ := IsPart.raw w1
  obtain ⟨l2, rfl, m2⟩ := IsPart.raw w2
  obtain ⟨l3, rfl, m3⟩ := IsPart.raw w3
  have I5 : Inv X pins σ H4 { s4 with heap := s4.heap.push { cls := .type "slice", data := .fields #[partValue l1, partValue l2, partValue l3] } } := I4.kept (t' := s4.toks) fun b ob q => Heap.get?_push_of_some _ q
  show wpAny (model X.prog X.w) X.A (PyProof.Rows.subscriptTail e (.Slice none none (some (.UnaryOp .USub (.Constant (.int 1) k p1) p2)) p3) (.str (tx l) t) (.ref s4.heap.objs.size)) (EP X pins σ Q) X.xe _
  refine PyProof.Rows.tail_any (ops := [.str (tx l) t, .ref s4.heap.objs.size]) (typeIs_str _ _ _) F.slot_str_getitem.lookup ?_ (by with_unfolding_all rfl)
  refine wpAny_getItem_str_slice (l := l1) (u := l2) (st := l3) ⟨_, Heap.get?_push_size _ rfl, rfl, rfl⟩ (by rw [m3]; rfl) ?_
  unfold sliceMade slicePicked
  rw [m1, m2, m3]
  have e : (⟨((Builtin.Str.strSliceIndices none none ((some (-1 : Int)).getD 1) (tx l).length).filterMap ((tx l).cps[·]?)).toArray⟩ : Str) = tx l.reverse := by
    show (⟨((Builtin.Str.strSliceIndices none none (-1) (tx l).length).filterMap ((tx l).cps[·]?)).toArray⟩ : Str) = tx l.reverse
    rw [PyProof.Rows.picked_rev, tx_len, PySem.W.krv_range]
    have k2 := PySem.W.krv_all (tx l).cps
    rw [show (tx l).cps.size = l.length from tx_len l] at k2
    rw [List.filterMap_reverse, k2]
  rw [e]
  rw [if_neg (by simp)]
  refine ⟨?_, .str (tx l.reverse), H4, I5.tok _, ⟨_, rfl⟩, q⟩
  rw [tx_len, List.length_reverse]
  exact szl hl
end
section
variable {σ : St} {H : Hp} {Q : VK}
theorem v_addS {a b : List Nat} (h : a.length + b.length ≤ 1000000) (q : Q (.str (tx (a ++ b))) H) : rTAdd (.str (tx a)) (.str (tx b)) H Q := ⟨a, b, rfl, rfl, h, q⟩
theorem v_mulS {a : List Nat} {n : Int} (h1 : n < 1000000) (h2 : -1000000 < n) (h : a.length * n.toNat ≤ 1000000) (q : Q (.str (tx (List.replicate n.toNat a).flatten)) H) : rTMul (.str (tx a)) (.int n) H Q := ⟨a, n, rfl, rfl, h1, h2, h, q⟩
theorem v_ltS {a b : List Nat} (q : Q (.bl (decide (a < b))) H) : rTLt (.str (tx a)) (.str (tx b)) H Q := ⟨a, b, rfl, rfl, q⟩
theorem e_revS {te : TE} (q : te σ H fun x H1 => ∃ l : List Nat, x = .str (tx l) ∧ l.length ≤ 1000000 ∧ Q (.str (tx l.reverse)) H1) : tRevS te σ H Q := q
theorem v_revS {l : List Nat} {P : List Nat → Prop} (h : l.length ≤ 1000000) (q : P l) : ∃ l' : List Nat, V.str (tx l) = .str (tx l') ∧ l'.length ≤ 1000000 ∧ P l' := ⟨l, rfl, h, q⟩
end
end Cw
set_option Elab.async false
set_option linter.all false
set_option maxRecDepth 100000
set_option maxHeartbeats 4000000
namespace Cw
open PySem PySem.Spec L2
/-! ### constants and globals -/
section
variable {X : Cx} {x : Str} {pos : PySem.Pos} {j : Nat}
theorem pe_tx {kd : _} (l : List Nat) (h : x = tx l) : PE X (.Constant (.str x) kd pos) (tC (.str (tx l))) := by
  rw [h]
  exact pe_str
theorem pe_globS {z : Str} (h : ∃ t, X.mg x = some (.str z t)) (hg : Gl X x := by rfl) (hd : (x == ("__debug__" : Str)) = false := by decide) : PE X (.Name x pos) (tC (.str z)) := by
  obtain ⟨t, h⟩ := h
  exact pe_glob hg h ⟨t, rfl⟩ hd
theorem pe_globI {z : Int} (h : ∃ t, X.mg x = some (.int z t)) (hg : Gl X x := by rfl) (hd : (x == ("__debug__" : Str)) = false := by decide) : PE X (.Name x pos) (tC (.int z)) := by
  obtain ⟨t, h⟩ := h
  exact pe_glob hg h ⟨t, rfl⟩ hd
/-- a class of one's own as a value -/
theorem pe_globC {C : Addr} (h : X.mg x = some (.ref C)) (hg : Gl X x := by rfl) (hd : (x == ("__debug__" : Str)) = false := by decide) : PE X (.Name x pos) (tC (.ref C)) := pe_glob hg h rfl hd
end
/-! ### slices of texts -/
theorem sl_S {X : Cx} : SlR X rSlS := sl_str
section
variable {σ : St} {H : Hp} {Q : VK} {te : TE} {tl th : TO} {K : PySem.W.Frag}
theorem e_sl {r : V → Option Int → Option Int → Hp → VK → Prop} (q : te σ H fun x H1 => tl σ H1 fun l H2 => th σ H2 fun u H3 => r x l u H3 Q) : tSl r te tl th σ H Q := q
theorem e_nopart {Q : Option Int → Hp → Prop} (q : Q none H) : tNoPart σ H Q := q
theorem e_part {Q : Option Int → Hp → Prop} (q : te σ H fun x H1 => ∃ i, x = .int i ∧ Q (some i) H1) : tPart te σ H Q := q
theorem cut_to (l : List Nat) {n : Int} (h : 0 ≤ n) : cutS (tx l) none (some n) = tx (l.take n.toNat) := by
  unfold cutS
  rw [tx_len]
  show (⟨((l.toArray.toList.drop 0).take ((if n < 0 then _ else min n.toNat l.length) - 0)).toArray⟩ : Str) = _
  rw [if_neg (by omega)]
  simp only [List.drop_zero, Nat.sub_zero]
  rw [← List.take_take]
  simp
theorem cut_from (l : List Nat) {n : Int} (h : 0 ≤ n) : cutS (tx l) (some n) none = tx (l.drop n.toNat) := by
  unfold cutS
  rw [tx_len]
  show (⟨((l.toArray.toList.drop (if n < 0 then _ else min n.toNat l.length)).take (l.length - (if n < 0 then _ else min n.toNat l.length))).toArray⟩ : Str) = _
  rw [if_neg (by omega)]
  have e : (l.drop (min n.toNat l.length)) = l.drop n.toNat := by
    by_cases hl : n.toNat ≤ l.length
    · rw [Nat.min_eq_left hl]
    · rw [Nat.min_eq_right (by omega), List.drop_of_length_le (by omega), List.drop_of_length_le (by omega)]
  simp only
  rw [e, List.take_of_length_le (by rw [List.length_drop]; omega)]
theorem v_slTo {l : List Nat} {n : Int} (hl : l.length ≤ 1000000) (h : 0 ≤ n) (q : Q (.str (tx (l.take n.toNat))) H) : rSlS (.str (tx l)) none (some n) H Q := ⟨tx l, rfl, by rw [tx_len]; exact szl hl, by rw [cut_to l h]; exact q⟩
theorem v_slFrom {l : List Nat} {n : Int} (hl : l.length ≤ 1000000) (h : 0 ≤ n) (q : Q (.str (tx (l.drop n.toNat))) H) : rSlS (.str (tx l)) (some n) none H Q := ⟨tx l, rfl, by rw [tx_len]; exact szl hl, by rw [cut_from l h]; exact q⟩
end
/-! ### join -/
def rJoinT (K : PySem.W.Frag) : V → List V → Hp → VK → Prop := fun x xs H Q => ∃ (p : Addr) (ls : List (List Nat)), x = .str (tx []) ∧ xs = [.ref p] ∧ (SqL K H p (ls.map fun l => V.str (tx l)) ∨ SqT K H p (ls.map fun l => V.str (tx l))) ∧ ls.flatten.length ≤ 1000000 ∧ Q (.str (tx ls.flatten)) H
theorem join_empty (ls : List (List Nat)) : Txt.join (tx []) (ls.map tx) = tx ls.flatten := by
  have e : ∀ ls : List (List Nat), TL.joinL [] ls = ls.flatten := by
    intro ls
    induction ls with
    | nil => rfl
    | cons p r ih =>
      cases r with
      | nil => simp [TL.joinL]
      | cons q r =>
        show p ++ ([] ++ TL.joinL [] (q :: r)) = _
        rw [ih]
        simp
  have h := TL.tl_join (tx []) (ls.map tx)
  have h2 : (Str.join (tx []) (ls.map tx)).cps.toList = ls.flatten := by
    refine Eq.trans h ?_
    show TL.joinL [] ((ls.map tx).map TL.tl) = _
    rw [List.map_map, e]
    congr 1
    have : (TL.tl ∘ tx) = id := by
      funext l
      show (tx l).cps.toList = l
      simp
    rw [this, List.map_id]
  have g : Txt.join (tx []) (ls.map tx) = Str.join (tx []) (ls.map tx) := by
    show Builtin.Str.glued _ _ = _
    rw [StrLaws.glued_eq_join]
  rw [g, tx_eq (z := Str.join (tx []) (ls.map tx)), h2]
section
variable {X : Cx} {o e : Expr} {to te : TE}
theorem mt_joinT : MtR X "str.join" (rJoinT X.K) := by
  intro pins s σ H x xs v us Q I rx rs h
  obtain ⟨p, ls, rfl, rfl, hp, hl, q⟩ := h
  refine mt_join pins s σ H _ _ v us Q I rx rs ⟨tx [], p, ls.map tx, rfl, rfl, ?_, ?_, ?_⟩
  · simpa [List.map_map, Function.comp_def] using hp
  · have e : ((ls.map tx).map (·.length)).sum = ls.flatten.length := by
      rw [List.map_map, List.length_flatten]
      exact congrArg List.sum (List.map_congr_left fun l _ => tx_len l)
    rw [e]
    have e0 : (tx []).length = 0 := rfl
    rw [e0]
    omega
  · rw [join_empty]
    exact q
theorem pe_joinT {apos pos : PySem.Pos} (ho : PE X o to) (he : PE X e te) (hs : starEach [e] X.env = [(false, eval e X.env)] := by rfl) (hbase : attributeBase o "join" X.env (eval o X.env) = eval o X.env := by rfl) (hline : (apos.endLine == pos.line) = true := by rfl) :
    PE X (.Call (.Attribute o "join" apos) [e] [] pos) (tM1 (rJoinT X.K) to te) := pe_m1 F.slot_str_join F.type_str_join mt_joinT ho he hs hbase hline
end
section
variable {σ : St} {H : Hp} {Q : VK} {to te : TE} {K : PySem.W.Frag}
theorem e_m1 {r : V → List V → Hp → VK → Prop} (q : to σ H fun x H1 => (∃ a, x = .str a) ∧ te σ H1 fun y H2 => r x [y] H2 Q) : tM1 r to te σ H Q := q
theorem v_isS {a : Str} {P : Prop} (q : P) : (∃ b, V.str a = .str b) ∧ P := ⟨⟨a, rfl⟩, q⟩
theorem v_join {p : Addr} {ls : List (List Nat)} (h : H p = some (.lst (ls.map fun l => V.str (tx l)))) (hl : ls.flatten.length ≤ 1000000) (q : Q (.str (tx ls.flatten)) H) : rJoinT K (.str (tx [])) [.ref p] H Q := ⟨p, ls, rfl, rfl, .inl (SqL.of h), hl, q⟩
/-! ### membership -/
theorem v_inS {c : Nat} {l : List Nat} (q : Q (.bl (decide (c ∈ l))) H) : rInS (.str (tx [c])) (.str (tx l)) H Q := ⟨c, tx l, rfl, rfl, by simpa using q⟩
theorem v_notInS {c : Nat} {l : List Nat} (q : Q (.bl (!decide (c ∈ l))) H) : rNotInS (.str (tx [c])) (.str (tx l)) H Q := ⟨c, tx l, rfl, rfl, by simpa using q⟩
theorem inV_tx {x : List Nat} : ∀ {ls : List (List Nat)}, inV (.str (tx x)) (ls.map fun l => V.str (tx l)) = decide (x ∈ ls)
  | [] => by simp [inV]
  | l :: r => by
    have ih := inV_tx (x := x) (ls := r)
    unfold inV at ih ⊢
    rw [List.map_cons, List.any_cons, ih]
    by_cases e : l = x
    · subst e
      simp [eqV]
    · have e2 : ¬ tx l = tx x := fun z => e (tx_inj.mp z)
      have e3 : ¬ x = l := fun z => e z.symm
      simp [eqV, e2, e3]
theorem flat_tx (ls : List (List Nat)) : (ls.map fun l => V.str (tx l)).all flatV = true := by
  rw [List.all_map]
  exact List.all_eq_true.mpr fun _ _ => rfl
theorem v_inL {x : List Nat} {ls : List (List Nat)} {p : Addr} (h : H p = some (.lst (ls.map fun l => V.str (tx l)))) (q : Q (.bl (decide (x ∈ ls))) H) : rIn K false (.str (tx x)) (.ref p) H Q :=
  ⟨p, _, rfl, .inl (SqL.of h), rfl, flat_tx ls, by rw [inV_tx]; exact q⟩
theorem v_inT {x : List Nat} {ls : List (List Nat)} {p : Addr} (h : SqT K H p (ls.map fun l => V.str (tx l))) (q : Q (.bl (decide (x ∈ ls))) H) : rIn K false (.str (tx x)) (.ref p) H Q :=
  ⟨p, _, rfl, .inr h, rfl, flat_tx ls, by rw [inV_tx]; exact q⟩
end
/-! ### comprehensions -/
theorem wipe1 {σ : St} {i : Nat} {x : Option V} : wipe ((wipe σ [i]).set i x) [i] = wipe σ [i] := by
  show (((σ.set i none).set i x).set i none) = σ.set i none
  rw [List.set_set, List.set_set]
section
variable {σ : St} {H : Hp} {Q : VK} {wi : TI} {g : TG} {tt : TT} {te t0 : TE} {i : Nat} {K : PySem.W.Frag}
/-- what a comprehension's new list is, item by item: Y tells the turn's items -/
theorem lc_gen {P : Addr → Hp → Prop} {J : It} {n : Nat} {G : Hp → Prop} {it : Nat → V} {b : Nat → Bool} {f : Nat → V} (w : Walk J n G (fun k H x H' => H' = H ∧ x = it k)) (hG : ∀ H', Same H H' → G H') (hn : n ≤ 1000000)
    (ht : ∀ k, k < n → ∀ H1, Same H H1 → ∀ R : Bool → Hp → Prop, (∀ H2, Same H1 H2 → R (b k) H2) → tt ((wipe σ [i]).set i (some (it k))) H1 R)
    (he : ∀ k, k < n → b k = true → ∀ H1, Same H H1 → ∀ R : VK, (∀ H2, Same H1 H2 → R (f k) H2) → te ((wipe σ [i]).set i (some (it k))) H1 R)
    (q : ∀ D H', H D = none → Same H H' → H' D = some (.lst (((List.range n).filter b).map f)) → P D H') :
    ∀ D, H D = none → ∃ W : Nat → Nat → Hp → Prop, (∃ m, W 0 m (upd H D (.lst []))) ∧ ∀ k m H, W k m H →
      (J.stop k H ∧ P D H) ∨ (J.go k H ∧ ∃ Nx : Hp → Prop, (∀ H', Nx H' → ∃ m', m' < m ∧ W (k + 1) m' H') ∧ ∀ x H', J.yld k H x H' → (gName i) x (wipe σ [i]) H' fun s2 H2 => wipe s2 [i] = wipe σ [i] ∧ tt s2 H2 fun c H3 =>
        if c = true then te s2 H3 fun y H4 => ∃ acc, H4 D = some (.lst acc) ∧ acc.length < sizeLine ∧ Nx (upd H4 D (.lst (acc ++ [y]))) else Nx H3) := by
  intro D hD
  refine lc_it w (vs := [i]) (σ := σ) (g := gName i) (tt := tt) (te := te) (Qd := fun H' => P D H') (fun k H' => Same H H' ∧ H' D = some (.lst (((List.range k).filter b).map f)))
    ⟨Same.new hD, upd_same⟩ (fun k H' _ p => hG H' p.1) (fun k x H1 H2 hk p y => ?_) (fun H' p => q D H' hD p.1 p.2)
  obtain ⟨p1, p2⟩ := p
  obtain ⟨rfl, rfl⟩ := y
  refine ⟨wipe1, ht k hk _ p1 _ fun H3 s3 => ?_⟩
  have e1 : (List.range (k + 1)).filter b = (List.range k).filter b ++ (if b k = true then [k] else []) := by
    rw [List.range_succ, List.filter_append]
    congr 1
    by_cases c : b k = true
    · simp [c]
    · simp [c]
  by_cases c : b k = true
  · rw [if_pos c]
    refine he k hk c _ (p1.trans s3) _ fun H4 s4 => ?_
    refine ⟨_, s4 _ _ (s3 _ _ p2), ?_, fun a o ha => ?_, ?_⟩
    · rw [List.length_map]
      have h1 := List.length_filter_le b (List.range k)
      rw [List.length_range] at h1
      exact szlt (by omega)
    · rw [upd_ne (ne_of_none ha hD)]
      exact s4 _ _ (s3 _ _ (p1 _ _ ha))
    · rw [upd_same, e1, if_pos c, List.map_append]
      rfl
  · rw [if_neg c]
    refine ⟨p1.trans s3, ?_⟩
    rw [e1, if_neg c, List.append_nil]
    exact s3 _ _ p2
theorem e_lc {vs : List Nat} (q : wi σ H fun J H1 => ∀ D, H1 D = none → ∃ W : Nat → Nat → Hp → Prop, (∃ m, W 0 m (upd H1 D (.lst []))) ∧ ∀ i m H, W i m H →
    (J.stop i H ∧ Q (.ref D) H) ∨ (J.go i H ∧ ∃ Nx : Hp → Prop, (∀ H', Nx H' → ∃ m', m' < m ∧ W (i + 1) m' H') ∧ ∀ x H', J.yld i H x H' → g x (wipe σ vs) H' fun s2 H2 => wipe s2 vs = wipe σ vs ∧ tt s2 H2 fun b H3 =>
      if b = true then te s2 H3 fun y H4 => ∃ acc, H4 D = some (.lst acc) ∧ acc.length < sizeLine ∧ Nx (upd H4 D (.lst (acc ++ [y]))) else Nx H3)) : tLc wi g tt te vs σ H Q := q
theorem range_map {α : Type} (l : List Nat) (b : Nat → Bool) (f : Nat → α) : ((List.range l.length).filter fun k => b (l.getD k 0)).map (fun k => f (l.getD k 0)) = (l.filter b).map f := by
  have e : l = (List.range l.length).map fun k => l.getD k 0 := by
    apply List.ext_getElem
    · simp
    · intro j h1 h2
      simp [List.getD, h1]
  conv => rhs; rw [e, List.filter_map, List.map_map]
  rfl
/-- [e for c in text if t] -/
theorem v_lcS {P : Addr → Hp → Prop} {l : List Nat} {b : Nat → Bool} {f : Nat → V} (hn : l.length ≤ 1000000)
    (ht : ∀ c, c ∈ l → ∀ H1, Same H H1 → ∀ R : Bool → Hp → Prop, (∀ H2, Same H1 H2 → R (b c) H2) → tt ((wipe σ [i]).set i (some (.str (tx [c])))) H1 R)
    (he : ∀ c, c ∈ l → b c = true → ∀ H1, Same H H1 → ∀ R : VK, (∀ H2, Same H1 H2 → R (f c) H2) → te ((wipe σ [i]).set i (some (.str (tx [c])))) H1 R)
    (q : ∀ D H', H D = none → Same H H' → H' D = some (.lst ((l.filter b).map f)) → P D H') :
    ∀ D, H D = none → ∃ W : Nat → Nat → Hp → Prop, (∃ m, W 0 m (upd H D (.lst []))) ∧ ∀ k m H, W k m H →
      ((Its (tx l)).stop k H ∧ P D H) ∨ ((Its (tx l)).go k H ∧ ∃ Nx : Hp → Prop, (∀ H', Nx H' → ∃ m', m' < m ∧ W (k + 1) m' H') ∧ ∀ x H', (Its (tx l)).yld k H x H' → (gName i) x (wipe σ [i]) H' fun s2 H2 => wipe s2 [i] = wipe σ [i] ∧ tt s2 H2 fun c H3 =>
        if c = true then te s2 H3 fun y H4 => ∃ acc, H4 D = some (.lst acc) ∧ acc.length < sizeLine ∧ Nx (upd H4 D (.lst (acc ++ [y]))) else Nx H3) := by
  have mem : ∀ k, k < l.length → l.getD k 0 ∈ l := fun k hk => by
    rw [List.getD_eq_getElem?_getD, List.getElem?_eq_getElem hk]
    exact List.getElem_mem hk
  have w : Walk (Its (tx l)) l.length (fun _ => True) (fun k H x H' => H' = H ∧ x = .str (tx [l.getD k 0])) := by
    refine ⟨fun k H hk _ => by show k < (tx l).cps.size; simpa using hk, fun H _ => by show (tx l).cps.size ≤ l.length; simp, fun k H x H' hk _ y => ?_⟩
    obtain ⟨e, c, hc, rfl⟩ := y
    refine ⟨e, ?_⟩
    have hc : l[k]? = some c := by simpa using hc
    rw [List.getD_eq_getElem?_getD, hc]
    rfl
  refine lc_gen (b := fun k => b (l.getD k 0)) (f := fun k => f (l.getD k 0)) w (fun _ _ => trivial) hn (fun k hk H1 s1 R r => ht _ (mem k hk) H1 s1 R r) (fun k hk c H1 s1 R r => he _ (mem k hk) c H1 s1 R r) (fun D H' hD s' e => q D H' hD s' ?_)
  rw [e, range_map]
end
end Cw
set_option Elab.async false
set_option linter.all false
set_option maxRecDepth 100000
set_option maxHeartbeats 4000000
namespace Cw
open PySem PySem.Spec L2
/-! ### a comprehension of two fors over texts -/
theorem lc_in {J : It} {n : Nat} {G : Hp → Prop} {Y : Nat → Hp → V → Hp → Prop} (w : Walk J n G Y) {g : TG} {tt : TT} {te : TE} {vs : List Nat} {σ : St} {H1 : Hp} {D : Addr} {Qd : Hp → Prop} (Pv : Nat → Hp → Prop) (h0 : Pv 0 H1) (hG : ∀ i H, i ≤ n → Pv i H → G H)
    (hs : ∀ i x H H', i < n → Pv i H → Y i H x H' → g x (wipe σ vs) H' fun s2 H2 => wipe s2 vs = wipe σ vs ∧ tt s2 H2 fun b H3 =>
      if b = true then te s2 H3 fun y H4 => ∃ acc, H4 D = some (.lst acc) ∧ acc.length < sizeLine ∧ Pv (i + 1) (upd H4 D (.lst (acc ++ [y]))) else Pv (i + 1) H3) (hd : ∀ H, Pv n H → Qd H) :
    ∃ W : Nat → Nat → Hp → Prop, (∃ m, W 0 m H1) ∧ ∀ i m H, W i m H →
      (J.stop i H ∧ Qd H) ∨ (J.go i H ∧ ∃ Nx : Hp → Prop, (∀ H', Nx H' → ∃ m', m' < m ∧ W (i + 1) m' H') ∧ ∀ x H', J.yld i H x H' → g x (wipe σ vs) H' fun s2 H2 => wipe s2 vs = wipe σ vs ∧ tt s2 H2 fun b H3 =>
        if b = true then te s2 H3 fun y H4 => ∃ acc, H4 D = some (.lst acc) ∧ acc.length < sizeLine ∧ Nx (upd H4 D (.lst (acc ++ [y]))) else Nx H3) := by
  refine ⟨fun i m H => m = n - i ∧ i ≤ n ∧ Pv i H, ⟨n, rfl, Nat.zero_le _, h0⟩, ?_⟩
  rintro i m H ⟨rfl, hi, p⟩
  by_cases c : i < n
  · exact Or.inr ⟨w.goes i H c (hG i H hi p), Pv (i + 1), fun H' p' => ⟨_, by omega, rfl, c, p'⟩, fun x H' y => hs i x H H' c p (w.yields i H x H' c (hG i H hi p) y)⟩
  · have e : i = n := by omega
    rw [e] at p ⊢
    exact Or.inl ⟨w.stops H (hG n H (Nat.le_refl _) p), hd H p⟩
theorem walk_tx (l : List Nat) : Walk (Its (tx l)) l.length (fun _ => True) (fun k H x H' => H' = H ∧ x = .str (tx [l.getD k 0])) := by
  refine ⟨fun k H hk _ => by show k < (tx l).cps.size; simpa using hk, fun H _ => by show (tx l).cps.size ≤ l.length; simp, fun k H x H' hk _ y => ?_⟩
  obtain ⟨e, c, hc, rfl⟩ := y
  refine ⟨e, ?_⟩
  have hc : l[k]? = some c := by simpa using hc
  rw [List.getD_eq_getElem?_getD, hc]
  rfl
theorem getD_mem {l : List Nat} {k : Nat} (hk : k < l.length) : l.getD k 0 ∈ l := by
  rw [List.getD_eq_getElem?_getD, List.getElem?_eq_getElem hk]
  exact List.getElem_mem hk
theorem take_getD {l : List Nat} {k : Nat} (hk : k < l.length) : l.take (k + 1) = l.take k ++ [l.getD k 0] := by
  rw [List.take_add_one, List.getD_eq_getElem?_getD, List.getElem?_eq_getElem hk]
  rfl
section
variable {σ : St} {H : Hp} {Q : VK} {tt1 : TT} {te t1 : TE} {i j : Nat}
theorem v_lc2S {la lb : List Nat} {b : Nat → Nat → Bool} {f : Nat → Nat → V} (hij : i ≠ j) (hsz : la.length * lb.length < 1000000)
    (h1 : ∀ c, c ∈ la → ∀ H1, Same H H1 → ∀ R : VK, R (.str (tx lb)) H1 → t1 (((σ.set j none).set i none).set i (some (.str (tx [c])))) H1 R)
    (ht : ∀ c d, c ∈ la → d ∈ lb → ∀ H1, Same H H1 → ∀ R : Bool → Hp → Prop, (∀ H2, Same H1 H2 → R (b c d) H2) → tt1 (((((σ.set j none).set i none).set i (some (.str (tx [c])))).set j none).set j (some (.str (tx [d])))) H1 R)
    (he : ∀ c d, c ∈ la → d ∈ lb → b c d = true → ∀ H1, Same H H1 → ∀ R : VK, (∀ H2, Same H1 H2 → R (f c d) H2) → te (((((σ.set j none).set i none).set i (some (.str (tx [c])))).set j none).set j (some (.str (tx [d])))) H1 R)
    (q : ∀ D H', H D = none → Same H H' → H' D = some (.lst (la.flatMap fun c => (lb.filter (b c)).map (f c))) → Q (.ref D) H') :
    tLc2 (iStr (tC (.str (tx la)))) (gName i) tYes (iStr t1) (gName j) tt1 te [i, j] [j] σ H Q := by
  refine ⟨tx la, rfl, fun D hD => ?_⟩
  have len : ∀ l : List Nat, (l.flatMap fun c => (lb.filter (b c)).map (f c)).length ≤ l.length * lb.length := by
    intro l
    induction l with
    | nil => simp
    | cons c r ih =>
      rw [List.flatMap_cons, List.length_append, List.length_map, List.length_cons, Nat.succ_mul]
      have := List.length_filter_le (b c) lb
      omega
  refine ⟨fun k m H' => m = la.length - k ∧ k ≤ la.length ∧ Same H H' ∧ H' D = some (.lst ((la.take k).flatMap fun c => (lb.filter (b c)).map (f c))), ⟨_, rfl, Nat.zero_le _, Same.new hD, upd_same⟩, ?_⟩
  rintro k m H1 ⟨rfl, hk, s1, e1⟩
  have w := walk_tx la
  by_cases c : k < la.length
  · refine Or.inr ⟨w.goes k H1 c trivial, fun H' => Same H H' ∧ H' D = some (.lst ((la.take (k + 1)).flatMap fun c => (lb.filter (b c)).map (f c))), fun H' p => ⟨_, by omega, rfl, c, p.1, p.2⟩, fun x H2 y => ?_⟩
    obtain ⟨rfl, rfl⟩ := w.yields k H1 x H2 c trivial y
    have hm := getD_mem c
    refine ⟨?_, ?_⟩
    · show ((((σ.set j none).set i none).set i _).set j none).set i none = (σ.set j none).set i none
      rw [List.set_comm _ _ hij.symm, List.set_set, List.set_set, List.set_comm _ _ hij, List.set_set]
    · unfold tYes
      refine iteT ?_
      refine h1 _ hm _ s1 _ ⟨tx lb, rfl, ?_⟩
      refine lc_in (walk_tx lb) (fun z H' => Same H H' ∧ H' D = some (.lst (((la.take k).flatMap fun c => (lb.filter (b c)).map (f c)) ++ ((lb.take z).filter (b (la.getD k 0))).map (f (la.getD k 0))))) ⟨s1, by simpa using e1⟩ (fun _ _ _ _ => trivial) ?_ ?_
      · rintro z x H3 H4 hz ⟨s3, e3⟩ ⟨rfl, rfl⟩
        have hm2 := getD_mem hz
        have et := take_getD hz
        refine ⟨?_, ht _ _ hm hm2 _ s3 _ fun H5 s5 => ?_⟩
        · exact wipe1
        · show (if b (la.getD k 0) (lb.getD z 0) = true then _ else _)
          by_cases cb : b (la.getD k 0) (lb.getD z 0) = true
          · rw [if_pos cb]
            refine he _ _ hm hm2 cb _ (s3.trans s5) _ fun H6 s6 => ⟨_, s6 _ _ (s5 _ _ e3), ?_, fun a o ha => ?_, ?_⟩
            · have n1 := len (la.take k)
              have n2 : ((lb.take z).filter (b (la.getD k 0))).length ≤ z := by
                have := List.length_filter_le (b (la.getD k 0)) (lb.take z)
                rw [List.length_take] at this
                omega
              rw [List.length_append, List.length_map]
              rw [List.length_take, Nat.min_eq_left (by omega)] at n1
              have n3 : k * lb.length + lb.length ≤ la.length * lb.length := by
                rw [← Nat.succ_mul]
                exact Nat.mul_le_mul_right _ c
              exact szlt (by omega)
            · rw [upd_ne (ne_of_none ha hD)]
              exact s6 _ _ (s5 _ _ (s3 _ _ ha))
            · rw [upd_same, et, List.filter_append, List.map_append, List.append_assoc, List.filter_cons, if_pos cb]
              rfl
          · rw [if_neg cb]
            refine ⟨s3.trans s5, ?_⟩
            rw [s5 _ _ e3, et, List.filter_append, List.filter_cons, if_neg cb, List.filter_nil, List.append_nil]
      · rintro H' ⟨s', e'⟩
        refine ⟨s', ?_⟩
        rw [e', take_getD c, List.flatMap_append, List.take_of_length_le (Nat.le_refl _)]
        simp
  · have e : k = la.length := by omega
    subst e
    refine Or.inl ⟨w.stops H1 trivial, q D H1 hD s1 ?_⟩
    rw [e1, List.take_of_length_le (Nat.le_refl _)]
end
end Cw
set_option Elab.async false
set_option linter.all false
set_option maxRecDepth 100000
set_option maxHeartbeats 4000000
/-! plain words about plans -/
namespace Cw
open PySem L2
def LET : List Nat := [97, 98, 99, 100, 101, 102, 103, 104, 105, 106, 107, 108, 109, 110, 111, 112, 113, 114, 115, 116, 117, 118, 119, 120, 121, 122]
def ascOf (l : List Nat) : List Nat := LET.filter fun c => decide (c ∈ l)
def pairsOf (found : List (List Nat)) : List (List Nat) := LET.flatMap fun a => (LET.filter fun b => decide ([a, b] ∈ found)).map fun b => [a, b]
def crossOf (ks : List Nat) (ps : List (List Nat)) (k : Nat) : List Nat := ks.filter fun o => decide ([k, o] ∈ ps) || decide ([o, k] ∈ ps)
/-- the pairs that a plan may be told by: two different kinds each -/
def PairsIn (ks : List Nat) (ps : List (List Nat)) : Prop := ∀ p ∈ ps, ∃ a b, p = [a, b] ∧ a ≠ b ∧ a ∈ ks ∧ b ∈ ks
def crossKV (ks : List Nat) (ps : List (List Nat)) (l : List Nat) : List (Key × V) := l.map fun k => (Sum.inr (tx [k]), V.str (tx (crossOf ks ps k)))
/-- a list of texts as values -/
abbrev strsV (ls : List (List Nat)) : List V := ls.map fun l => V.str (tx l)
theorem LET_lt {c : Nat} (h : c ∈ LET) : 97 ≤ c ∧ c < 123 := by
  unfold LET at h
  simp only [List.mem_cons, List.not_mem_nil, or_false] at h
  omega
theorem ascOf_mem {l : List Nat} {c : Nat} : c ∈ ascOf l ↔ c ∈ LET ∧ c ∈ l := by
  unfold ascOf
  rw [List.mem_filter, decide_eq_true_iff]
theorem ascOf_len (l : List Nat) : (ascOf l).length ≤ 26 := List.length_filter_le _ _
theorem LET_nodup : LET.Nodup := by decide
theorem ascOf_nodup (l : List Nat) : (ascOf l).Nodup := LET_nodup.filter _
theorem pairsOf_mem {f : List (List Nat)} {p : List Nat} : p ∈ pairsOf f ↔ ∃ a b, p = [a, b] ∧ a ∈ LET ∧ b ∈ LET ∧ [a, b] ∈ f := by
  unfold pairsOf
  simp only [List.mem_flatMap, List.mem_map, List.mem_filter, decide_eq_true_iff]
  constructor
  · rintro ⟨a, ha, b, ⟨hb, hf⟩, rfl⟩
    exact ⟨a, b, rfl, ha, hb, hf⟩
  · rintro ⟨a, b, rfl, ha, hb, hf⟩
    exact ⟨a, ha, b, ⟨hb, hf⟩, rfl⟩
theorem pairsOf_congr {f g : List (List Nat)} (h : ∀ a b, a ∈ LET → b ∈ LET → ([a, b] ∈ f ↔ [a, b] ∈ g)) : pairsOf f = pairsOf g := by
  unfold pairsOf
  have h2 : ∀ l : List Nat, (∀ a ∈ l, a ∈ LET) → (l.flatMap fun a => (LET.filter fun b => decide ([a, b] ∈ f)).map fun b => [a, b]) = (l.flatMap fun a => (LET.filter fun b => decide ([a, b] ∈ g)).map fun b => [a, b]) := by
    intro l
    induction l with
    | nil => intro _; rfl
    | cons c r ih =>
      intro hm
      rw [List.flatMap_cons, List.flatMap_cons, ih fun a ha => hm a (List.mem_cons_of_mem _ ha)]
      congr 2
      refine List.filter_congr fun b hb => ?_
      exact decide_eq_decide.mpr (h c b (hm c (List.mem_cons_self ..)) hb)
  exact h2 LET fun a ha => ha
theorem filter_yes {α : Type} (l : List α) : l.filter (fun _ => true) = l := List.filter_eq_self.mpr fun _ _ => rfl
theorem flat_ones (l : List Nat) : (l.map fun c => [c]).flatten = l := by
  induction l with
  | nil => rfl
  | cons c r ih => rw [List.map_cons, List.flatten_cons, ih]; rfl
theorem strs_ones (l : List Nat) : (l.map fun c => V.str (tx [c])) = strsV (l.map fun c => [c]) := by
  unfold strsV
  rw [List.map_map]
  rfl
theorem nodup_ones {l : List Nat} : (l.map fun c => tx [c]).Nodup ↔ l.Nodup := by
  induction l with
  | nil => simp
  | cons c r ih =>
    rw [List.map_cons, List.nodup_cons, List.nodup_cons, ih]
    refine and_congr_left fun _ => not_congr ?_
    rw [List.mem_map]
    constructor
    · rintro ⟨d, hd, e⟩
      have : [d] = [c] := tx_inj.mp e
      injection this with e _
      exact e ▸ hd
    · intro h
      exact ⟨c, h, rfl⟩
theorem metOf_ones (l : List Nat) : ((metOf (l.map fun c => tx [c])).length = l.length) ↔ l.Nodup := by
  by_cases h : l.Nodup
  · rw [metOf_nodup (nodup_ones.mpr h), List.length_map]
    exact ⟨fun _ => h, fun _ => rfl⟩
  · have := metOf_lt (fun n => h (nodup_ones.mp n))
    rw [List.length_map] at this
    exact ⟨fun e => by omega, fun n => absurd n h⟩
theorem crossOf_len (ks : List Nat) (ps : List (List Nat)) (k : Nat) : (crossOf ks ps k).length ≤ ks.length := List.length_filter_le _ _
section
variable {σ : L2.St} {H : Hp} {Q : VK} {te : TE} {K : PySem.W.Frag}
theorem e_iStr {R : It → Hp → Prop} (q : te σ H fun v H1 => ∃ x, v = .str x ∧ R (Its x) H1) : iStr te σ H R := q
theorem e_iL {R : It → Hp → Prop} (q : te σ H fun x H1 => ∃ a, x = .ref a ∧ (∃ xs, SqL K H1 a xs) ∧ R (Itl K a) H1) : iList K te σ H R := q
theorem v_iL {P : Addr → Prop} {a : Addr} {xs : List V} (h : H a = some (.lst xs)) (q : P a) : ∃ a', V.ref a = .ref a' ∧ (∃ xs, SqL K H a' xs) ∧ P a' := ⟨a, rfl, ⟨xs, SqL.of h⟩, q⟩
theorem e_iR1 {ta : TA} {R : It → Hp → Prop} (q : ta σ H fun vs H1 => ∃ j : Int, vs = [.int j] ∧ -(2 ^ 62) ≤ j ∧ j < 2 ^ 62 ∧ R (Itr 0 j.toNat) H1) : iRng1 ta σ H R := q
theorem v_iR1 {P : Int → Prop} {j : Int} (h1 : -1000000 ≤ j) (h2 : j < 1000000) (q : P j) : ∃ j' : Int, [V.int j] = [.int j'] ∧ -(2 ^ 62) ≤ j' ∧ j' < 2 ^ 62 ∧ P j' := ⟨j, rfl, by omega, by omega, q⟩
theorem e_iR2 {ta : TA} {R : It → Hp → Prop} (q : ta σ H fun vs H1 => ∃ i j : Int, vs = [.int i, .int j] ∧ (-(2 ^ 62) ≤ i ∧ i < 2 ^ 62 ∧ -(2 ^ 62) ≤ j ∧ j < 2 ^ 62) ∧ R (Itr i (j - i).toNat) H1) : iRng2 ta σ H R := q
theorem v_iR2 {P : Int → Int → Prop} {i j : Int} (h1 : -1000000 ≤ i ∧ i < 1000000 ∧ -1000000 ≤ j ∧ j < 1000000) (q : P i j) : ∃ i' j' : Int, [V.int i, V.int j] = [.int i', .int j'] ∧ (-(2 ^ 62) ≤ i' ∧ i' < 2 ^ 62 ∧ -(2 ^ 62) ≤ j' ∧ j' < 2 ^ 62) ∧ P i' j' := ⟨i, j, rfl, by omega, q⟩
theorem e_for {wi : TI} {g : TG} {tb : TS} {D : Ends} (q : wi σ H fun J H1 => ∃ W : Nat → Nat → L2.St → Hp → Prop, (∃ m, W 0 m σ H1) ∧ ∀ i m σ H, W i m σ H →
    (J.stop i H ∧ D.nx σ H) ∨ (J.go i H ∧ ∃ N : L2.St → Hp → Prop, (∀ σ' H', N σ' H' → ∃ m', m' < m ∧ W (i + 1) m' σ' H') ∧ ∀ x H', J.yld i H x H' → g x σ H' fun s2 H2 => tb { D with nx := N, ct := N, bk := D.nx } s2 H2)) : tFor wi g tb D σ H := q
theorem iteNT {A B : Prop} (h : B) : if (!true) = true then A else B := by
  rw [if_neg (by decide)]
  exact h
theorem iteNF {A B : Prop} (h : A) : if (!false) = true then A else B := by
  rw [if_pos (by decide)]
  exact h
theorem e_yes {Q : Bool → Hp → Prop} (q : Q true H) : tYes σ H Q := q
theorem v_isiS {x : Str} (q : Q (.bl true) H) : rIsi K [.str x, .ty "str"] H Q := ⟨.str x, .ty "str", .type "str", .type "str", true, rfl, .ty "str", .base (.str x), kit_ty (by decide +kernel), q⟩
theorem v_all {p : Addr} {bs : List Bool} (h : H p = some (.lst (bs.map V.bl))) (q : Q (.bl (bs.all id)) H) : rAll K [.ref p] H Q := ⟨p, bs, rfl, SqL.of h, q⟩
theorem v_fld {P : V → Prop} {a C dx : Addr} {fs : List (Str × V)} {f : Str} {v : V} (h : H a = some (.ins C dx fs)) (c : Cls K C) (n : NoAttr K C f) (l : fs.lookup f = some v) (q : P v) : ∃ a' C dx fs v, V.ref a = .ref a' ∧ H a' = some (.ins C dx fs) ∧ Cls K C ∧ NoAttr K C f ∧ fs.lookup f = some v ∧ P v := ⟨a, C, dx, fs, v, rfl, h, c, n, l, q⟩
theorem e_sfld {ta tv : TE} {f : Str} {D : Ends} (q : tv σ H fun y H1 => ta σ H1 fun x H2 => ∃ a C dx fs, x = .ref a ∧ H2 a = some (.ins C dx fs) ∧ Cls K C ∧ NoAttr K C f ∧ fs.length < 1000 ∧ D.nx σ (upd H2 a (.ins C dx (putF f y fs)))) : sFld K ta tv f D σ H := q
theorem v_sfld {P : Hp → Prop} {a C dx : Addr} {fs : List (Str × V)} {f : Str} {y : V} (h : H a = some (.ins C dx fs)) (c : Cls K C) (n : NoAttr K C f) (l : fs.length < 1000) (q : ∀ H', Keep a H H' → H' a = some (.ins C dx (putF f y fs)) → P H') :
    ∃ a' C dx fs, V.ref a = .ref a' ∧ H a' = some (.ins C dx fs) ∧ Cls K C ∧ NoAttr K C f ∧ fs.length < 1000 ∧ P (upd H a' (.ins C dx (putF f y fs))) := ⟨a, C, dx, fs, rfl, h, c, n, l, q _ Keep.put upd_same⟩
/-- a class of the text -/
structure ClsF (K : PySem.W.Frag) (mg : Str → Option Value) (x : Str) (C : Addr) : Prop where
  «at» : mg x = some (.ref C)
  cl : Cls K C
  mks : PySem.W.makesIn K C = true
  kp : PySem.W.keepIn K (.ref C) = true
  ha : PySem.W.findIn K (.ref C) "__class__" = some (some (.builtin "object.__class__"))
  hn : PySem.W.specialIn K (.builtin "object.__class__") "__get__" = some (some (.builtin "getset_descriptor.__get__"))
  ht : PySem.W.takesIn K (.builtin "object.__class__") = some true
  hm : PySem.W.mroIn K C (.type "object") = some true
  ob : PySem.W.subIn K (.ref C) (.type "object") = some true
  ne : PySem.W.findIn K (.ref C) "__ne__" = some (some (.builtin "object.__ne__"))
theorem v_isiL {p t : Addr} {xs : List V} (h : H p = some (.lst xs)) (ht : H t = some (.tup [.ty "list", .ty "tuple"])) (q : Q (.bl true) H) : rIsiT K [.ref p, .ref t] H Q :=
  ⟨.ref p, t, _, .type "list", [.type "list", .type "tuple"], true, rfl, ht, .cons (.ty _) (.cons (.ty _) .nil), .base (.lst h), kitAny_cons (b := true) (kit_ty (by decide +kernel)) (fun z => nomatch z) (fun _ => rfl), q⟩
end
def rTuple (K : PySem.W.Frag) : List V → Hp → VK → Prop := fun xs H Q => ∃ p ys, xs = [.ref p] ∧ ((SqL K H p ys ∧ ∀ l, H l = none → Q (.ref l) (upd H l (.tup ys))) ∨ (SqT K H p ys ∧ Q (.ref p) H))
theorem c_tuple {X : Cx} : CallR X (.type "tuple") (rTuple X.K) := call_tuple_of
theorem v_tuple {K : PySem.W.Frag} {H : Hp} {Q : VK} {p : Addr} {ys : List V} (h : H p = some (.lst ys)) (q : ∀ l H', H l = none → Same H H' → H' l = some (.tup ys) → Q (.ref l) H') : rTuple K [.ref p] H Q :=
  ⟨p, ys, rfl, .inl ⟨SqL.of h, fun l hl => q l _ hl (Same.new hl) upd_same⟩⟩
def rList (K : PySem.W.Frag) : List V → Hp → VK → Prop := fun xs H Q => ∃ p ys, xs = [.ref p] ∧ (SqL K H p ys ∨ SqT K H p ys) ∧ ∀ l, H l = none → Q (.ref l) (upd H l (.lst ys))
theorem c_list {X : Cx} : CallR X (.type "list") (rList X.K) := call_list_of
theorem v_list {K : PySem.W.Frag} {H : Hp} {Q : VK} {p : Addr} {ys : List V} (h : SqL K H p ys) (q : ∀ l H', H l = none → Same H H' → H' l = some (.lst ys) → Q (.ref l) H') : rList K [.ref p] H Q :=
  ⟨p, ys, rfl, .inl h, fun l hl => q l _ hl (Same.new hl) upd_same⟩
section
variable {σ : L2.St} {H : Hp} {Q : VK} {K : PySem.W.Frag}
theorem e_bm {T : String} {r : V → List V → Hp → VK → Prop} {to : TE} {t : TA} (q : to σ H fun x H1 => tyV K T x H1 ∧ t σ H1 fun xs H2 => r x xs H2 Q) : tBM K T r to t σ H Q := q
theorem e_bm0 {T : String} {r : V → List V → Hp → VK → Prop} {to : TE} (q : to σ H fun x H1 => tyV K T x H1 ∧ r x [] H1 Q) : tBM0 K T r to σ H Q := q
theorem v_tyL {P : Prop} {p : Addr} {xs : List V} (h : H p = some (.lst xs)) (q : P) : tyV K "list" (.ref p) H ∧ P := ⟨.inl ⟨rfl, _, SqL.of h⟩, q⟩
theorem v_app {p : Addr} {xs : List V} {y : V} (h : H p = some (.lst xs)) (hl : xs.length < 1000000) (q : ∀ H', Keep p H H' → H' p = some (.lst (xs ++ [y])) → Q .non H') : rAppend (.ref p) [y] H Q :=
  ⟨p, xs, y, rfl, rfl, h, szlt hl, q _ Keep.put upd_same⟩
end
/-! ### rules with the written part named (in a comprehension's block too) -/
section
variable {X : Cx} {K : PySem.W.Frag}
theorem op_inLK (h : X.K = K) : OpR X (compareOp .In) (rIn K false) := h ▸ op_in_seq
theorem ix_LK (h : X.K = K) : IxR X (rIxL K) := h ▸ ix_list
theorem pe_flK {e : Expr} {f : Str} {pos : PySem.Pos} {ta : TE} (h : X.K = K) (he : PE X e ta) (hb : attributeBase e f X.env (eval e X.env) = eval e X.env) : PE X (.Attribute e f pos) (tFld K ta f) := h ▸ pe_fld he hb
theorem ps_flK {o value : Expr} {f : Str} {pos pos' : PySem.Pos} {ta tv : TE} (h : X.K = K) (ha : PE X o ta) (hv : PE X value tv) (hs : swapsWith value (some (.Attribute o f pos')) pos.line X.env = pure false) : PS X (.Assign [.Attribute o f pos'] value pos) (sFld K ta tv f) := h ▸ ps_fld ha hv hs
theorem pe_joinK {o e : Expr} {to te : TE} {apos pos : PySem.Pos} (h : X.K = K) (ho : PE X o to) (he : PE X e te) (hs : starEach [e] X.env = [(false, eval e X.env)] := by rfl) (hbase : attributeBase o "join" X.env (eval o X.env) = eval o X.env := by rfl) (hline : (apos.endLine == pos.line) = true := by rfl) :
    PE X (.Call (.Attribute o "join" apos) [e] [] pos) (tM1 (rJoinT K) to te) := h ▸ pe_joinT ho he hs hbase hline
theorem c_lenK (h : X.K = K) : CallR X (.builtin "len") (rLen K) := h ▸ c_len
theorem c_isiK (h : X.K = K) : CallR X (.builtin "isinstance") (rIsi K) := h ▸ call_isi
theorem c_isiTK (h : X.K = K) : CallR X (.builtin "isinstance") (rIsiT K) := h ▸ call_isiT
theorem c_listK (h : X.K = K) : CallR X (.type "list") (rList K) := h ▸ c_list
theorem c_tupleK (h : X.K = K) : CallR X (.type "tuple") (rTuple K) := h ▸ c_tuple
theorem c_allK (h : X.K = K) (hc : X.calm = true) : CallR X (.builtin "all") (rAll K) := h ▸ cr_all hc
theorem sl_LK (h : X.K = K) : SlR X (rSlL K) := h ▸ sl_list
theorem op_neDK (h : X.K = K) (hu : X.A.units + 64 < cLine) : OpR X (compareOp .NotEq) (rNeD K) := h ▸ op_neD hu
theorem pi_listK {tg e : Expr} {te : TE} (h : X.K = K) (he : PE X e te) : PI X tg e (iList K te) := h ▸ pi_list he
theorem pi_tupK {tg e : Expr} {te : TE} (h : X.K = K) (he : PE X e te) : PI X tg e (iTup K te) := h ▸ pi_tup he
theorem pe_appK {o e : Expr} {to te : TE} {apos cpos : PySem.Pos} (h : X.K = K) (ho : PE X o to) (he : PE X e te) (hbase : attributeBase o "append" X.env (eval o X.env) = eval o X.env := by rfl)
    (hfew : ((backTo cpos (starEach [e] X.env)).all (fun x => !x.1) && (backToKw cpos (keywordEach [] X.env)).all (fun x => x.1.isSome) && decide ([e].length + ([] : List Keyword).length + (if ([] : List Keyword).isEmpty then 0 else 1) < 30)) = true := by rfl)
    (hline : (apos.endLine == cpos.line) = true := by rfl) (hs : starEach [e] X.env = (false, eval e X.env) :: starEach [] X.env := by rfl) (hplain : (backTo cpos (starEach [] X.env)).any (·.1) = false := by rfl) :
    PE X (.Call (.Attribute o "append" apos) [e] [] cpos) (tBM K "list" rAppend to (tCons te tNil)) := h ▸ pe_bm PySem.F.plainAttrs_list PySem.F.slot_list_append PySem.F.type_list_append mt_append ho (pa_cons he pa_nil hs) hbase hfew hline hs hplain
end
/-- two readings of one walk -/
def iOr (a b : TI) : TI := fun σ H R => a σ H R ∨ b σ H R
theorem pi_or {X : Cx} {tg e : Expr} {a b : TI} (h1 : PI X tg e a) (h2 : PI X tg e b) : PI X tg e (iOr a b) :=
  ⟨fun pos s σ H R I h => h.elim (h1.run pos s σ H R I) (h2.run pos s σ H R I)⟩
/-- a list or a tuple, or the empty tuple of the top -/
def SeqO (K : PySem.W.Frag) (H : Hp) (p : Addr) (xs : List V) : Prop := H p = some (.lst xs) ∨ H p = some (.tup xs) ∨ (xs = [] ∧ ∃ o n, K.lookup p = some o ∧ o.cls = .type "tuple" ∧ o.data = .seq #[] n)
section
variable {K : PySem.W.Frag} {H H' : Hp} {p x : Addr} {xs : List V}
theorem SeqO.go (h : SeqO K H p xs) (s : ∀ o, H p = some o → H' p = some o) : SeqO K H' p xs := h.imp (s _) (fun z => z.imp (s _) id)
theorem SeqO.same (h : SeqO K H p xs) (s : Same H H') : SeqO K H' p xs := h.go (s _)
theorem SeqO.keepI {C dx : Addr} {fs : List (Str × V)} (h : SeqO K H p xs) (s : Keep x H H') (hx : H x = some (.ins C dx fs)) : SeqO K H' p xs := by
  rcases h with h | h | h
  · exact .inl (s _ _ h (ne_of h hx (by intro z; cases z)))
  · exact .inr (.inl (s _ _ h (ne_of h hx (by intro z; cases z))))
  · exact .inr (.inr h)
theorem v_isiQ {Q : VK} {t : Addr} (h : SeqO K H p xs) (ht : H t = some (.tup [.ty "list", .ty "tuple"])) (q : Q (.bl true) H) : rIsiT K [.ref p, .ref t] H Q := by
  have key : TyX K H (.ref p) (.type "tuple") → rIsiT K [.ref p, .ref t] H Q := fun ty => ⟨.ref p, t, _, .type "tuple", [.type "list", .type "tuple"], true, rfl, ht, .cons (.ty _) (.cons (.ty _) .nil), ty, kitAny_cons (b := false) (kit_ty (by decide +kernel)) (fun _ => kitAny_cons (b := true) (kit_ty (by decide +kernel)) (fun z => nomatch z) (fun _ => rfl)) (fun z => nomatch z), q⟩
  rcases h with h | h | ⟨_, o, n, h, c, _⟩
  · exact v_isiL h ht q
  · exact key (.base (.tup h))
  · exact key (.kTuple h c)
/-- a for over a list or a tuple -/
theorem e_forSeq {te : TE} {g : TG} {tb : TS} {D : Ends} {σ : L2.St} {H0 : Hp} (hp : SeqO K H0 p xs) (s0 : Same H0 H) (ht : ∀ Q : VK, Q (.ref p) H → te σ H Q) (Pv : Nat → L2.St → Hp → Prop) (h0 : Pv 0 σ H) (hG : ∀ i σ' H', Pv i σ' H' → Same H0 H')
    (hs : ∀ i x σ H H', i < xs.length → Pv i σ H → YAt xs i H x H' → g x σ H' fun σ2 H2 => tb { D with nx := Pv (i + 1), ct := Pv (i + 1), bk := D.nx } σ2 H2) (hd : ∀ σ H, Pv xs.length σ H → D.nx σ H) : tFor (iOr (iList K te) (iTup K te)) g tb D σ H := by
  rcases hp with hp | hp | ⟨rfl, o, n, h, c, e⟩
  · exact Or.inl (ht _ ⟨p, rfl, ⟨xs, SqL.of (s0 _ _ hp)⟩, for_it walk_list Pv h0 (fun i σ' H' _ z => SqL.of (hG i σ' H' z _ _ hp)) hs hd⟩)
  · exact Or.inr (ht _ ⟨p, rfl, ⟨xs, SqT.of (s0 _ _ hp)⟩, for_it walk_tup Pv h0 (fun i σ' H' _ z => SqT.of (hG i σ' H' z _ _ hp)) hs hd⟩)
  · have k : ∀ H', SqT K H' p [] := fun H' => .inr ⟨o, #[], n, h, c, e, by decide, .nil⟩
    exact Or.inr (ht _ ⟨p, rfl, ⟨[], k _⟩, for_it walk_tup Pv h0 (fun i σ' H' _ z => k _) hs hd⟩)
end
theorem DPut.cross {H : Hp} {a : Addr} {kvs : List (Key × V)} {l : List Nat} {v : V} (e : H a = some (.dK kvs)) (hn : valV kvs (Sum.inr (tx l)) = none) (hl : kvs.length < 1000000) : DPut H a (.str (tx l)) v (upd H a (.dK (kvs ++ [(Sum.inr (tx l), v)]))) := by
  have h := DPut.k (k := Sum.inr (tx l)) (v := v) e (szlt hl)
  rw [putK_new v hn] at h
  exact h
theorem key_tx {a b : List Nat} : (Sum.inr (tx a) : Key) = Sum.inr (tx b) ↔ a = b := by
  constructor
  · intro h
    injection h with h
    exact tx_inj.mp h
  · intro h
    rw [h]
/-- a dict by letters -/
theorem letV_none {g : Nat → V} {k : Nat} : ∀ {l : List Nat}, ¬ k ∈ l → valV (l.map fun c => ((Sum.inr (tx [c]) : Key), g c)) (Sum.inr (tx [k])) = none
  | [], _ => rfl
  | c :: r, h => by
    rw [List.map_cons, valV_neg, letV_none fun z => h (List.mem_cons_of_mem _ z)]
    intro e
    have := key_tx.mp e
    injection this with e _
    exact h (e ▸ List.mem_cons_self ..)
theorem letV_some {g : Nat → V} {k : Nat} : ∀ {l : List Nat}, k ∈ l → valV (l.map fun c => ((Sum.inr (tx [c]) : Key), g c)) (Sum.inr (tx [k])) = some (g k)
  | [], h => by cases h
  | c :: r, h => by
    by_cases e : c = k
    · subst e
      rw [List.map_cons, valV_pos rfl]
    · rw [List.map_cons, valV_neg, letV_some ((List.mem_cons.mp h).resolve_left fun z => e z.symm)]
      intro z
      have := key_tx.mp z
      injection this with z _
      exact e z
theorem dget_let {H : Hp} {d : Addr} {g : Nat → V} {k : Nat} {l : List Nat} (h : H d = some (.dK (l.map fun c => ((Sum.inr (tx [c]) : Key), g c)))) (hk : k ∈ l) : DGet H d (.str (tx [k])) (some (g k)) := by
  have e := DGet.k (k := Sum.inr (tx [k])) h
  rw [letV_some hk] at e
  exact e
theorem take_notin {l : List Nat} (h : l.Nodup) {i : Nat} (hi : i < l.length) : ¬ l.getD i 0 ∈ l.take i := by
  intro m
  obtain ⟨j, hj, e⟩ := List.mem_iff_getElem.mp m
  rw [List.length_take] at hj
  rw [List.getElem_take, List.getD_eq_getElem?_getD, List.getElem?_eq_getElem hi] at e
  have := (List.getElem_inj h).mp e
  omega
end Cw
set_option Elab.async false
set_option linter.all false
set_option maxRecDepth 100000
set_option maxHeartbeats 4000000
/-! the same steps, what is to be found asked behind the match -/
namespace Cw
open PySem PySem.Spec L2
section
variable {σ : St} {H : Hp} {Q : VK} {i : Nat} {y : V} {K : PySem.W.Frag}
theorem e_varG (q : ∃ v, σ[i]? = some (some v) ∧ Q v H) : tVar i σ H Q := q
theorem v_lenG {p : Addr} (q : ∃ ys, H p = some (.lst ys) ∧ Q (.int (ys.length : Nat)) H) : rLen K [.ref p] H Q := by
  obtain ⟨ys, h, q⟩ := q
  exact v_len h q
theorem v_inLG {x : List Nat} {p : Addr} (q : ∃ ls : List (List Nat), H p = some (.lst (ls.map fun l => V.str (tx l))) ∧ Q (.bl (decide (x ∈ ls))) H) : rIn K false (.str (tx x)) (.ref p) H Q := by
  obtain ⟨ys, h, q⟩ := q
  exact v_inL h q
theorem v_lenSetG {P : Program} {w : World} {p : Addr} (q : ∃ l : List Str, H p = some (SetT P w p l) ∧ Q (.int (l.length : Nat)) H) : rLenSet P w [.ref p] H Q := by
  obtain ⟨ys, h, q⟩ := q
  exact v_lenSet h q
theorem v_tyLG {P : Prop} {p : Addr} (q : ∃ xs, H p = some (.lst xs) ∧ P) : tyV K "list" (.ref p) H ∧ P := by
  obtain ⟨ys, h, q⟩ := q
  exact v_tyL h q
theorem v_iLG {P : Addr → Prop} {a : Addr} (q : ∃ xs, H a = some (.lst xs) ∧ P a) : ∃ a', V.ref a = .ref a' ∧ (∃ xs, SqL K H a' xs) ∧ P a' := by
  obtain ⟨ys, h, q⟩ := q
  exact v_iL h q
theorem v_dgetG {P : V → Prop} {a : Addr} (q : ∃ v, DGet H a y (some v) ∧ P v) : ∃ a' v, V.ref a = .ref a' ∧ DGet H a' y (some v) ∧ P v := by
  obtain ⟨v, h, q⟩ := q
  exact v_dget h q
end
end Cw
set_option Elab.async false
set_option linter.all false
set_option maxRecDepth 100000
set_option maxHeartbeats 4000000
/-! C(..) as a call with a promise of its own -/
namespace Cw
open PySem PySem.Spec L2
/-- from what a caller wants of C(..) to what __init__ promises -/
def Conv (C : Addr) (sp0 sp : Sp) : Prop := ∀ vs H Q E, sp vs H Q E → ∀ x dx, H x = none → H dx = none → dx ≠ x → sp0 (.ref x :: vs) (upd (upd H dx (.own x)) x (.ins C dx [])) (fun v H2 => v = .non ∧ Q (.ref x) H2) E
structure CDef (P : Program) (w : World) (K : PySem.W.Frag) (mg : Str → Option Value) (base : Heap) (CX : CXT) (k : Nat) (x : Str) (C : Addr) (sp : Sp) : Prop where
  ex : ∃ f fd ps sp0, mg x = some (.ref C) ∧ Mk K C f ∧ Binds K fd ps [] ∧ FnOk P w K mg base CX k f fd ps sp0 ∧ Conv C sp0 sp
section
variable {X : Cx} {CX : CXT} {k : Nat} {sp : Sp} {E : XK} {x : Str} {C : Addr} {p pos : PySem.Pos} {e : Expr} {es : List Expr} {t : TA}
theorem pe_mk (D : CDef X.prog X.w X.K X.mg X.base CX k x C sp) (hr : Room (k + 1) X.A) (hx : Passes CX X E) (ha : PA X (e :: es) t) (hg : Gl X x := by rfl) (hdb : (x == ("__debug__" : Str)) = false := by decide)
    (he : starEach (e :: es) X.env = (false, eval e X.env) :: starEach es X.env := by rfl) (hpl : (backTo pos (starEach es X.env)).any (·.1) = false := by rfl) : PE X (.Call (.Name x p) (e :: es) [] pos) (tCall sp [] E t) := by
  obtain ⟨f, fd, ps, sp0, hm, M, hb, F, cv⟩ := D.ex
  refine ⟨fun pins s σ H Q I h => ?_⟩
  refine wpAny_Call_Name_kw (ld_glob I hg hm ?_ hdb)
  refine PySem.W.callWith_K (h₀ := X.base) I.ok.mod.kin M.kp (thn (ha.run pos pins s σ H _ I h) fun us s1 ⟨vs, H1, I1, r, q⟩ => ⟨I1.kIn, ?_⟩) he hpl
  refine run_make M F hr hb .nil hx I1 r fun a da n1 n2 n3 => ?_
  have q : sp (vs ++ []) H1 Q E := q
  rw [List.append_nil] at q ⊢
  exact cv vs H1 Q E q a da n1 n2 n3
end
/-- a method with defaults, all parameters given -/
structure MAtD (K : PySem.W.Frag) (C : Addr) (m qual : Str) (st : Stmt) (dvs : List V) : Prop where
  ex : ∃ f fd, PySem.W.findIn K (.ref C) m = some (some (.ref f)) ∧ PySem.W.isFn K (.ref f) = true ∧ FunD K m qual (defArgs st) (defBody st) (defScope st) dvs [] f fd
section
variable {P : Program} {w : World} {K : PySem.W.Frag} {mg : Str → Option Value} {base : Heap} {CX : CXT} {k : Nat} {C : Addr} {x qual : Str} {ps N : List Str} {sp sp0 : Sp} {st : Stmt} {dvs : List V}
/-- C(..) by its __init__ -/
structure CMk (P : Program) (w : World) (K : PySem.W.Frag) (mg : Str → Option Value) (base : Heap) (CX : CXT) (k : Nat) (x : Str) (C : Addr) (sp : Sp) (ps : List Str) (qual : Str) (st : Stmt) (dvs : List V) : Prop where
  ex : ∃ f fd sp0, mg x = some (.ref C) ∧ Mk K C f ∧ Binds K fd ps [] ∧ FnOk P w K mg base CX k f fd ps sp0 ∧ Conv C sp0 sp ∧ FunD K "__init__" qual (defArgs st) (defBody st) (defScope st) dvs [] f fd
theorem CMk.cdef (D : CMk P w K mg base CX k x C sp ps qual st dvs) : CDef P w K mg base CX k x C sp := by
  obtain ⟨f, fd, sp0, a, b, c, d, e, _⟩ := D.ex
  exact ⟨f, fd, ps, sp0, a, b, c, d, e⟩
/-- C(..) by its __init__, that lets nothing out; h: how the arguments bind where all are given -/
theorem MAtD.make (F : MAtD K C "__init__" qual st dvs) (cf : ClsF K mg x C) (S : FnScope N ps (defScope st)) (hd : dvs ≠ [])
    (hb : ∀ (T : Addr) (kV doc pm : Value) (an : Option Addr) (cdv ct : Value) (us its : List Value), us.length = ps.length → its.length = dvs.length →
      ∃ k, bindArgs (PySem.W.fnOf "__init__" qual (defArgs st) (defBody st) (defScope st) (.ref T) kV doc pm an cdv ct) ⟨us, []⟩ = seqItems? (.ref T) >>= k ∧ k (some its.toArray) = pure (ps.zip (us ++ its.drop dvs.length)))
    (len : ∀ vs H Q E, sp0 vs H Q E → vs.length = ps.length) (cv : Conv C sp0 sp)
    (hbody : ∀ (f : Addr) (cdv : Value) (A : Around) (outer : List Env) (s : Shared) (H : Hp) (vs : List V) (Q : VK) (E : XK), Room k (A.deeper (PyProof.Rows.envOfC qual (defScope st) s.heap.objs.size f cdv)) → sp0 vs H Q E →
      ∃ t, PSs (cxOf CX0 P w K mg base N qual (defScope st) f cdv A outer s H E).nox (defBody st) t ∧ t { nx := fun _ H' => Q .non H', rt := Q } (start N vs) H) : CMk P w K mg base CX0 (k + 1) x C sp ps qual st dvs := by
  obtain ⟨f, fd, h1, h2, F⟩ := F.ex
  have B : Binds K fd ps [] := by
    obtain ⟨ds, r, b⟩ := F.binds1 (ps := ps) ps.length dvs.length hd (by omega) fun T kV doc pm an cdv ct us its l1 l2 => hb T kV doc pm an cdv ct us its l1 l2
    rw [List.drop_of_length_le (Nat.le_refl _)] at r
    cases r
    exact b
  refine ⟨f, fd, sp0, cf.at, ⟨cf.mks, h1, h2, cf.kp⟩, B, F.ok S len fun cdv A outer s H vs Q E hr h => ?_, cv, F⟩
  obtain ⟨t, a, b⟩ := hbody f cdv A outer s H vs Q E hr h
  exact ⟨t, a.nox, b⟩
theorem CDef.mono {j : Nat} (D : CDef P w K mg base CX j x C sp) (h : j ≤ k) : CDef P w K mg base CX k x C sp := by
  obtain ⟨f, fd, ps, sp0, a, b, c, d, e⟩ := D.ex
  exact ⟨f, fd, ps, sp0, a, b, c, d.mono h, e⟩
end
end Cw
set_option Elab.async false
set_option linter.all false
set_option maxRecDepth 100000
set_option maxHeartbeats 4000000
/-! enumerate(text) -/
namespace Cw
open PySem PySem.Spec L2
def Itx (l : List Nat) : It := ⟨fun i _ => i < l.length, fun i H v H' => ∃ T c, v = .ref T ∧ H T = none ∧ H' = upd H T (.tup [.int (i : Nat), .str (tx [c])]) ∧ l[i]? = some c, fun i _ => l.length ≤ i⟩
theorem turn_enumS {P : Program} {w : World} {K : PySem.W.Frag} {elts : List Expr} {kk : Nat} {tpos : PySem.Pos} (l : List Nat) (t : Tok) (e it : Addr) (hne : e ≠ it) :
    Turn P w K (.Tuple elts kk tpos) (Itx l) [e, it] e (fun i h => i ≤ l.length ∧ (∃ old, IsEnum h e it (i : Nat) old) ∧ h.IsStrIter it (strIterType (tx l)) (tx l) t i) where
  mem := by simp
  obj := fun i h st b hb => by
    obtain ⟨_, ⟨old, he⟩, ⟨o, ho, hc, hd⟩⟩ := st
    simp only [List.mem_cons, List.not_mem_nil, or_false] at hb
    rcases hb with z | z
    · subst z; exact ⟨_, he, fun v q => nomatch q⟩
    · subst z; exact ⟨o, ho, fun v q => by rw [hd] at q; cases q⟩
  keep := fun i h h' st k => by
    obtain ⟨a, ⟨old, he⟩, ⟨o, ho, r⟩⟩ := st
    exact ⟨a, ⟨old, k e (by simp) _ he⟩, ⟨o, k it (by simp) o ho, r⟩⟩
  item := by
    intro X hP hw hK hc i pins s σ H E I hf st hg
    subst hP hw hK
    obtain ⟨hi, st⟩ := st
    have hg : i < l.length := hg
    have W := WalksT.enumerateD (A := X.A) (Draws.text (prog := X.prog) (w := X.w) (A := X.A.in1) (I.ok.hd hc) it (tx l) t) e hne (by simp [hne]) (by simp)
    have hel : e < s.heap.objs.size := by obtain ⟨⟨_, he⟩, _⟩ := st; exact Heap.lt_size he
    have hil : it < s.heap.objs.size := by obtain ⟨_, ⟨_, q, _⟩⟩ := st; exact Heap.lt_size q
    refine W.item i s _ E (by simpa using hg) st fun T vals h' tk hv hT isT mid kp => ⟨_, rfl, W.go elts kk tpos i T { s with heap := h', toks := tk } _ E mid fun h2 st2 kp2 => ?_⟩
    obtain ⟨t', x, hx, rfl⟩ := hv
    obtain ⟨c, u, hc', rfl⟩ := hx
    have hTw := W.apart i T h' mid
    obtain ⟨o, ho, r⟩ := isT
    have isT2 : h2.IsTuple T #[.int i t', .str ⟨#[c]⟩ u] := ⟨o, kp2 T o hTw ho, r⟩
    have new : ObjOk X.prog X.w (upd H T (.tup [.int (i : Nat), .str (tx [c])])) h2 T (.tup [.int (i : Nat), .str (tx [c])]) := ⟨by show 2 ≤ sizeLine; decide, [.int i t', .str ⟨#[c]⟩ u], .cons ⟨_, rfl⟩ (.cons ⟨_, rfl⟩ .nil), isT2⟩
    refine ⟨.ref T, _, I.turnedNew (ch := [e, it]) (t' := tk) (fun b ob hb q => kp2 b ob hb (kp b ob hb q)) hf hT new, rfl, ⟨T, c, rfl, I.hok.fresh hT, rfl, by simpa using hc'⟩, ⟨hg, st2⟩, fun b hb => ?_⟩
    have hb2 : b < T := by
      simp only [List.mem_cons, List.not_mem_nil, or_false] at hb
      rcases hb with z | z
      · rw [z]; exact Nat.lt_of_lt_of_le hel hT
      · rw [z]; exact Nat.lt_of_lt_of_le hil hT
    rw [upd_ne (Nat.ne_of_lt hb2)]
    exact (hf b hb).1
  done := by
    intro X hP hw hK hc i pins s σ H E I hf st hg
    subst hP hw hK
    obtain ⟨hi, st⟩ := st
    have hg : l.length ≤ i := hg
    have e1 : i = (tx l).cps.size := by
      have : (tx l).cps.size = l.length := by simp
      omega
    subst e1
    have W := WalksT.enumerateD (A := X.A) (Draws.text (prog := X.prog) (w := X.w) (A := X.A.in1) (I.ok.hd hc) it (tx l) t) e hne (by simp [hne]) (by simp)
    exact W.done s _ E st fun h' tk kp => ⟨rfl, I.turnedL kp hf⟩
  self := fun A i s Q E st h => by
    obtain ⟨_, ⟨_, he⟩, _⟩ := st
    exact wpAny_pyIter_enum he h
def iEnumS (ta : TA) : TI := fun σ H R => ta σ H fun vs H1 => ∃ l : List Nat, vs = [.str (tx l)] ∧ R (Itx l) H1
theorem pi_enumS {X : Cx} {e : Expr} {ta : TA} {p pos tpos : PySem.Pos} {elts : List Expr} {kk : Nat} (hg : Gl X "enumerate") (hm : X.mg "enumerate" = none) (ha : PA X [e] ta) (hs : starEach [e] X.env = [(false, eval e X.env)] := by rfl) :
    PI X (.Tuple elts kk tpos) (.Call (.Name "enumerate" p) [e] [] pos) (iEnumS ta) := by
  refine ⟨fun pins s σ H R I h => ?_⟩
  refine PyProof.Rows.Call_ (ld_blt I hg hm PyProof.Rows.boot_enumerate (PyProof.Rows.callWith_type1 (thn (ha.run pos pins s σ H _ I h) fun us s1 ⟨vs, H1, I1, r1, l, ex, q⟩ => ?_) hs rfl))
  subst ex
  obtain ⟨u, rfl, t, rfl⟩ := vals1 r1
  refine call_enumerate_str fun h' he hit hsz hk => wpAny_pyIter_enum he ?_
  have I2 : L2.Inv X pins σ H1 { s1 with heap := h' } := I1.kept (t' := s1.toks) hk
  refine ⟨s1.heap.objs.size + 1, [s1.heap.objs.size + 1, s1.heap.objs.size], _, _, H1, rfl, I2, turn_enumS l t (s1.heap.objs.size + 1) s1.heap.objs.size (Nat.succ_ne_self _), ⟨Nat.zero_le _, ⟨.none, he⟩, hit⟩, fun b hb => ?_, q⟩
  have hle : s1.heap.objs.size ≤ b := by
    simp only [List.mem_cons, List.not_mem_nil, or_false] at hb
    rcases hb with z | z
    · rw [z]; exact Nat.le_succ _
    · rw [z]; exact Nat.le_refl _
  exact I1.fpOk hle (I1.hok.fresh hle)
theorem walk_enumS (l : List Nat) : Walk (Itx l) l.length (fun _ => True) (fun i H v H' => ∃ T c, v = .ref T ∧ H T = none ∧ H' = upd H T (.tup [.int (i : Nat), .str (tx [c])]) ∧ l[i]? = some c) :=
  ⟨fun _ _ hi _ => hi, fun _ _ => Nat.le_refl _, fun _ _ _ _ _ _ y => y⟩
section
variable {σ : St} {H : Hp}
theorem e_iEnumS {ta : TA} {R : It → Hp → Prop} (q : ta σ H fun vs H1 => ∃ l : List Nat, vs = [.str (tx l)] ∧ R (Itx l) H1) : iEnumS ta σ H R := q
theorem v_iEnumS {P : List Nat → Prop} {l : List Nat} (q : P l) : ∃ l' : List Nat, [V.str (tx l)] = [.str (tx l')] ∧ P l' := ⟨l, rfl, q⟩
end
end Cw
set_option Elab.async false
set_option linter.all false
set_option maxRecDepth 100000
set_option maxHeartbeats 4000000
/-! pairs of a number and a text, compared -/
namespace Cw
open PySem PySem.Spec L2
section
variable {X : Cx} {op : CmpOp} {ri : Int → Int → Bool} {rs : List Nat → List Nat → Bool} {z : Bool}
end
end Cw
set_option Elab.async false
set_option linter.all false
set_option maxRecDepth 100000
set_option maxHeartbeats 4000000
/-! names: one step, as a plain function -/
namespace Cw
open PySem PySem.Spec L2
/-- the name (turned about) without its last letters out of part, and these -/
def splitB (part : List Nat) : List Nat → List Nat → List Nat × List Nat
  | [], b => ([], b)
  | x :: r, b => if x ∈ part then splitB part r (x :: b) else (x :: r, b)
def putIn (k : Nat) (b : List Nat) : List Nat := b.takeWhile (fun c => decide (c < k)) ++ k :: b.dropWhile (fun c => decide (c < k))
def stepAt (k : Nat) (ra b : List Nat) : List Nat := if ra.head? = some k then ra.tail.reverse ++ b else ra.reverse ++ putIn k b
def stepOf (part name : List Nat) (k : Nat) : List Nat := stepAt k (splitB part name.reverse []).1 (splitB part name.reverse []).2
def joinOf (ks : List Nat) (ps : List (List Nat)) (name way : List Nat) : List Nat := way.foldl (fun n k => stepOf (crossOf ks ps k) n k) name
theorem splitB_eq (part : List Nat) : ∀ ra b : List Nat, (splitB part ra b).1.reverse ++ (splitB part ra b).2 = ra.reverse ++ b
  | [], b => rfl
  | x :: r, b => by
    unfold splitB
    by_cases h : x ∈ part
    · rw [if_pos h, splitB_eq part r (x :: b), List.reverse_cons, List.append_assoc]
      rfl
    · rw [if_neg h]
theorem putIn_len (k : Nat) (b : List Nat) : (putIn k b).length = b.length + 1 := by
  unfold putIn
  have h : (b.takeWhile (fun c => decide (c < k)) ++ b.dropWhile (fun c => decide (c < k))).length = b.length := by rw [List.takeWhile_append_dropWhile]
  rw [List.length_append] at h
  rw [List.length_append, List.length_cons]
  omega
theorem putIn_mem {k c : Nat} {b : List Nat} (h : c ∈ putIn k b) : c = k ∨ c ∈ b := by
  unfold putIn at h
  rw [List.mem_append, List.mem_cons] at h
  rcases h with h | h | h
  · exact .inr (List.takeWhile_sublist _ |>.subset h)
  · exact .inl h
  · exact .inr (List.dropWhile_sublist _ |>.subset h)
theorem stepAt_len (k : Nat) (ra b : List Nat) : (stepAt k ra b).length ≤ ra.length + b.length + 1 := by
  unfold stepAt
  split
  · rw [List.length_append, List.length_reverse, List.length_tail]
    omega
  · rw [List.length_append, List.length_reverse, putIn_len]
    omega
theorem stepAt_mem {k c : Nat} {ra b : List Nat} (h : c ∈ stepAt k ra b) : c = k ∨ c ∈ ra.reverse ++ b := by
  unfold stepAt at h
  split at h
  · rw [List.mem_append, List.mem_reverse] at h
    rcases h with h | h
    · exact .inr (List.mem_append_left _ (List.mem_reverse.mpr (List.mem_of_mem_tail h)))
    · exact .inr (List.mem_append_right _ h)
  · rw [List.mem_append] at h
    rcases h with h | h
    · exact .inr (List.mem_append_left _ h)
    · rcases putIn_mem h with e | e
      · exact .inl e
      · exact .inr (List.mem_append_right _ e)
theorem stepOf_len (part name : List Nat) (k : Nat) : (stepOf part name k).length ≤ name.length + 1 := by
  have h := congrArg List.length (splitB_eq part name.reverse [])
  simp only [List.length_append, List.length_reverse, List.length_nil] at h
  have := stepAt_len k (splitB part name.reverse []).1 (splitB part name.reverse []).2
  unfold stepOf
  omega
theorem stepOf_mem {part name : List Nat} {k c : Nat} (h : c ∈ stepOf part name k) : c = k ∨ c ∈ name := by
  have := stepAt_mem h
  rw [splitB_eq, List.reverse_reverse, List.append_nil] at this
  exact this
theorem joinOf_len (ks : List Nat) (ps : List (List Nat)) : ∀ (way name : List Nat), (joinOf ks ps name way).length ≤ name.length + way.length
  | [], name => Nat.le_refl _
  | k :: r, name => by
    show (joinOf ks ps (stepOf (crossOf ks ps k) name k) r).length ≤ _
    have := joinOf_len ks ps r (stepOf (crossOf ks ps k) name k)
    have := stepOf_len (crossOf ks ps k) name k
    rw [List.length_cons]
    omega
theorem joinOf_mem {ks : List Nat} {ps : List (List Nat)} {c : Nat} : ∀ {way name : List Nat}, c ∈ joinOf ks ps name way → c ∈ name ∨ c ∈ way
  | [], name, h => .inl h
  | k :: r, name, h => by
    rcases joinOf_mem (way := r) (name := stepOf (crossOf ks ps k) name k) h with z | z
    · rcases stepOf_mem z with e | e
      · exact .inr (e ▸ List.mem_cons_self ..)
      · exact .inl e
    · exact .inr (List.mem_cons_of_mem _ z)
theorem joinOf_snoc {ks : List Nat} {ps : List (List Nat)} {name way : List Nat} {k : Nat} : joinOf ks ps name (way ++ [k]) = stepOf (crossOf ks ps k) (joinOf ks ps name way) k := by
  unfold joinOf
  rw [List.foldl_append]
  rfl
/-! ### letters at their places -/
theorem at_last {x : Nat} {r b : List Nat} : atI ((x :: r).reverse ++ b) (((x :: r).length : Int) - 1) = some x := by
  have e : (((x :: r).length : Int) - 1) = ((r.length : Nat) : Int) := by
    rw [List.length_cons]
    omega
  rw [e]
  refine atI_nat ?_
  rw [List.reverse_cons, List.append_assoc, List.getElem?_append_right (by rw [List.length_reverse]; exact Nat.le_refl _), List.length_reverse, Nat.sub_self]
  rfl
theorem at_mid {x : Nat} {a b : List Nat} : atI (a ++ x :: b) ((a.length : Nat) : Int) = some x := by
  refine atI_nat ?_
  rw [List.getElem?_append_right (Nat.le_refl _), Nat.sub_self]
  rfl
theorem lt_one {a k : Nat} : decide ([a] < [k]) = decide (a < k) := by
  refine decide_eq_decide.mpr ⟨fun h => ?_, fun h => List.Lex.rel h⟩
  cases h with
  | rel h => exact h
  | cons h => cases h
section
variable {σ : St} {H : Hp} {tb : TS} {D : Ends} {tt : TT}
theorem g_nm {i : Nat} {v : V} {Q : St → Hp → Prop} (q : Q (σ.set i (some v)) H) : gName i v σ H Q := q
theorem s_while (W : Nat → St → Hp → Prop) (m : Nat) (h0 : W m σ H) (hs : ∀ m σ H, W m σ H → tt σ H fun b H1 => if b = true then ∃ N : St → Hp → Prop, (∀ σ' H', N σ' H' → ∃ m', m' < m ∧ W m' σ' H') ∧ tb { D with nx := N, ct := N, bk := D.nx } σ H1 else D.nx σ H1) : tWhile tt tb D σ H := ⟨W, ⟨m, h0⟩, hs⟩
theorem v_turn {W : Nat → St → Hp → Prop} {m : Nat} (q : tb { D with nx := fun σ' H' => ∃ m', m' < m ∧ W m' σ' H', ct := fun σ' H' => ∃ m', m' < m ∧ W m' σ' H', bk := D.nx } σ H) : ∃ N : St → Hp → Prop, (∀ σ' H', N σ' H' → ∃ m', m' < m ∧ W m' σ' H') ∧ tb { D with nx := N, ct := N, bk := D.nx } σ H := ⟨_, fun _ _ h => h, q⟩
end
section
variable {H : Hp} {Q : VK} {K : PySem.W.Frag} {p q : Addr}
end
end Cw
set_option Elab.async false
set_option linter.all false
set_option maxRecDepth 100000
set_option maxHeartbeats 4000000
/-! errors of one's own without values -/
namespace Cw
open PySem PySem.Spec L2
/-- an error class of the text, down from ValueError, without an __init__ -/
structure ExcF (K : PySem.W.Frag) (mg : Str → Option Value) (x : Str) (C : Addr) : Prop where
  «at» : mg x = some (.ref C)
  exc : PySem.W.excIn K C [.type "ValueError", .type "Exception", .type "BaseException", .type "object"] "ValueError.__new__" = true
  kp : PySem.W.keepIn K (.ref C) = true
  ty : PySem.W.typeIn K (.ref C) = some (.type "type")
  ec : ExcC K C
section
variable {X : Cx} {C : Addr} {x : Str} {p pos : PySem.Pos}
end
theorem v_gTup2 {K : PySem.W.Frag} {n i j : Nat} {σ : St} {H : Hp} {Q : St → Hp → Prop} {p : Addr} {a b : V} (hn : n = 2) (h : H p = some (.tup [a, b])) (q : Q ((σ.set i (some a)).set j (some b)) H) : gTup K n (gCons (gName i) (gCons (gName j) gNil)) (.ref p) σ H Q :=
  ⟨p, _, rfl, SqT.of h, hn.symm, a, [b], rfl, b, [], rfl, rfl, q⟩
theorem e_md {C : Addr} {m : Str} {sp : Sp} {E : XK} {ta : TE} {t : TA} {σ : St} {H : Hp} {Q : VK} (q : ta σ H fun x H1 => ∃ a dx fs, x = .ref a ∧ H1 a = some (.ins C dx fs) ∧ fs.lookup m = none ∧ t σ H1 fun vs H2 => sp (x :: vs) H2 Q E) : tMeth C m sp [] E ta t σ H Q := by
  have e : tMeth C m sp [] E ta t = fun σ H Q => ta σ H fun x H1 => ∃ a dx fs, x = .ref a ∧ H1 a = some (.ins C dx fs) ∧ fs.lookup m = none ∧ t σ H1 fun vs H2 => sp (x :: vs) H2 Q E := by
    unfold tMeth
    simp only [List.append_nil]
  rw [e]
  exact q
/-- a suite that is walked only where q holds -/
theorem pss_given {X : Cx} {b : List Stmt} {t : TS} {q : Prop} (h : q → PSs X b t) : PSs X b (fun D σ H => q ∧ t D σ H) := by
  by_cases e : q
  · exact ⟨fun pins s σ H D I z => (h e).run pins s σ H D I z.2⟩
  · exact ⟨fun pins s σ H D I z => absurd z.1 e⟩
end Cw
set_option Elab.async false
set_option linter.all false
set_option maxRecDepth 100000
set_option maxHeartbeats 4000000
/-! what the laws' own helpers need: copies of dicts, pop, several names at once, walks over dicts -/
namespace Cw
open PySem PySem.Spec L2
section
variable {σ : St} {H : Hp} {Q : VK} {D : Ends} {K : PySem.W.Frag} {X : Cx}
theorem v_listD {a : Addr} {kvs : List (Key × V)} (h : H a = some (.dK kvs)) (q : ∀ p H', H p = none → Same H H' → H' p = some (.lst (kvs.map fun kv => kV kv.1)) → Q (.ref p) H') : rListD [.ref a] H Q := ⟨a, kvs, rfl, h, fun p hp => q p _ hp (Same.new hp) upd_same⟩
theorem pe_popK {o e : Expr} {to te : TE} {apos cpos : PySem.Pos} (h : X.K = K) (ho : PE X o to) (he : PE X e te) (hbase : attributeBase o "pop" X.env (eval o X.env) = eval o X.env := by rfl)
    (hfew : ((backTo cpos (starEach [e] X.env)).all (fun x => !x.1) && (backToKw cpos (keywordEach [] X.env)).all (fun x => x.1.isSome) && decide ([e].length + ([] : List Keyword).length + (if ([] : List Keyword).isEmpty then 0 else 1) < 30)) = true := by rfl)
    (hline : (apos.endLine == cpos.line) = true := by rfl) (hs : starEach [e] X.env = (false, eval e X.env) :: starEach [] X.env := by rfl) (hplain : (backTo cpos (starEach [] X.env)).any (·.1) = false := by rfl) :
    PE X (.Call (.Attribute o "pop" apos) [e] [] cpos) (tBM K "list" rPopAt to (tCons te tNil)) := h ▸ pe_bm PySem.F.plainAttrs_list PySem.F.slot_list_pop PySem.F.type_list_pop mt_popAt ho (pa_cons he pa_nil hs) hbase hfew hline hs hplain
theorem v_pop {p : Addr} {xs : List V} {i : Int} {y : V} (h : H p = some (.lst xs)) (h0 : 0 ≤ i) (h1 : i < xs.length) (h2 : xs.length ≤ 1000000) (hy : xs[i.toNat]? = some y) (q : ∀ H', Keep p H H' → H' p = some (.lst (xs.eraseIdx i.toNat)) → Q y H') : rPopAt (.ref p) [.int i] H Q := by
  refine ⟨p, xs, i, i.toNat, y, rfl, rfl, h, by omega, by omega, ?_, hy, q _ Keep.put upd_same⟩
  unfold seqIndex?
  simp only [if_neg (show ¬ i < 0 by omega)]
  first
    | rw [if_pos (by omega)]
    | simp [h0, h1]
theorem e_par {i j : Nat} {ta : TA} (q : ta σ H fun vs H1 => ∃ v w, vs = [v, w] ∧ D.nx ((σ.set i (some v)).set j (some w)) H1) : tPar i j ta D σ H := q
theorem v_par {v w : V} {P : V → V → Prop} (q : P v w) : ∃ v' w', [v, w] = [v', w'] ∧ P v' w' := ⟨v, w, rfl, q⟩
theorem e_par3 {i j l : Nat} {ta : TA} (q : ta σ H fun vs H1 => ∃ u v w, vs = [u, v, w] ∧ D.nx (((σ.set i (some u)).set j (some v)).set l (some w)) H1) : tPar3 i j l ta D σ H := q
theorem v_par3 {u v w : V} {P : V → V → V → Prop} (q : P u v w) : ∃ u' v' w', [u, v, w] = [u', v', w'] ∧ P u' v' w' := ⟨u, v, w, rfl, q⟩
theorem e_lock {t : TS} {d : Addr} {u : HO} (h : H d = some u) (m : Mut (some u)) (q : ∀ od, t ⟨fun σ' H' => H' d = some (.frz od u) ∧ D.nx σ' (upd H' d u), fun v H' => H' d = some (.frz od u) ∧ D.rt v (upd H' d u), fun σ' H' => H' d = some (.frz od u) ∧ D.bk σ' (upd H' d u), fun σ' H' => H' d = some (.frz od u) ∧ D.ct σ' (upd H' d u)⟩ σ (upd H d (.frz od u))) : tLock t D σ H := ⟨d, u, h, m, q⟩
theorem e_iK {td : TE} {R : It → Hp → Prop} (q : td σ H fun x H1 => ∃ d o, x = .ref d ∧ ((∃ kvs, H1 d = some (.frz o (.dK kvs)) ∧ R (Itk d o kvs) H1) ∨ ∃ kvs, H1 d = some (.frz o (.dT kvs)) ∧ R (Itkt d o kvs) H1)) : iKeys td σ H R := q
theorem e_dnotin {ty td : TE} (q : ty σ H fun y H1 => td σ H1 fun x H2 => ∃ a o, x = .ref a ∧ DGet H2 a y o ∧ Q (.bl (!o.isSome)) H2) : tDNotIn ty td σ H Q := q
end
theorem erase_perm {α : Type} : ∀ (l : List α) (i : Nat) (h : i < l.length), (l[i] :: l.eraseIdx i).Perm l
  | x :: r, 0, _ => .refl _
  | x :: r, i + 1, h => by
    have h' : i < r.length := by simpa using h
    have ih := erase_perm r i h'
    show (r[i] :: x :: r.eraseIdx i).Perm (x :: r)
    exact (List.Perm.swap x _ _).trans (ih.cons x)
theorem erase_map {α β : Type} (f : α → β) : ∀ (l : List α) (i : Nat), (l.map f).eraseIdx i = (l.eraseIdx i).map f
  | [], _ => rfl
  | x :: r, 0 => rfl
  | x :: r, i + 1 => by
    show f x :: (r.map f).eraseIdx i = f x :: (r.eraseIdx i).map f
    rw [erase_map f r i]
/-! ### tables by letters -/
def tabKV (ls : List Nat) (f : Nat → List Nat) : List (Key × V) := ls.map fun c => ((Sum.inr (tx [c]) : Key), V.str (tx (f c)))
structure Tab (ls : List Nat) (f : Nat → List Nat) : Prop where
  nd : ls.Nodup
  lt : ∀ c ∈ ls, c ∈ LET
  len : ls.length ≤ 8
  sub : ∀ a ∈ ls, ∀ b ∈ f a, b ∈ ls ∧ b ≠ a ∧ a ∈ f b
  gl : ∀ a ∈ ls, (f a).length ≤ 8
def tabPairs (ls : List Nat) (f : Nat → List Nat) : List (List Nat) := pairsOf (ls.flatMap fun a => (f a).map fun b => ascOf [a, b])
theorem tab_get {H : Hp} {d : Addr} {ls : List Nat} {f : Nat → List Nat} {k : Nat} (h : H d = some (.dK (tabKV ls f))) (hk : k ∈ ls) : DGet H d (.str (tx [k])) (some (.str (tx (f k)))) := dget_let (g := fun c => V.str (tx (f c))) h hk
theorem tab_getF {H : Hp} {d : Addr} {o : Obj} {ls : List Nat} {f : Nat → List Nat} {k : Nat} (h : H d = some (.frz o (.dK (tabKV ls f)))) (hk : k ∈ ls) : DGet H d (.str (tx [k])) (some (.str (tx (f k)))) :=
  .inl ⟨_, Sum.inr (tx [k]), .inr ⟨o, h⟩, rfl, (letV_some (g := fun c => V.str (tx (f c))) hk).symm⟩
theorem tab_keys (ls : List Nat) (f : Nat → List Nat) : ((tabKV ls f).map fun kv => kV kv.1) = ls.map fun c => V.str (tx [c]) := by
  unfold tabKV
  rw [List.map_map]
  rfl
theorem putTab {f : Nat → List Nat} {k : Nat} {z : List Nat} : ∀ {ls : List Nat}, k ∈ ls → putK (tabKV ls f) (Sum.inr (tx [k])) (V.str (tx z)) = tabKV ls (fun c => if c = k then z else f c) := by
  intro ls hk
  unfold putK
  have h1 : valV (tabKV ls f) (Sum.inr (tx [k])) = some (V.str (tx (f k))) := letV_some (g := fun c => V.str (tx (f c))) hk
  rw [if_pos (by rw [valV_any, h1]; rfl)]
  unfold tabKV
  rw [List.map_map]
  refine List.map_congr_left fun c _ => ?_
  show (if (Sum.inr (tx [c]) : Key) = Sum.inr (tx [k]) then _ else _) = _
  by_cases e : c = k
  · subst e
    rw [if_pos rfl]
    show (_, _) = (_, V.str (tx (if c = c then z else f c)))
    rw [if_pos rfl]
  · rw [if_neg (fun z => e (by have := key_tx.mp z; injection this))]
    show (_, _) = (_, V.str (tx (if c = k then z else f c)))
    rw [if_neg e]
theorem tab_put {H : Hp} {d : Addr} {ls : List Nat} {f : Nat → List Nat} {k : Nat} {z : List Nat} (h : H d = some (.dK (tabKV ls f))) (hk : k ∈ ls) (hl : ls.length < 1000000) : DPut H d (.str (tx [k])) (.str (tx z)) (upd H d (.dK (tabKV ls (fun c => if c = k then z else f c)))) := by
  have e := DPut.k (k := Sum.inr (tx [k])) (v := V.str (tx z)) h (szlt (by unfold tabKV; rw [List.length_map]; exact hl))
  rw [putTab hk] at e
  exact e
theorem tab_new {H : Hp} {d : Addr} {ls : List Nat} {f : Nat → List Nat} {k : Nat} (h : H d = some (.dK (tabKV ls f))) (hk : ¬ k ∈ ls) (hf : f k = []) (hl : ls.length < 1000000) : DPut H d (.str (tx [k])) (.str (tx [])) (upd H d (.dK (tabKV (ls ++ [k]) f))) := by
  have e := DPut.cross (l := [k]) (v := V.str (tx [])) h (letV_none (g := fun c => V.str (tx (f c))) hk) (by unfold tabKV; rw [List.length_map]; exact hl)
  have e2 : tabKV (ls ++ [k]) f = tabKV ls f ++ [((Sum.inr (tx [k]) : Key), V.str (tx []))] := by
    unfold tabKV
    rw [List.map_append]
    show _ ++ [((Sum.inr (tx [k]) : Key), V.str (tx (f k)))] = _
    rw [hf]
  rw [e2]
  exact e
theorem asc2_all : ∀ a ∈ LET, ∀ b ∈ LET, a < b → ascOf [a, b] = [a, b] ∧ ascOf [b, a] = [a, b] := by decide +kernel
theorem asc2 {a b : Nat} (ha : a ∈ LET) (hb : b ∈ LET) (h : a < b) : ascOf [a, b] = [a, b] ∧ ascOf [b, a] = [a, b] := asc2_all a ha b hb h
end Cw
set_option Elab.async false
set_option linter.all false
set_option maxRecDepth 100000
set_option maxHeartbeats 4000000
/-! the drawn tables, in plain words -/
namespace Cw
open PySem PySem.Spec L2
def ABC : List (List Nat) := [[97, 98, 99, 100, 101, 102, 103, 104], [98, 100, 102, 104, 106, 108, 110, 112], [115, 116, 117, 118, 119, 120, 121, 122]]
def addRel (rel : Nat → Nat → Bool) (x y : Nat) : Nat → Nat → Bool := fun a b => rel a b || (a == x && b == y) || (a == y && b == x)
/-- which kinds cross: both ways, never with itself, kinds alone -/
structure RelOk (ls : List Nat) (rel : Nat → Nat → Bool) : Prop where
  sym : ∀ a b, rel a b = rel b a
  «in» : ∀ a b, rel a b = true → a ∈ ls ∧ b ∈ ls ∧ a ≠ b
/-- only pairs up to here -/
def Upto (ls : List Nat) (rel : Nat → Nat → Bool) (i j : Nat) : Prop := ∀ i1 j1, i1 < j1 → j1 < ls.length → rel (ls.getD i1 0) (ls.getD j1 0) = true → i1 < i ∨ (i1 = i ∧ j1 < j)
def crossBy (ls : List Nat) (rel : Nat → Nat → Bool) (c : Nat) : List Nat := ls.filter (rel c)
theorem getD_inj {ls : List Nat} (h : ls.Nodup) {i j : Nat} (hi : i < ls.length) (hj : j < ls.length) (e : ls.getD i 0 = ls.getD j 0) : i = j := by
  rw [List.getD_eq_getElem?_getD, List.getD_eq_getElem?_getD, List.getElem?_eq_getElem hi, List.getElem?_eq_getElem hj] at e
  exact (List.getElem_inj h).mp e
theorem filter_snoc {ls : List Nat} {p : Nat → Bool} {j : Nat} (hn : ls.Nodup) (hj : j < ls.length) (hz : ∀ j', j ≤ j' → j' < ls.length → p (ls.getD j' 0) = false) : ls.filter (fun c => p c || c == ls.getD j 0) = ls.filter p ++ [ls.getD j 0] := by
  have e : ls = ls.take j ++ ls.getD j 0 :: ls.drop (j + 1) := by
    rw [List.getD_eq_getElem?_getD, List.getElem?_eq_getElem hj]
    show ls = ls.take j ++ ls[j] :: ls.drop (j + 1)
    rw [← List.drop_eq_getElem_cons hj, List.take_append_drop]
  have hd : ∀ c ∈ ls.drop (j + 1), p c = false ∧ c ≠ ls.getD j 0 := by
    intro c hc
    obtain ⟨k, hk, e⟩ := List.mem_iff_getElem.mp hc
    rw [List.length_drop] at hk
    rw [List.getElem_drop] at e
    have hk2 : j + 1 + k < ls.length := by omega
    have e2 : ls.getD (j + 1 + k) 0 = c := by
      rw [List.getD_eq_getElem?_getD, List.getElem?_eq_getElem hk2]
      exact e
    refine ⟨e2 ▸ hz _ (by omega) hk2, fun z => ?_⟩
    have := getD_inj hn hk2 hj (e2.trans z)
    omega
  have ht : ∀ c ∈ ls.take j, c ≠ ls.getD j 0 := fun c hc z => take_notin hn hj (z ▸ hc)
  have hpy : p (ls.getD j 0) = false := hz j (Nat.le_refl _) hj
  generalize ls.getD j 0 = y at *
  have h1 : ls.filter (fun c => p c || c == y) = (ls.take j).filter p ++ [y] := by
    conv => lhs; rw [e]
    rw [List.filter_append, List.filter_cons_of_pos (by simp)]
    congr 1
    · refine List.filter_congr fun c hc => ?_
      have := ht c hc
      simp [this]
    · congr 1
      rw [List.filter_eq_nil_iff]
      intro c hc
      obtain ⟨a, b⟩ := hd c hc
      simp [a, b]
  have h2 : ls.filter p = (ls.take j).filter p := by
    conv => lhs; rw [e]
    rw [List.filter_append, List.filter_cons_of_neg (by rw [hpy]; decide)]
    have : (ls.drop (j + 1)).filter p = [] := by
      rw [List.filter_eq_nil_iff]
      intro c hc
      rw [(hd c hc).1]
      decide
    rw [this, List.append_nil]
  rw [h1, h2]
section
variable {ls : List Nat} {rel : Nat → Nat → Bool} {i j : Nat}
theorem tabStep (hn : ls.Nodup) (ok : RelOk ls rel) (hij : i < j) (hj : j < ls.length) (up : Upto ls rel i j) :
    ∀ c ∈ ls, (if c = ls.getD j 0 then (if ls.getD j 0 = ls.getD i 0 then crossBy ls rel (ls.getD i 0) ++ [ls.getD j 0] else crossBy ls rel (ls.getD j 0)) ++ [ls.getD i 0] else if c = ls.getD i 0 then crossBy ls rel (ls.getD i 0) ++ [ls.getD j 0] else crossBy ls rel c) = crossBy ls (addRel rel (ls.getD i 0) (ls.getD j 0)) c := by
  intro c hc
  have hi : i < ls.length := by omega
  have ne : ls.getD j 0 ≠ ls.getD i 0 := fun z => by have := getD_inj hn hj hi z; omega
  by_cases e1 : c = ls.getD j 0
  · subst e1
    rw [if_pos rfl, if_neg ne]
    unfold crossBy
    rw [← filter_snoc hn hi]
    · refine List.filter_congr fun b _ => ?_
      unfold addRel
      have e : (ls.getD j 0 == ls.getD i 0) = false := beq_eq_false_iff_ne.mpr ne
      rw [e]
      simp
    · intro j' h1 h2
      by_cases h3 : j' = j
      · subst h3
        cases z : rel (ls.getD j' 0) (ls.getD j' 0) with
        | false => rfl
        | true => exact absurd rfl (ok.in _ _ z).2.2
      · cases z : rel (ls.getD j 0) (ls.getD j' 0) with
        | false => rfl
        | true =>
          rcases Nat.lt_or_gt_of_ne h3 with h4 | h4
          · rw [ok.sym] at z
            have := up j' j h4 hj z
            omega
          · have := up j j' h4 h2 z
            omega
  · rw [if_neg e1]
    by_cases e2 : c = ls.getD i 0
    · subst e2
      rw [if_pos rfl]
      unfold crossBy
      rw [← filter_snoc hn hj]
      · refine List.filter_congr fun b _ => ?_
        unfold addRel
        have e : (ls.getD i 0 == ls.getD j 0) = false := beq_eq_false_iff_ne.mpr e1
        rw [e]
        simp
      · intro j' h1 h2
        cases z : rel (ls.getD i 0) (ls.getD j' 0) with
        | false => rfl
        | true =>
          have := up i j' (by omega) h2 z
          omega
    · rw [if_neg e2]
      unfold crossBy
      refine List.filter_congr fun b _ => ?_
      unfold addRel
      have a1 : (c == ls.getD i 0) = false := beq_eq_false_iff_ne.mpr e2
      have a2 : (c == ls.getD j 0) = false := beq_eq_false_iff_ne.mpr e1
      rw [a1, a2]
      simp
theorem RelOk.add (ok : RelOk ls rel) {x y : Nat} (hx : x ∈ ls) (hy : y ∈ ls) (ne : x ≠ y) : RelOk ls (addRel rel x y) where
  sym a b := by
    unfold addRel
    rw [ok.sym a b, Bool.or_assoc, Bool.or_assoc]
    congr 1
    rw [Bool.or_comm, Bool.and_comm, Bool.and_comm (a == x)]
  «in» a b h := by
    unfold addRel at h
    simp only [Bool.or_eq_true, Bool.and_eq_true, beq_iff_eq] at h
    rcases h with (h | ⟨rfl, rfl⟩) | ⟨rfl, rfl⟩
    · exact ok.in a b h
    · exact ⟨hx, hy, ne⟩
    · exact ⟨hy, hx, ne.symm⟩
theorem Upto.add (hn : ls.Nodup) (hij : i < j) (hj : j < ls.length) (up : Upto ls rel i j) : Upto ls (addRel rel (ls.getD i 0) (ls.getD j 0)) i (j + 1) := by
  intro i1 j1 h1 h2 h3
  unfold addRel at h3
  simp only [Bool.or_eq_true, Bool.and_eq_true, beq_iff_eq] at h3
  rcases h3 with (h | ⟨h4, h5⟩) | ⟨h4, h5⟩
  · have := up i1 j1 h1 h2 h
    omega
  · have a := getD_inj hn (by omega) (by omega) h4
    have b := getD_inj hn h2 hj h5
    omega
  · have a := getD_inj hn (by omega) hj h4
    have b := getD_inj hn h2 (by omega) h5
    omega
theorem Upto.more (up : Upto ls rel i j) : Upto ls rel i (j + 1) := fun i1 j1 h1 h2 h3 => by
  have := up i1 j1 h1 h2 h3
  omega
theorem Upto.turn {k : Nat} (up : Upto ls rel i j) (h : ls.length ≤ j) : Upto ls rel (i + 1) k := fun i1 j1 h1 h2 h3 => by
  have := up i1 j1 h1 h2 h3
  omega
end
theorem walk_rI {lo : Int} {n : Nat} (f : Nat → Int) (h : ∀ k : Nat, lo + (k : Int) = f k) : Walk (Itr lo n) n (fun _ => True) (YFn fun k => .int (f k)) :=
  walk_range.mono (fun _ h => h) fun i H x H' _ _ y => ⟨y.1, by show x = V.int (f i); rw [← h i]; exact y.2⟩
theorem at_getD {ls : List Nat} {i : Nat} (h : i < ls.length) : atI ls ((i : Nat) : Int) = some (ls.getD i 0) := by
  refine atI_nat ?_
  rw [List.getD_eq_getElem?_getD, List.getElem?_eq_getElem h]
  rfl
theorem tabKV_congr {ls : List Nat} {f g : Nat → List Nat} (h : ∀ c ∈ ls, f c = g c) : tabKV ls f = tabKV ls g := by
  unfold tabKV
  refine List.map_congr_left fun c hc => ?_
  rw [h c hc]
theorem ascOf_congr {a b : List Nat} (h : ∀ c, c ∈ a ↔ c ∈ b) : ascOf a = ascOf b := by
  unfold ascOf
  exact List.filter_congr fun c _ => decide_eq_decide.mpr (h c)
/-- the pairs that the laws tell a plan by -/
theorem tabPairs_eq {ls : List Nat} {f : Nat → List Nat} {ps : List (List Nat)} (T : Tab ls f) (h1 : ∀ p ∈ ps, ∃ a b, p = [a, b] ∧ a ∈ ls ∧ b ∈ f a) (h2 : ∀ a ∈ ls, ∀ b ∈ f a, a < b → [a, b] ∈ ps) : pairsOf (ps.map ascOf) = tabPairs ls f := by
  unfold tabPairs
  refine pairsOf_congr fun a b _ _ => ?_
  rw [List.mem_map, List.mem_flatMap]
  constructor
  · rintro ⟨p, hp, e⟩
    obtain ⟨x, y, rfl, hx, hy⟩ := h1 p hp
    exact ⟨x, hx, List.mem_map.mpr ⟨y, hy, e⟩⟩
  · rintro ⟨x, hx, hm⟩
    obtain ⟨y, hy, e⟩ := List.mem_map.mp hm
    obtain ⟨y1, y2, y3⟩ := T.sub x hx y hy
    by_cases h : x < y
    · exact ⟨_, h2 x hx y hy h, e⟩
    · have hlt : y < x := by omega
      refine ⟨_, h2 y y1 x y3 hlt, ?_⟩
      have := asc2 (T.lt y y1) (T.lt x hx) hlt
      rw [this.1, ← this.2]
      exact e
/-- a drawn table: a beginning of one of the three texts -/
structure Flr (num : Nat) (ls : List Nat) (rel : Nat → Nat → Bool) : Prop where
  cut : ∃ t ∈ ABC, ∃ m, 1 ≤ m ∧ m ≤ num ∧ ls = t.take m
  ok : RelOk ls rel
theorem abc_ok : ∀ t ∈ ABC, t.Nodup ∧ (∀ c ∈ t, c ∈ LET) ∧ t.length = 8 ∧ t.Pairwise (· < ·) := by decide +kernel
section
variable {num : Nat} {ls : List Nat} {rel : Nat → Nat → Bool}
theorem cut_nd (h : ∃ t ∈ ABC, ∃ m, 1 ≤ m ∧ m ≤ num ∧ ls = t.take m) : ls.Nodup := by
  obtain ⟨t, ht, m, h1, h2, rfl⟩ := h
  exact (List.take_sublist m t).nodup (abc_ok t ht).1
theorem cut_lt (h : ∃ t ∈ ABC, ∃ m, 1 ≤ m ∧ m ≤ num ∧ ls = t.take m) : ∀ c ∈ ls, c ∈ LET := by
  obtain ⟨t, ht, m, h1, h2, rfl⟩ := h
  exact fun c hc => (abc_ok t ht).2.1 c ((List.take_sublist m t).subset hc)
theorem cut_len (h : ∃ t ∈ ABC, ∃ m, 1 ≤ m ∧ m ≤ num ∧ ls = t.take m) : ls.length ≤ 8 ∧ ls.length ≤ num ∧ 1 ≤ ls.length := by
  obtain ⟨t, ht, m, h1, h2, rfl⟩ := h
  have := (abc_ok t ht).2.2.1
  rw [List.length_take]
  omega
theorem cut_lt' (h : ∃ t ∈ ABC, ∃ m, 1 ≤ m ∧ m ≤ num ∧ ls = t.take m) : ls.Pairwise (· < ·) := by
  obtain ⟨t, ht, m, h1, h2, rfl⟩ := h
  exact List.Pairwise.sublist (List.take_sublist m t) (abc_ok t ht).2.2.2
theorem Flr.tab (h : Flr num ls rel) : Tab ls (crossBy ls rel) where
  nd := cut_nd h.cut
  lt := cut_lt h.cut
  len := (cut_len h.cut).1
  sub a ha b hb := by
    obtain ⟨h1, h2⟩ := List.mem_filter.mp hb
    refine ⟨h1, (h.ok.in a b h2).2.2.symm, List.mem_filter.mpr ⟨ha, ?_⟩⟩
    rw [h.ok.sym]
    exact h2
  gl a ha := Nat.le_trans (List.length_filter_le _ _) (cut_len h.cut).1
end
end Cw
set_option Elab.async false
set_option linter.all false
set_option maxRecDepth 100000
set_option maxHeartbeats 4000000
/-! calls within a try; calls that raise nothing after all -/
namespace Cw
open PySem PySem.Spec L2
section
variable {P : Program} {w : World} {K : PySem.W.Frag} {mg : Str → Option Value} {base : Heap} {k : Nat} {f : Addr} {fd : FuncData} {ps : List Str} {sp : Sp}
/-- a promise whose wishes for errors are none -/
def calmOf (sp : Sp) : Sp := fun vs H Q _ => sp vs H Q fun _ _ _ => False
theorem calm_fn (F : FnOk P w K mg base (L2.CX P w) k f fd ps sp) : FnOk P w K mg base CX0 k f fd ps (calmOf sp) := by
  refine ⟨fun vs H Q E h => F.len _ _ _ _ h, fun A outer s H args us vs Q E hr e0 hb hv h => ?_⟩
  refine codeAny_mono (F.run A outer s H args us vs Q (fun _ _ _ => False) hr e0 hb hv h) fun r s' q => ?_
  cases r with
  | ok fl => cases fl <;> exact q
  | error e =>
    obtain ⟨a, B, H', cls, d, _, _, _, _, _, _, _, z⟩ := q
    exact z.elim
theorem Def.calm {x : Str} (D : Def P w K mg base (L2.CX P w) k x ps sp) : Def P w K mg base CX0 k x ps (calmOf sp) := by
  obtain ⟨f, fd, a, b, c, d⟩ := D.ex
  exact ⟨f, fd, a, b, c, calm_fn d⟩
theorem MDef.calm {C : Addr} {m : Str} (D : MDef P w K mg base (L2.CX P w) k C m ps sp) : MDef P w K mg base CX0 k C m ps (calmOf sp) := by
  obtain ⟨f, fd, a, b, c, d, e⟩ := D.ex
  exact ⟨f, fd, a, b, c, d, calm_fn e⟩
end
section
variable {X : Cx} {CX : CXT} {k : Nat} {C : Addr} {x m : Str} {ps : List Str} {sp : Sp} {E : St → XK} {p pos apos : PySem.Pos} {o e : Expr} {es : List Expr} {ta : TE} {t : TA}
def tMethS (C : Addr) (m : Str) (sp : Sp) (E : St → XK) (ta : TE) (t : TA) : TE := fun σ H Q => ta σ H fun x H1 => ∃ a dx fs, x = .ref a ∧ H1 a = some (.ins C dx fs) ∧ fs.lookup m = none ∧ t σ H1 fun vs H2 => sp (x :: vs) H2 Q (E σ)
end
/-- a try with one clause, its reading by name -/
def tTryA (K : PySem.W.Frag) (c : Value) (i : Nat) (ts : Addr → Value → Option Addr → TS) (Wout : WX) (tb : WX → TS) : TS := fun D σ H => tb (wAs K c i ts Wout D) D σ H
theorem e_tryA {K : PySem.W.Frag} {c : Value} {i : Nat} {ts : Addr → Value → Option Addr → TS} {Wout : WX} {tb : WX → TS} {D : Ends} {σ : St} {H : Hp} (q : tb (wAs K c i ts Wout D) D σ H) : tTryA K c i ts Wout tb D σ H := q
section
variable {σ : St} {H : Hp} {Q : VK} {C : Addr} {m : Str} {sp : Sp} {E : St → XK} {ta : TE} {t : TA}
theorem e_callS (q : t σ H fun vs H1 => sp vs H1 Q (E σ)) : tCallS sp E t σ H Q := q
theorem e_mdS (q : ta σ H fun x H1 => ∃ a dx fs, x = .ref a ∧ H1 a = some (.ins C dx fs) ∧ fs.lookup m = none ∧ t σ H1 fun vs H2 => sp (x :: vs) H2 Q (E σ)) : tMethS C m sp E ta t σ H Q := q
end
theorem s_asgT {te : TE} {K : PySem.W.Frag} {n : Nat} {t : TGs} {D : Ends} {σ : St} {H : Hp} (q : te σ H fun v H1 => gTup K n t v σ H1 fun σ' H' => D.nx σ' H') : tAsg te (gTup K n t) D σ H := q
theorem e_pr {tk tv : TE} {r : List (TE × TE)} {σ : St} {H : Hp} {Q : List (V × V) → Hp → Prop} (q : tk σ H fun x H1 => tv σ H1 fun y H2 => tPairs r σ H2 fun ps H3 => Q ((x, y) :: ps) H3) : tPairs ((tk, tv) :: r) σ H Q := q
theorem e_pr0 {σ : St} {H : Hp} {Q : List (V × V) → Hp → Prop} (q : Q [] H) : tPairs [] σ H Q := q
theorem e_disp {trs : List (TE × TE)} {σ : St} {H : Hp} {Q : VK} (q : ∀ p, H p = none → tPairs trs σ (upd H p (.dK [])) fun ps H2 => H2 p = some (.dK []) ∧ ∃ kvs : List (Key × V), ps = kvs.map (fun kv => (kV kv.1, kv.2)) ∧ kvs.length ≤ 15 ∧ Q (.ref p) (upd H2 p (.dK (mergeK [] kvs)))) : tDisp trs σ H Q := q
theorem sqL_same {K : PySem.W.Frag} {H H' : Hp} {a : Addr} {xs : List V} (h : SqL K H a xs) (s : Same H H') : SqL K H' a xs := by
  rcases h with (h | ⟨o, h⟩) | h
  · exact .inl (.inl (s _ _ h))
  · exact .inl (.inr ⟨o, s _ _ h⟩)
  · exact .inr h
theorem v_slL {K : PySem.W.Frag} {H : Hp} {Q : VK} {a : Addr} {xs : List V} {lo hi : Option Int} (h : SqL K H a xs) (q : ∀ p H', H p = none → Same H H' → H' p = some (.lst (cutV xs lo hi)) → Q (.ref p) H') : rSlL K (.ref a) lo hi H Q := ⟨a, xs, rfl, h, fun p hp => q p _ hp (Same.new hp) upd_same⟩
end Cw
set_option Elab.async false
set_option linter.all false
set_option maxRecDepth 100000
set_option maxHeartbeats 4000000
/-! plans that are not equal, in plain words -/
namespace Cw
open PySem PySem.Spec L2
/-- the end of a body, by a name: smaller goals -/
theorem s_hide {t : TS} {D0 : Ends} {σ : St} {H : Hp} (h : ∀ D : Ends, (∀ σ H, D0.nx σ H → D.nx σ H) → t D σ H) : t D0 σ H := h D0 fun _ _ z => z
theorem tabPairs_lt {ls : List Nat} {f : Nat → List Nat} (T : Tab ls f) {p : List Nat} (h : p ∈ tabPairs ls f) : ∃ a b, p = [a, b] ∧ a < b ∧ a ∈ ls ∧ b ∈ ls ∧ b ∈ f a := by
  obtain ⟨a, b, rfl, ha, hb, hm⟩ := pairsOf_mem.mp h
  obtain ⟨x, hx, hm⟩ := List.mem_flatMap.mp hm
  obtain ⟨y, hy, e⟩ := List.mem_map.mp hm
  obtain ⟨y1, y2, y3⟩ := T.sub x hx y hy
  by_cases hl : x < y
  · rw [(asc2 (T.lt x hx) (T.lt y y1) hl).1] at e
    injection e with e1 e2
    injection e2 with e2
    subst e1 e2
    exact ⟨_, _, rfl, hl, hx, y1, hy⟩
  · have hl : y < x := by omega
    rw [(asc2 (T.lt y y1) (T.lt x hx) hl).2] at e
    injection e with e1 e2
    injection e2 with e2
    subst e1 e2
    exact ⟨_, _, rfl, hl, y1, hx, y3⟩
section
variable {K : PySem.W.Frag} {H : Hp} {Q : VK} {p q : Addr} {n m : Int} {a b : List Nat}
end
end Cw
set_option Elab.async false
set_option linter.all false
set_option maxRecDepth 100000
set_option maxHeartbeats 4000000
/-! calls with keywords and with defaults, by where each parameter comes from -/
namespace Cw
open PySem PySem.Spec L2
/-- a parameter's value: the i-th that is given, a default, a keyword's -/
inductive Src where
  | pos (i : Nat)
  | dfl (i : Nat)
  | kw (i : Nat)
def Src.up : Src → Src
  | .pos i => .pos (i + 1)
  | .dfl i => .dfl i
  | .kw i => .kw i
def getS {α : Type} (us its ws : List α) : Src → Option α
  | .pos i => us[i]?
  | .dfl i => its[i]?
  | .kw i => ws[i]?
def gS (ss : List Src) {α : Type} (us its ws : List α) : List α := ss.filterMap (getS us its ws)
theorem vals_get : ∀ {vs : List V} {us : List Value}, Vals vs us → ∀ i : Nat, (vs[i]? = none ∧ us[i]? = none) ∨ ∃ v u, vs[i]? = some v ∧ us[i]? = some u ∧ RelV v u
  | _, _, .nil, i => .inl ⟨rfl, rfl⟩
  | _, _, .cons r t, 0 => .inr ⟨_, _, rfl, rfl, r⟩
  | _, _, .cons r t, i + 1 => by
    have := vals_get t i
    simpa using this
theorem gS_rel {vs ds zs : List V} {us its ws : List Value} (r1 : Vals vs us) (r2 : Vals ds its) (r3 : Vals zs ws) : ∀ ss : List Src, Vals (gS ss vs ds zs) (gS ss us its ws)
  | [] => .nil
  | s :: ss => by
    have ih := gS_rel r1 r2 r3 ss
    have key : (getS vs ds zs s = none ∧ getS us its ws s = none) ∨ ∃ v u, getS vs ds zs s = some v ∧ getS us its ws s = some u ∧ RelV v u := by
      cases s with
      | pos i => exact vals_get r1 i
      | dfl i => exact vals_get r2 i
      | kw i => exact vals_get r3 i
    unfold gS at ih ⊢
    rcases key with ⟨a, b⟩ | ⟨v, u, a, b, r⟩
    · rw [List.filterMap_cons_none a, List.filterMap_cons_none b]
      exact ih
    · rw [List.filterMap_cons_some a, List.filterMap_cons_some b]
      exact .cons r ih
/-- how a call binds its n values and its keywords ks -/
abbrev KB (K : PySem.W.Frag) (fd : FuncData) (ps : List Str) (n : Nat) (ks : List Str) (ss : List Src) (dvs : List V) : Prop := ∃ g, KBn K fd ps n ks g (fun vs zs => gS ss vs dvs zs)
section
variable {K : PySem.W.Frag} {x qual : Str} {params : Arguments} {body : List Stmt} {scope : Scope} {dvs : List V} {f : Addr} {fd : FuncData} {ps : List Str}
theorem FunD.kb (F : FunD K x qual params body scope dvs [] f fd) (n : Nat) (ks : List Str) (ss : List Src) (hd : dvs ≠ [])
    (h : ∀ (T : Addr) (kV doc pm : Value) (an : Option Addr) (cdv ct : Value) (us its ws : List Value), us.length = n → its.length = dvs.length → ws.length = ks.length →
      ∃ k, bindArgs (PySem.W.fnOf x qual params body scope (.ref T) kV doc pm an cdv ct) ⟨us, ks.zip ws⟩ = seqItems? (.ref T) >>= k ∧ k (some its.toArray) = pure (ps.zip (gS ss us its ws))) : KB K fd ps n ks ss dvs := by
  obtain ⟨its, b⟩ := F.kbindsD (ps := ps) n ks (fun {_} vs ds zs => gS ss vs ds zs) hd (fun r1 r2 r3 => gS_rel r1 r2 r3 ss) h
  exact ⟨_, b⟩
end
/-- C(..) by n values and the keywords ks -/
structure CDefN (P : Program) (w : World) (K : PySem.W.Frag) (mg : Str → Option Value) (base : Heap) (CX : CXT) (k : Nat) (x : Str) (C : Addr) (sp : Sp) (n : Nat) (ks : List Str) (ss : List Src) (dvs : List V) : Prop where
  ex : ∃ f fd ps sp0, mg x = some (.ref C) ∧ Mk K C f ∧ KB K fd ps (n + 1) ks (.pos 0 :: ss.map Src.up) dvs ∧ FnOk P w K mg base CX k f fd ps sp0 ∧ Conv C sp0 sp
/-- the reading of such a call -/
def tCN (sp : Sp) (n m : Nat) (ss : List Src) (dvs : List V) (E : XK) (t tk : TA) : TE := fun σ H Q => t σ H fun vs H1 => tk σ H1 fun zs H2 => vs.length = n ∧ zs.length = m ∧ sp (gS ss vs dvs zs) H2 Q E
section
variable {P : Program} {w : World} {K : PySem.W.Frag} {mg : Str → Option Value} {base : Heap} {CX : CXT} {k : Nat} {C : Addr} {x qual : Str} {sp : Sp} {st : Stmt} {dvs : List V} {n : Nat} {ks : List Str} {ss : List Src}
theorem CDefN.mono {j : Nat} (D : CDefN P w K mg base CX j x C sp n ks ss dvs) (h : j ≤ k) : CDefN P w K mg base CX k x C sp n ks ss dvs := by
  obtain ⟨f, fd, ps, sp0, a, b, c, d, e⟩ := D.ex
  exact ⟨f, fd, ps, sp0, a, b, c, d.mono h, e⟩
theorem CMk.kw {ps : List Str} (D : CMk P w K mg base CX k x C sp ps qual st dvs) (n : Nat) (ks : List Str) (ss : List Src) (hd : dvs ≠ [])
    (h : ∀ (T : Addr) (kV doc pm : Value) (an : Option Addr) (cdv ct : Value) (us its ws : List Value), us.length = n + 1 → its.length = dvs.length → ws.length = ks.length →
      ∃ k, bindArgs (PySem.W.fnOf "__init__" qual (defArgs st) (defBody st) (defScope st) (.ref T) kV doc pm an cdv ct) ⟨us, ks.zip ws⟩ = seqItems? (.ref T) >>= k ∧ k (some its.toArray) = pure (ps.zip (gS (.pos 0 :: ss.map Src.up) us its ws))) : CDefN P w K mg base CX k x C sp n ks ss dvs := by
  obtain ⟨f, fd, sp0, a, b, c, d, e, G⟩ := D.ex
  exact ⟨f, fd, ps, sp0, a, b, FunD.kb G (n + 1) ks _ hd h, d, e⟩
end
section
variable {X : Cx} {CX : CXT} {k n : Nat} {sp : Sp} {E : XK} {x : Str} {C : Addr} {p pos : PySem.Pos} {e : Expr} {es : List Expr} {kws : List Keyword} {t tk : TA} {ks : List Str} {ss : List Src} {dvs : List V}
end
/-! ### defs and methods by keywords -/
structure DefN (P : Program) (w : World) (K : PySem.W.Frag) (mg : Str → Option Value) (base : Heap) (CX : CXT) (k : Nat) (x : Str) (sp : Sp) (n : Nat) (ks : List Str) (ss : List Src) (dvs : List V) : Prop where
  ex : ∃ f fd ps, mg x = some (.ref f) ∧ PySem.W.keepIn K (.ref f) = true ∧ KB K fd ps n ks ss dvs ∧ FnOk P w K mg base CX k f fd ps sp
structure MDefN (P : Program) (w : World) (K : PySem.W.Frag) (mg : Str → Option Value) (base : Heap) (CX : CXT) (k : Nat) (C : Addr) (m : Str) (sp : Sp) (n : Nat) (ks : List Str) (ss : List Src) (dvs : List V) : Prop where
  ex : ∃ f fd ps, PySem.W.findIn K (.ref C) m = some (some (.ref f)) ∧ PySem.W.isFn K (.ref f) = true ∧ PySem.W.keepIn K (.ref f) = true ∧ KB K fd ps (n + 1) ks (.pos 0 :: ss.map Src.up) dvs ∧ FnOk P w K mg base CX k f fd ps sp
section
variable {P : Program} {w : World} {K : PySem.W.Frag} {mg : Str → Option Value} {base : Heap} {CX : CXT} {k : Nat} {C : Addr} {x m qual : Str} {sp : Sp} {st : Stmt} {dvs : List V} {n : Nat} {ks ps : List Str} {ss : List Src}
theorem DefN.mono {j : Nat} (D : DefN P w K mg base CX j x sp n ks ss dvs) (h : j ≤ k) : DefN P w K mg base CX k x sp n ks ss dvs := by
  obtain ⟨f, fd, ps, a, b, c, d⟩ := D.ex
  exact ⟨f, fd, ps, a, b, c, d.mono h⟩
theorem MDefN.mono {j : Nat} (D : MDefN P w K mg base CX j C m sp n ks ss dvs) (h : j ≤ k) : MDefN P w K mg base CX k C m sp n ks ss dvs := by
  obtain ⟨f, fd, ps, a, b, c, d, e⟩ := D.ex
  exact ⟨f, fd, ps, a, b, c, d, e.mono h⟩
theorem kb_of {fd : FuncData} (h : ∀ us ws : List Value, us.length = n → ws.length = ks.length → bindArgs fd ⟨us, ks.zip ws⟩ = pure (ps.zip (gS ss us [] ws))) : KB K fd ps n ks ss [] :=
  ⟨fun us ws => gS ss us [] ws, ⟨fun s us ws _ l1 l2 => .of_eq (h us ws l1 l2), fun r1 r2 => gS_rel r1 .nil r2 ss⟩⟩
theorem fd_eq {f : Addr} {fd fd' : FuncData} (h : ∃ oc od osl, K.lookup f = some ⟨oc, od, .func fd, osl⟩) (h' : ∃ oc od osl, K.lookup f = some ⟨oc, od, .func fd', osl⟩) : fd = fd' := by
  obtain ⟨_, _, _, h⟩ := h
  obtain ⟨_, _, _, h'⟩ := h'
  rw [h] at h'
  injection h' with h'
  injection h' with _ _ h' _
  injection h'
theorem Def.kw (D : Def P w K mg base CX k x ps sp) (F : FnAt K mg x st) (n : Nat) (ks : List Str) (ss : List Src)
    (h : ∀ (kV doc pm : Value) (an : Option Addr) (cdv ct : Value) (us ws : List Value), us.length = n → ws.length = ks.length → bindArgs (PySem.W.fnOf x x (defArgs st) (defBody st) (defScope st) .none kV doc pm an cdv ct) ⟨us, ks.zip ws⟩ = pure (ps.zip (gS ss us [] ws))) : DefN P w K mg base CX k x sp n ks ss [] := by
  obtain ⟨f, fd, a, b, c, d⟩ := D.ex
  obtain ⟨f', fd', a', G⟩ := F.ex
  rw [a] at a'
  injection a' with a'
  injection a' with a'
  subst a'
  have e := fd_eq c.lk (funLk G)
  subst e
  refine ⟨f, fd, ps, a, b, ?_, d⟩
  obtain ⟨oc, od, kV, doc, pm, an, cdv, ct, osl, rfl, _⟩ := G.ex
  exact kb_of (h kV doc pm an cdv ct)
theorem MDef.kw (D : MDef P w K mg base CX k C m ps sp) (F : MAt K C m qual st) (n : Nat) (ks : List Str) (ss : List Src)
    (h : ∀ (kV doc pm : Value) (an : Option Addr) (cdv ct : Value) (us ws : List Value), us.length = n + 1 → ws.length = ks.length → bindArgs (PySem.W.fnOf m qual (defArgs st) (defBody st) (defScope st) .none kV doc pm an cdv ct) ⟨us, ks.zip ws⟩ = pure (ps.zip (gS (.pos 0 :: ss.map Src.up) us [] ws))) : MDefN P w K mg base CX k C m sp n ks ss [] := by
  obtain ⟨f, fd, a, b, kp, c, d⟩ := D.ex
  obtain ⟨f', fd', a', b', G⟩ := F.ex
  rw [a] at a'
  injection a' with a'
  injection a' with a'
  injection a' with a'
  subst a'
  have e := fd_eq c.lk (funLk G)
  subst e
  refine ⟨f, fd, ps, a, b, kp, ?_, d⟩
  obtain ⟨oc, od, kV, doc, pm, an, cdv, ct, osl, rfl, _⟩ := G.ex
  exact kb_of (h kV doc pm an cdv ct)
end
section
variable {X : Cx} {CX : CXT} {k n : Nat} {sp : Sp} {E : XK} {x m : Str} {C : Addr} {p pos apos : PySem.Pos} {o e : Expr} {es : List Expr} {kws : List Keyword} {ta : TE} {t tk : TA} {ks : List Str} {ss : List Src} {dvs : List V}
end
section
variable {X : Cx} {CX : CXT} {k : Nat} {C : Addr} {m : Str} {ps : List Str} {sp : Sp} {E : XK} {pos apos : PySem.Pos} {o : Expr} {ta : TE}
end
section
variable {σ : St} {H : Hp} {Q : VK}
theorem e_CN {sp : Sp} {n m : Nat} {ss : List Src} {dvs : List V} {E : XK} {t tk : TA} (q : t σ H fun vs H1 => tk σ H1 fun zs H2 => vs.length = n ∧ zs.length = m ∧ sp (gS ss vs dvs zs) H2 Q E) : tCN sp n m ss dvs E t tk σ H Q := q
end
end Cw
set_option Elab.async false
set_option linter.all false
set_option maxRecDepth 100000
set_option maxHeartbeats 4000000
/-! names in plain words: no letter stands behind a greater or an equal one that it could be exchanged back to -/
namespace Cw
structure CrOk (cr : Nat → List Nat) : Prop where
  sym : ∀ a b, a ∈ cr b → b ∈ cr a
  irr : ∀ a, ¬ a ∈ cr a
/-- s may stand behind the letters of the list (the nearest first) -/
def okAt (cr : Nat → List Nat) (s : Nat) : List Nat → Prop
  | [] => True
  | t :: r => t ≠ s ∧ (t ∈ cr s → t < s ∧ okAt cr s r)
/-- a name, its last letter first -/
def NFr (cr : Nat → List Nat) : List Nat → Prop
  | [] => True
  | s :: r => okAt cr s r ∧ NFr cr r
def NF (cr : Nat → List Nat) (w : List Nat) : Prop := NFr cr w.reverse
section
variable {cr : Nat → List Nat} {s k x : Nat} {d e : List Nat}
theorem okAt_app : ∀ {q : List Nat}, okAt cr s (q ++ e) → (∀ y ∈ q, y ∈ cr s) → okAt cr s e
  | [], h, _ => h
  | y :: q, h, hq => okAt_app (q := q) (h.2 (hq y (List.mem_cons_self ..))).2 fun z hz => hq z (List.mem_cons_of_mem _ hz)
theorem NFr_right : ∀ {a b : List Nat}, NFr cr (a ++ b) → NFr cr b
  | [], _, h => h
  | _ :: a, b, h => NFr_right (a := a) h.2
/-! ### what a step does -/
end
/-! ### ways -/
def joinC (cr : Nat → List Nat) (name way : List Nat) : List Nat := way.foldl (fun n k => stepOf (cr k) n k) name
theorem joinOf_C (ks : List Nat) (ps : List (List Nat)) (name way : List Nat) : joinOf ks ps name way = joinC (crossOf ks ps) name way := rfl
section
variable {cr : Nat → List Nat}
/-- the same by any two letters -/
theorem NF.two {w : List Nat} (h : NF cr w) {p q r : List Nat} {t s : Nat} (e : w = p ++ t :: (q ++ s :: r)) (hq : ∀ y ∈ q, y ∈ cr s) : t ≠ s ∧ (t ∈ cr s → t < s) := by
  unfold NF at h
  have e2 : w.reverse = r.reverse ++ s :: (q.reverse ++ t :: p.reverse) := by rw [e]; simp
  rw [e2] at h
  have h1 := (NFr_right h).1
  have h2 := okAt_app h1 fun y hy => hq y (List.mem_reverse.mp hy)
  exact ⟨h2.1, fun z => (h2.2 z).1⟩
end
end Cw
set_option Elab.async false
set_option linter.all false
set_option maxRecDepth 100000
set_option maxHeartbeats 4000000
/-! the vectors of the laws, in plain words -/
namespace Cw
/-- one coordinate of the marks, behind the door d -/
def thr (cr : Nat → List Nat) (d : Nat) (f : Nat → Int) : Nat → Int := fun e => if e = d then - f d else if e ∈ cr d then f e else f e + 2 * f d
/-- the first letter of the list is the last door -/
def act (cr : Nat → List Nat) (w : List Nat) (f : Nat → Int) : Nat → Int := w.foldr (thr cr) f
def unit (x : Nat) : Nat → Int := fun e => if e = x then 1 else 0
section
variable {cr : Nat → List Nat} {a b d e k : Nat} {f : Nat → Int} {w : List Nat}
/-! ### doors that lead back -/
end
/-- all coordinates are at least nought, one is above -/
def Pos (ls : List Nat) (v : Nat → Int) : Prop := (∀ x ∈ ls, 0 ≤ v x) ∧ ∃ x ∈ ls, 0 < v x
theorem Pos.congr {ls : List Nat} {u v : Nat → Int} (hu : Pos ls u) (h : ∀ x ∈ ls, v x = u x) : Pos ls v := by
  refine ⟨fun x hx => h x hx ▸ hu.1 x hx, ?_⟩
  obtain ⟨x, hx, p⟩ := hu.2
  exact ⟨x, hx, h x hx ▸ p⟩
/-- the mark of the door e behind the way w, coordinate by coordinate -/
def mark (cr : Nat → List Nat) (w : List Nat) (e : Nat) : Nat → Int := fun x => act cr w (unit x) e
section
variable {cr : Nat → List Nat} {ls : List Nat}
/-! ### names by marks -/
theorem NF.tail {c : Nat} {r : List Nat} (h : NF cr (c :: r)) : NF cr r := by
  unfold NF at h ⊢
  rw [List.reverse_cons] at h
  have key : ∀ {a b : List Nat}, NFr cr (a ++ b) → NFr cr a := by
    intro a b
    induction a with
    | nil => intro _; trivial
    | cons s a ih =>
      intro h
      refine ⟨?_, ih h.2⟩
      have h1 := h.1
      clear h ih
      induction a with
      | nil => trivial
      | cons t a ih => exact ⟨h1.1, fun z => ⟨(h1.2 z).1, ih (h1.2 z).2⟩⟩
  exact key h
end
end Cw
set_option Elab.async false
set_option linter.all false
set_option maxRecDepth 100000
set_option maxHeartbeats 4000000
/-! a drawn floor, in plain words -/
namespace Cw
theorem splitB_congr {p p' : List Nat} : ∀ {a b : List Nat}, (∀ c ∈ a, c ∈ p ↔ c ∈ p') → splitB p a b = splitB p' a b
  | [], b, _ => rfl
  | x :: r, b, h => by
    have hx := h x (List.mem_cons_self ..)
    unfold splitB
    by_cases c : x ∈ p
    · rw [if_pos c, if_pos (hx.mp c)]
      exact splitB_congr fun c hc => h c (List.mem_cons_of_mem _ hc)
    · rw [if_neg c, if_neg (fun z => c (hx.mpr z))]
theorem stepOf_congr {p p' name : List Nat} {k : Nat} (h : ∀ c ∈ name, c ∈ p ↔ c ∈ p') : stepOf p name k = stepOf p' name k := by
  unfold stepOf
  rw [splitB_congr (p' := p') fun c hc => h c (List.mem_reverse.mp hc)]
theorem joinC_congr {f f' : Nat → List Nat} {ls : List Nat} (h : ∀ k ∈ ls, ∀ c ∈ ls, c ∈ f k ↔ c ∈ f' k) : ∀ {way name : List Nat}, (∀ c ∈ name, c ∈ ls) → (∀ c ∈ way, c ∈ ls) → joinC f name way = joinC f' name way
  | [], name, _, _ => rfl
  | k :: r, name, hn, hw => by
    show joinC f (stepOf (f k) name k) r = joinC f' (stepOf (f' k) name k) r
    have hk := hw k (List.mem_cons_self ..)
    rw [stepOf_congr (p' := f' k) fun c hc => h k hk c (hn c hc)]
    refine joinC_congr h (fun c hc => ?_) fun c hc => hw c (List.mem_cons_of_mem _ hc)
    rcases stepOf_mem hc with e | e
    · rw [e]
      exact hk
    · exact hn c e
/-- the letters of a drawn floor and which cross -/
structure Fl (ls : List Nat) (f : Nat → List Nat) : Prop where
  tab : Tab ls f
  ok : CrOk f
  asc : ls.Pairwise (· < ·)
  pos : 0 < ls.length
theorem Flr.fl {num : Nat} {ls : List Nat} {rel : Nat → Nat → Bool} (h : Flr num ls rel) : Fl ls (crossBy ls rel) where
  tab := h.tab
  asc := cut_lt' h.cut
  pos := (cut_len h.cut).2.2
  ok := by
    refine ⟨fun a b hab => ?_, fun a ha => ?_⟩
    · obtain ⟨h1, h2⟩ := List.mem_filter.mp hab
      have h3 := h.ok.in b a h2
      refine List.mem_filter.mpr ⟨h3.1, ?_⟩
      rw [h.ok.sym]
      exact h2
    · obtain ⟨h1, h2⟩ := List.mem_filter.mp ha
      exact (h.ok.in a a h2).2.2 rfl
theorem Fl.plain {ls : List Nat} {f : Nat → List Nat} (h : Fl ls f) : Fl ls (fun _ => []) where
  tab := ⟨h.tab.nd, h.tab.lt, h.tab.len, fun _ _ _ z => (nomatch z), fun _ _ => by simp⟩
  ok := ⟨fun _ _ z => (nomatch z), fun _ z => (nomatch z)⟩
  asc := h.asc
  pos := h.pos
section
variable {ls : List Nat} {f : Nat → List Nat}
theorem cross_tab (T : Tab ls f) {k c : Nat} (hk : k ∈ ls) (hc : c ∈ ls) : c ∈ crossOf (ascOf ls) (tabPairs ls f) k ↔ c ∈ f k := by
  unfold crossOf
  rw [List.mem_filter, Bool.or_eq_true, decide_eq_true_iff, decide_eq_true_iff]
  have mk : ∀ a b, a ∈ ls → b ∈ f a → b ∈ ls → ascOf [a, b] ∈ ls.flatMap fun a => (f a).map fun b => ascOf [a, b] := fun a b ha hb _ => List.mem_flatMap.mpr ⟨a, ha, List.mem_map.mpr ⟨b, hb, rfl⟩⟩
  constructor
  · rintro ⟨_, h | h⟩
    · obtain ⟨a, b, e, _, _, _, hb⟩ := tabPairs_lt T h
      injection e with e1 e2
      injection e2 with e2
      rw [e1, e2]
      exact hb
    · obtain ⟨a, b, e, _, ha, _, hb⟩ := tabPairs_lt T h
      injection e with e1 e2
      injection e2 with e2
      rw [e1, e2]
      exact (T.sub a ha b hb).2.2
  · intro h
    refine ⟨ascOf_mem.mpr ⟨T.lt c hc, hc⟩, ?_⟩
    have s := T.sub k hk c h
    rcases Nat.lt_or_gt_of_ne s.2.1 with l | l
    · refine .inr (pairsOf_mem.mpr ⟨c, k, rfl, T.lt c hc, T.lt k hk, ?_⟩)
      have := mk k c hk h hc
      rw [(asc2 (T.lt c hc) (T.lt k hk) l).2] at this
      exact this
    · refine .inl (pairsOf_mem.mpr ⟨k, c, rfl, T.lt k hk, T.lt c hc, ?_⟩)
      have := mk k c hk h hc
      rw [(asc2 (T.lt k hk) (T.lt c hc) l).1] at this
      exact this
theorem joinOf_tab (T : Tab ls f) {name way : List Nat} (hn : ∀ c ∈ name, c ∈ ls) (hw : ∀ c ∈ way, c ∈ ls) : joinOf (ascOf ls) (tabPairs ls f) name way = joinC f name way := by
  rw [joinOf_C]
  exact joinC_congr (fun k hk c hc => cross_tab T hk hc) hn hw
theorem joinC_mem' {cr : Nat → List Nat} {c : Nat} : ∀ {way name : List Nat}, c ∈ joinC cr name way → c ∈ name ∨ c ∈ way
  | [], name, h => .inl h
  | k :: r, name, h => by
    rcases joinC_mem' (way := r) (name := stepOf (cr k) name k) h with z | z
    · rcases stepOf_mem z with e | e
      · exact .inr (e ▸ List.mem_cons_self ..)
      · exact .inl e
    · exact .inr (List.mem_cons_of_mem _ z)
/-- the name of a way -/
abbrev nameOf (f : Nat → List Nat) (w : List Nat) : List Nat := joinC f [] w
theorem name_mem {w : List Nat} {c : Nat} (h : c ∈ nameOf f w) : c ∈ w := (joinC_mem' h).elim (fun z => (nomatch z)) id
theorem name_len (f : Nat → List Nat) (w : List Nat) : (nameOf f w).length ≤ w.length := by
  have key : ∀ (way name : List Nat), (joinC f name way).length ≤ name.length + way.length := by
    intro way
    induction way with
    | nil => intro name; exact Nat.le_refl _
    | cons k r ih =>
      intro name
      have := ih (stepOf (f k) name k)
      have := stepOf_len (f k) name k
      show (joinC f (stepOf (f k) name k) r).length ≤ _
      rw [List.length_cons]
      omega
  have := key w []
  rw [List.length_nil] at this
  show (joinC f [] w).length ≤ _
  omega
end
end Cw
set_option Elab.async false
set_option linter.all false
set_option maxRecDepth 100000
set_option maxHeartbeats 4000000
/-! more operators of classes of one's own: o + text, o[text], o == text -/
namespace PySem.W
open PySem PySem.Calls PyProof.Rows Builtin
section
variable {prog : Program} {w : World} {A : Around} {E : Value → Shared → Prop} {s : Shared} {K : Frag} {x C L f : Addr} {h0 : Heap} {m : Str → Option Value} {ox : Obj} {od : Option Obj}
theorem binop_own {b : Value} {T : String} {Q : Value → Shared → Prop} (F : Fr h0 L s.heap m) (X0 : K.In h0) (I : InstAt s.heap x ox C od) (hb : Looks (model prog w) s.heap (typeOf b) (.type T)) (hno : fillsNumberSlot (.type T) "add" = pure false) (hc : selfFirst K C = true)
    (hs : findIn K (.ref C) (PySem.dunder "add") = some (some (.ref f))) (hf : isFn K (.ref f) = true)
    (h : wpAny (model prog w) A (call (.ref f) [.ref x, b]) (CmpBack Q) E s) : wpAny (model prog w) A (binaryOp .Add (.ref x) b) Q E s := by
  have X := X0.keeps F.keep
  obtain ⟨cd, hcd, hm⟩ := any_some hc
  obtain ⟨rest, hm⟩ : ∃ rest, cd.mro = .ref C :: rest := by
    cases q : cd.mro with
    | nil => rw [q] at hm; cases hm
    | cons a r => rw [q] at hm; exact ⟨r, by rw [List.head?_cons] at hm; cases (beq_iff_eq.mp hm); rfl⟩
  have ne : (Value.ref C == Value.type T) = false := rfl
  unfold binaryOp
  refine wpAny_holding (wpAny_bind ?_)
  unfold binaryOp1
  refine wpAny_bind (I.type.here (wpAny_bind (hb.here (wpAny_bind ((fills_K X hcd hm hs).here ?_)))))
  simp only [ne, Bool.false_eq_true, if_false]
  refine wpAny_bind ?_
  show wpAny (model prog w) A (fillsNumberSlot (.type T) "add") _ _ _
  rw [hno]
  refine wpAny_pure ?_
  simp only [Bool.and_false, Bool.false_eq_true, if_false, Bool.false_and]
  refine wpAny_bind (wpAny_pure ?_)
  simp only [Bool.false_eq_true, if_false, if_true]
  refine wpAny_bind (m := tryMethod (.ref x) _ b) ?_
  unfold tryMethod
  refine wpAny_bind (special_fn X I hs (beq_iff_eq.mp hf) (wpAny_mono h (fun v s' hv => ?_) fun _ _ e => e))
  cases v <;> first | exact hv.elim | exact wpAny_pure (wpAny_pure (wpAny_pure hv))
end
end PySem.W
namespace Cw
open PySem PySem.Spec L2
theorem MAt.fnIn {K : PySem.W.Frag} {C : Addr} {m qual : Str} {st : Stmt} (F : MAt K C m qual st) : ∀ f, PySem.W.findIn K (.ref C) m = some (some (.ref f)) → PySem.W.fnIn K f = true := by
  obtain ⟨f, fd, a, _, G⟩ := F.ex
  obtain ⟨oc, od, kV, doc, pm, an, cdv, ct, osl, rfl, lk, _⟩ := G.ex
  intro f' e
  rw [a] at e
  injection e with e
  injection e with e
  injection e with e
  subst e
  unfold PySem.W.fnIn
  rw [lk]
section
variable {X : Cx} {CX : CXT} {k : Nat} {C : Addr} {m : Str} {ps : List Str} {sp : Sp} {E : XK}
/-- o op text, by the class's own method -/
def rMS (C : Addr) (sp : Sp) (E : XK) : R2 := fun x y H Q => ∃ a dx fs z, x = .ref a ∧ y = .str z ∧ H a = some (.ins C dx fs) ∧ sp [.ref a, .str z] H Q E
theorem op_addM (D : MDef X.prog X.w X.K X.mg X.base CX k C "__add__" ps sp) (hc : PySem.W.selfFirst X.K C = true) (hr : Room k X.A) (hx : Passes CX X E) : OpR X (binaryOp .Add) (rMS C sp E) := by
  obtain ⟨f, fd, h1, h2, kp, ⟨hb, _⟩, F⟩ := D.ex
  intro pins s σ H x y v u Q I rx ry h
  obtain ⟨a, dx, fs, z, rfl, rfl, ha, hq⟩ := h
  cases rx
  obtain ⟨t, rfl⟩ := ry
  obtain ⟨mA, J, _⟩ := ins_get I.hok ha
  obtain ⟨od, J, _⟩ := J.look
  obtain ⟨mm, hF⟩ := I.fr
  refine PySem.W.binop_own (T := "str") hF I.ok.mod.kin J .now PyProof.Rows.noFill_str_add hc h1 h2 ?_
  have z := run_fn (us := [.ref a, .str z t]) (vs := [.ref a, .str z]) (dvs := []) F hr hb .nil hx I (.cons rfl (.cons ⟨t, rfl⟩ .nil)) hq
  refine wpAny_mono z (fun v s' q => ?_) fun _ _ q => q
  obtain ⟨y, H', I', r, q⟩ := q
  have k : EP X pins σ Q v s' := ⟨y, H', I', r, q⟩
  cases v <;> first | exact k | (exfalso; cases y <;> first | (obtain ⟨_, r⟩ := r; cases r) | cases r)
end
section
variable {σ : St} {H : Hp} {Q : VK} {K : PySem.W.Frag}
theorem v_MS {C : Addr} {sp : Sp} {E : XK} {a dx : Addr} {fs : List (Str × V)} {z : Str} (h : H a = some (.ins C dx fs)) (q : sp [.ref a, .str z] H Q E) : rMS C sp E (.ref a) (.str z) H Q := ⟨a, dx, fs, z, rfl, rfl, h, q⟩
end
end Cw
set_option Elab.async false
set_option linter.all false
set_option maxRecDepth 100000
set_option maxHeartbeats 4000000
/-! tables of vectors -/
namespace Cw
open PySem PySem.Spec L2
def marksKV (ls : List Nat) (A : Nat → Addr) : List (Key × V) := ls.map fun c => ((Sum.inr (tx [c]) : Key), V.ref (A c))
def vecV (ls : List Nat) (v : Nat → Int) : List V := ls.map fun x => V.int (v x)
structure MarksAt (H : Hp) (m : Addr) (ls : List Nat) (M : Nat → Nat → Int) : Prop where
  ex : ∃ A : Nat → Addr, H m = some (.dK (marksKV ls A)) ∧ ∀ c ∈ ls, H (A c) = some (.tup (vecV ls (M c)))
theorem MarksAt.same {H H' : Hp} {m : Addr} {ls : List Nat} {M : Nat → Nat → Int} (h : MarksAt H m ls M) (s : Same H H') : MarksAt H' m ls M := by
  obtain ⟨A, a, b⟩ := h.ex
  exact ⟨A, s _ _ a, fun c hc => s _ _ (b c hc)⟩
theorem MarksAt.congr {H : Hp} {m : Addr} {ls : List Nat} {M M' : Nat → Nat → Int} (h : MarksAt H m ls M) (e : ∀ c ∈ ls, ∀ x ∈ ls, M c x = M' c x) : MarksAt H m ls M' := by
  obtain ⟨A, a, b⟩ := h.ex
  refine ⟨A, a, fun c hc => ?_⟩
  rw [b c hc]
  congr 2
  exact List.map_congr_left fun x hx => by rw [e c hc x hx]
section
variable {K : PySem.W.Frag} {a : Addr} {ls : List Nat} {f : Nat → V}
end
section
variable {σ : St} {H : Hp} {Q : VK} {te : TE} {K : PySem.W.Frag}
theorem e_iT {R : It → Hp → Prop} (q : te σ H fun x H1 => ∃ a, x = .ref a ∧ (∃ xs, SqT K H1 a xs) ∧ R (Itt K a) H1) : iTup K te σ H R := q
end
end Cw
namespace Cw
open PySem PySem.Spec L2
end Cw
set_option Elab.async false
set_option linter.all false
set_option maxRecDepth 100000
set_option maxHeartbeats 4000000
/-! more words: >, upper, list + list, parts of texts, values that are no texts -/
namespace Cw
open PySem PySem.Spec L2
section
variable {X : Cx}
/-- text.upper() of plain letters -/
def rUp : V → List V → Hp → VK → Prop := fun x xs H Q => ∃ l : List Nat, x = .str (tx l) ∧ xs = [] ∧ l.length ≤ 1000000 ∧ (∀ c ∈ l, c < 128) ∧ Q (.str (tx (l.map PyProof.Rows.up1))) H
theorem mt_up : MtR X "str.upper" rUp := by
  intro pins s σ H x vs v us Q I rx rv h
  obtain ⟨l, rfl, rfl, hl, h2, q⟩ := h
  refine mt_upper pins s σ H _ _ v us Q I rx rv ⟨tx l, rfl, rfl, by rw [tx_len]; omega, ?_⟩
  rw [show Txt.upper (tx l) = tx (l.map PyProof.Rows.up1) from SX.upper_S (by rw [List.all_eq_true]; intro c hc; exact decide_eq_true (h2 c hc))]
  exact q
theorem pe_up {o : Expr} {te : TE} {apos pos : PySem.Pos} (ho : PE X o te) (hbase : attributeBase o "upper" X.env (eval o X.env) = eval o X.env := by rfl) (hline : (apos.endLine == pos.line) = true := by rfl) : PE X (.Call (.Attribute o "upper" apos) [] [] pos) (tM0 rUp te) := pe_m0 F.slot_str_upper F.type_str_upper mt_up ho hbase hline
end
section
variable {σ : St} {H : Hp} {Q : VK} {K : PySem.W.Frag}
theorem e_m0 {te : TE} {r : V → List V → Hp → VK → Prop} (q : te σ H fun x H1 => (∃ a, x = .str a) ∧ r x [] H1 Q) : tM0 r te σ H Q := q
theorem v_up {l : List Nat} (h : l.length ≤ 1000000) (h2 : ∀ c ∈ l, c < 128) (q : Q (.str (tx (l.map PyProof.Rows.up1))) H) : (∃ a, V.str (tx l) = .str a) ∧ rUp (.str (tx l)) [] H Q := ⟨⟨_, rfl⟩, l, rfl, rfl, h, h2, q⟩
/-- isinstance(value, str) is False -/
def NoTx (K : PySem.W.Frag) (H : Hp) (v : V) : Prop := ∃ t, TyX K H v t ∧ PySem.W.kitOne K t (.type "str") = some false
theorem v_isiN {v : V} (h : NoTx K H v) (q : Q (.bl false) H) : rIsi K [v, .ty "str"] H Q := by
  obtain ⟨t, h1, h2⟩ := h
  exact ⟨v, .ty "str", t, .type "str", false, rfl, .ty "str", h1, h2, q⟩
theorem noTx_non : NoTx K H .non := ⟨_, .base .non, kit_ty (by decide +kernel)⟩
theorem noTx_int {i : Int} : NoTx K H (.int i) := ⟨_, .base (.int i), kit_ty (by decide +kernel)⟩
theorem noTx_bl {b : Bool} : NoTx K H (.bl b) := ⟨_, .base (.bl b), kit_ty (by decide +kernel)⟩
theorem noTx_lst {a : Addr} {xs : List V} (h : H a = some (.lst xs)) : NoTx K H (.ref a) := ⟨_, .base (.lst h), kit_ty (by decide +kernel)⟩
theorem noTx_tup {a : Addr} {xs : List V} (h : H a = some (.tup xs)) : NoTx K H (.ref a) := ⟨_, .base (.tup h), kit_ty (by decide +kernel)⟩
theorem noTx_dK {a : Addr} {kvs : List (Key × V)} (h : H a = some (.dK kvs)) : NoTx K H (.ref a) := ⟨_, .base (.dK h), kit_ty (by decide +kernel)⟩
theorem noTx_ins {mg : Str → Option Value} {x : Str} {a C dx : Addr} {fs : List (Str × V)} (F : ClsF K mg x C) (k : PySem.W.kitOne K (.ref C) (.type "str") = some false) (h : H a = some (.ins C dx fs)) : NoTx K H (.ref a) := ⟨_, .base (.ins h F.cl F.ha F.hn F.ht F.hm), k⟩
end
end Cw
set_option Elab.async false
set_option linter.all false
set_option maxRecDepth 100000
set_option maxHeartbeats 4000000
/-! an own exception over ValueError whose __init__ calls super().__init__(..) -/
namespace Cw
open PySem PySem.Spec L2
section
variable {X : Cx} {pins : List (Addr × Obj)} {σ : L2.St} {H : Hp} {s : Shared} {C a f cda cc : Addr}
/-- a parameter is read -/
theorem ld_par {E : Value → Shared → Prop} {i : Nat} {x : Str} {v : V} {Q : Value → Shared → Prop} (I : Inv X pins σ H s) (hN : X.N[i]? = some x) (hk : X.env.scope.names.lookup x = some .local) (e : σ[i]? = some (some v)) (h : ∀ u, RelV v u → Q u s) : wpAny (model X.prog X.w) X.A (loadName X.env x) Q E s := by
  obtain ⟨m, hn, hl⟩ := I.loc
  obtain ⟨u, r, l⟩ := hl i x v hN e (Or.inl hk)
  rcases l with ⟨_, hm⟩ | ⟨hk2, c, hc, hcell⟩
  · exact wpAny_loadName_local I.ok.kind hk hn hm (h u r)
  · have hk : X.env.kindOf x = some .local := hk
    rcases hk2 with hk2 | hk2
    · rw [hk] at hk2
      cases hk2
    · rw [hk] at hk2
      cases hk2
/-- what the written part says of the def -/
structure SupC (P : Program) (K : PySem.W.Frag) (C f cda cc : Addr) (fd : FuncData) (sf : Str) : Prop where
  fn : ∃ oc od osl, K.lookup f = some ⟨oc, od, .func fd, osl⟩
  par : ∃ ar, (fd.params.posonlyargs ++ fd.params.args).head? = some ar ∧ ar.arg = sf
  code : ∃ ccl cdd vs ccs file tf, K.lookup cda = some ⟨ccl, cdd, .fields vs, ccs⟩ ∧ vs[2]? = some (.str file tf) ∧ ((P.main.file : Str) == file) = true
  top : (P.main.scope.names.lookup ("super" : Str)).isSome = false
  cell : ∃ cl cld csl, K.lookup cc = some ⟨cl, cld, .cell (some (.ref C)), csl⟩
  op : PySem.W.nsIn K PySem.cStatics "thirdparty.any" = some none
  up : PySem.W.ks_superIn K C C "__init__" = some (some (.builtin "ValueError.__init__"))
/-- super().__init__(v, ..) -/
theorem ws_super {body : List Stmt} {fd : FuncData} {self : Str} {es : List Expr} {p0 p1 p2 p3 p4 : PySem.Pos} {Q : Flow → Shared → Prop} {pl : Sem Bool} (S : SupC X.prog X.K C f cda cc fd self) (I : Inv X pins σ H s) (T : OexC X.K C) (ea : H a = some (exo a C none))
    (hks : X.env.kindOf "super" = some .globalImplicit) (hkc : X.env.kindOf "__class__" = some .free) (hfu : X.env.func = some f) (hco : X.env.code = .ref cda) (hcl : X.env.cells.lookup ("__class__" : Str) = some cc) (hm : X.mg "super" = none) (hN : X.N[0]? = some self) (hself : X.env.scope.names.lookup self = some .local)
    (e0 : σ[0]? = some (some (.ref a))) (hargs : ∀ s', Inv X pins σ H s' → ∀ (Q : List Value → Shared → Prop), (∀ us, us.length ≤ sizeLine → Q us s') → wpAny (model X.prog X.w) X.A (spliced (backTo p3 (starEach es X.env))) Q X.xe s')
    (hpl : (backTo p3 (starEach es X.env)).any (·.1) = false) (hi : interactive X.env = false) (hcons : ∃ m r, backTo p3 (starEach es X.env) = (false, m) :: r)
    (he : eval (.Call (.Attribute (.Call (.Name "super" p0) [] [] p1) "__init__" p2) es [] p3) X.env = (do
      let ov ← attributeBase (.Call (.Name "super" p0) [] [] p1) "__init__" X.env (eval (.Call (.Name "super" p0) [] [] p1) X.env)
      standAt p2.atName
      let (f, first) ← holding [ov] (getMethod ov "__init__" pl)
      callWith p3 f first (backTo p3 (starEach es X.env)) []))
    (q : ∀ s', Inv X pins σ H s' → Q .next s') :
    PySem.wpAt (model X.prog X.w) X.A (.func body X.env) (exec (.Expr (.Call (.Attribute (.Call (.Name "super" p0) [] [] p1) "__init__" p2) es [] p3) p4) X.env) Q X.xe s := by
  obtain ⟨nm, qn, N, bs, bm, sn, sub, ab, col, dd, k0, k1, k2, k3, k5, hC, hbm⟩ := T.cls
  have hcl' : PySem.W.clsIn X.K C = some { name := nm, bases := bs, mro := .ref C :: bm, ns := N, qualname := qn, hasDict := true, slotNames := sn, subclasses := sub, abstract := ab, collection := col, hasDel := false } := by unfold PySem.W.clsIn; rw [hC] <;> rfl
  obtain ⟨oc, od, osl, hf⟩ := S.fn
  obtain ⟨ar, hp, har⟩ := S.par
  obtain ⟨ccl, cdd, vs, ccs, file, tf, hcode, hvs, hfile⟩ := S.code
  obtain ⟨cl, cld, csl, hcell⟩ := S.cell
  have hup : PySem.W.alongIn X.K "__init__" bm = some (some (.builtin "ValueError.__init__")) := by
    have h := S.up
    unfold PySem.W.ks_superIn at h
    rw [hcl'] at h
    have e : ((Value.ref C :: bm).dropWhile (· != .ref C)).drop 1 = bm := by simp [List.dropWhile]
    exact e ▸ h
  refine PySem.ks_wpAt_Expr_any (hi := hi) (PySem.ks_wpAt_MethodCall (pl := pl) ?_ he)
  refine PySem.ks_wpAt_super_base hks hkc (by decide +kernel) hfu (I.kIn _ _ hf) rfl hp hco (I.kIn _ _ hcode) rfl hvs hfile S.top ?_
  obtain ⟨mb, g1, g2⟩ := I.mod.blt
  refine PySem.W.ks_loadName_global I.ok.kind hks (Calls.loadGlobal_builtin (by rw [I.ok.glob]; exact I.mod.glob.keeps I.bk) hm (by rw [I.ok.blt]; exact g1.keeps I.bk) ((g2 "super" (by decide)).trans (show bootBuiltins "super" = some (.type "super") by decide +kernel)) ⟨rfl, ?_⟩)
  refine wpAny_loadName_free I.ok.kind hkc hcl ⟨_, I.kIn _ _ hcell, rfl⟩ ?_
  rw [har]
  refine ld_par I hN hself e0 fun u ru => ?_
  obtain rfl : u = Value.ref a := ru
  obtain ⟨t1, ho⟩ := exo_at I.hok ea
  have hCh := I.kIn _ _ hC
  refine PySem.ks_wpAny_isType_cls hCh rfl ⟨rfl, ?_⟩
  have naC : a ≠ C := by
    rintro rfl
    rw [hCh] at ho
    injection ho with ho
    injection ho with _ _ z
    cases z
  have hne : (Value.ref C :: bm).isEmpty = false := rfl
  have hmro : ∀ v : Value, (Value.ref C :: bm).contains v = true → PySem.W.mroIn X.K C v = some true := fun v hv => by
    unfold PySem.W.mroIn
    rw [hcl', Option.bind_some, if_neg (by rw [hne]; decide), hv]
  have hsub : PySem.W.Looks (model X.prog X.w) s.heap (isSubtype (.ref C) (.ref C)) true := PySem.W.looks_mroIn I.kIn (hmro _ (by simp))
  obtain ⟨hp0, g, d, t, os⟩ := s
  refine PySem.ks_wpAny_call_super hCh rfl ho rfl (fun c z => nomatch z) hsub fun h1 hso k1 => ?_
  have I1 := I.kept (t' := t) k1
  have J1 : PySem.W.InstAt h1 a ({ cls := .ref C, dict := none, data := .fields #[.ref t1, .none, .none, .none, .bool false, .none] } : Obj) C none := ⟨k1 _ _ ho, rfl, rfl, trivial⟩
  have hVE : (Value.ref C :: bm).contains (.type "ValueError") = true := by
    rw [List.contains_cons, PySem.HandSPX.refsVE_contains "ValueError" bm hbm]
    simp
  refine PySem.W.kxs_getMethod PySem.W.kxs_ValueError hso (PySem.W.looks_opaque I1.kIn S.op) (l₀ := .ref C :: bm) ((PySem.W.looks_clsIn I1.kIn hcl').andThen .now) (by simp [List.dropWhile]) I1.kIn hup (J1.type.andThen (PySem.W.looks_mroIn I1.kIn (hmro _ hVE))) naC (by decide +kernel) ?_
  have k2 : ∀ b o, h1.get? b = some o → (h1.push (PySem.W.kxs_mw "ValueError.__init__" a)).get? b = some o := fun b o e => Heap.get?_push_of_some _ e
  have I2 := I1.kept (t' := t + 1) k2
  have hu : (h1.push (PySem.W.kxs_mw "ValueError.__init__" a)).get? h1.objs.size = some (PySem.W.kxs_mw "ValueError.__init__" a) := Heap.get?_push_at rfl rfl
  have ho2 := k2 _ _ (k1 _ _ ho)
  obtain ⟨m0, r0, hc0⟩ := hcons
  have ha := hargs _ I2 (fun vs s₁ => PySem.W.KxsAt "ValueError.__init__" h1.objs.size a s₁.heap ∧ wpAny (model X.prog X.w) X.A (call (.ref h1.objs.size) vs) (fun _ => Q .next) X.xe s₁)
  rw [hc0] at hpl ha ⊢
  refine PySem.W.kxs_callWith (i := "ValueError.__init__") (x := a) hpl (PySem.Calls.evalArgs_plain (ha fun us hus => ⟨hu, ?_⟩))
  refine wpAny_call (codeAny_of_tree ?_)
  show wpAny _ X.A.in1 (callAny (.ref h1.objs.size) ⟨us, []⟩) _ _ _
  simp only [callAny]
  refine wpAny_bind (wpAny_load hu ?_)
  simp only [PySem.W.kxs_mw, show (Value.type "method-wrapper" == Value.type "method" || Value.type "method-wrapper" == Value.type "builtin_function_or_method" || Value.type "method-wrapper" == Value.type "method-wrapper") = true by decide, if_true]
  refine PySem.W.KFB.if_so (by decide) ?_
  refine wpAny_bind (PySem.W.check_bound_init PySem.F.excBase_ValueError.toExcCallFacts (I2.kIn _ _ hC) ho2 rfl ?_)
  refine wpAny_bind (wpAny_pure (wpAny_pure ?_))
  refine ⟨plainId_quiet PySem.F.excBase_ValueError.init.plain _, codeAny_builtin PySem.F.excBase_ValueError.initEntry ?_⟩
  refine PySem.W.exc_init_tree (cls := .ref C) (t0 := t1) (dv := none) (c2 := .none) (c3 := .none) (b4 := .bool false) ho2 hus fun h3 k3 e3 _ => ?_
  have J := I2.write (t' := t + 1) (x := a) (e := a) (o := exo a C none) (by rw [ea]; exact True.intro) (.inl rfl) k3 ⟨_, e3⟩ (exo_ok e3)
  have eu : upd H a (exo a C none) = H := by
    funext b
    by_cases hb : b = a
    · rw [hb, upd_same, ea]
    · rw [upd_ne hb]
  rw [eu] at J
  exact q _ J
theorem sp_name1 {y : Str} {i : Nat} {v : V} {q p3 : PySem.Pos} (I : Inv X pins σ H s) (hN : X.N[i]? = some y) (hk : X.env.scope.names.lookup y = some .local) (e : σ[i]? = some (some v)) (hd : (y == ("__debug__" : Str)) = false) {Q : List Value → Shared → Prop} (h : ∀ us, us.length ≤ sizeLine → Q us s) :
    wpAny (model X.prog X.w) X.A (spliced (backTo p3 (starEach [.Name y q] X.env))) Q X.xe s := by
  show wpAny _ _ (spliced ((false, eval (.Name y q) X.env) :: backTo p3 (starEach [] X.env))) _ _ s
  exact Calls.spliced_cons (wpAny_Name (ld_par I hN hk e fun u _ => Calls.spliced_nil (h [u] (by show 1 ≤ sizeLine; decide))) hd)
end
section
variable {CX : CXT} {P : Program} {w : World} {K : PySem.W.Frag} {mg : Str → Option Value} {base : Heap} {k : Nat} {C f cc : Addr} {N ps : List Str} {sp : Sp}
/-- such a def by its body -/
theorem exc_init {fd : FuncData} {F : NdefX.NF} {sf : Str} {es : List Expr} {rest : List Stmt} {p0 p1 p2 p3 p4 : PySem.Pos} {pl : Env → Sem Bool} (S : SupC P K C f F.c cc fd sf)
    (hfd : ∃ kV doc pm an ct, fd = PySem.W.fnX F.name F.qual F.params F.body F.scope F.cl .none kV doc pm an (.ref F.c) ct) (hcl : F.cl = [(("__class__" : Str), cc)]) (hcd : PySem.W.codeIn K (.ref F.c) F.qual = true) (NS : NdefX.NScope N ps ["__class__"] F.scope)
    (hb : F.body = .Expr (.Call (.Attribute (.Call (.Name "super" p0) [] [] p1) "__init__" p2) es [] p3) p4 :: rest) (hm : mg "super" = none) (h0 : N[0]? = some sf) (hsf : F.scope.names.lookup sf = some .local) (hks : F.scope.names.lookup ("super" : Str) = some .globalImplicit)
    (len : ∀ vs H Q E, sp vs H Q E → vs.length = ps.length)
    (hcons : ∀ env : Env, ∃ m r, backTo p3 (starEach es env) = (false, m) :: r) (hpl : ∀ env : Env, (backTo p3 (starEach es env)).any (·.1) = false)
    (he : ∀ env : Env, eval (.Call (.Attribute (.Call (.Name "super" p0) [] [] p1) "__init__" p2) es [] p3) env = (do
      let ov ← attributeBase (.Call (.Name "super" p0) [] [] p1) "__init__" env (eval (.Call (.Name "super" p0) [] [] p1) env)
      standAt p2.atName
      let (f, first) ← holding [ov] (getMethod ov "__init__" (pl env))
      callWith p3 f first (backTo p3 (starEach es env)) []))
    (hgo : ∀ (A : Around) (outer : List Env) (s : Shared) (H : Hp) (vs : List V) (Q : VK) (E : XK), Room k (A.deeper (NdefX.envF F f s.heap.objs.size)) → sp vs H Q E → ∃ a vs', vs = .ref a :: vs' ∧ OexC K C ∧ H a = some (exo a C none) ∧
      (∀ s', Inv (NdefX.ncx CX P w K mg base N F f A outer s H E) [] (NdefX.startF N vs [some (.ref C)]) H s' → ∀ (Q : List Value → Shared → Prop), (∀ us, us.length ≤ sizeLine → Q us s') → wpAny (model P w) (A.deeper (NdefX.envF F f s.heap.objs.size)) (spliced (backTo p3 (starEach es (NdefX.envF F f s.heap.objs.size)))) Q (NdefX.ncx CX P w K mg base N F f A outer s H E).xe s') ∧
      ∃ t, PSs (NdefX.ncx CX P w K mg base N F f A outer s H E) rest t ∧ t { nx := fun _ H' => Q .non H', rt := Q } (NdefX.startF N vs [some (.ref C)]) H) : FnOk P w K mg base CX (k + 1) f fd ps sp := by
  refine ⟨len, fun A outer s H args us vs Q E hr e0 hbd r hsp => ?_⟩
  have hl := len _ _ _ _ hsp
  obtain ⟨kV, doc, pm, an, ct, rfl⟩ := hfd
  obtain ⟨oc, od, osl, lk⟩ := S.fn
  obtain ⟨cl, cld, csl, hcell⟩ := S.cell
  have KX : K.In s.heap := e0.mod.kin.keeps fun b o e => (e0.bs b o e).1
  have lim : s.heap.NoLimit := e0.mod.nolimit.keeps fun b o e => (e0.bs b o e).1
  refine PySem.ks_codeAny_call_defAt (body := F.body) hr.depth (KX _ _ lk) rfl lim (PySem.W.codeRec_of KX hcd) rfl hbd NS.nocell (fun ⟨n, v⟩ hy => NS.par n (List.of_mem_zip hy).1) (fun h₁ hns kp => ?_) NS.co NS.gen NS.kind
  obtain ⟨a, vs', rfl, T, ea, hargs, t, ht, hq⟩ := hgo A outer s H vs Q E (hr.deeper _) hsp
  have hccH : H cc = none := (e0.bs cc _ (e0.mod.kin _ _ hcell)).2
  have hccI : s.heap.IsCell cc (some (.ref C)) := ⟨_, KX _ _ hcell, rfl⟩
  have lk1 : ∀ y c, F.cl.lookup y = some c → y = "__class__" ∧ c = cc := fun y c h => by
    rw [hcl] at h
    by_cases e : y = ("__class__" : Str)
    · subst e
      simp [List.lookup] at h
      exact ⟨rfl, h.symm⟩
    · have e' : (y == ("__class__" : Str)) = false := by simpa using e
      simp [List.lookup, e'] at h
  have hcc : F.cl.lookup ("__class__" : Str) = some cc := by rw [hcl]; simp [List.lookup]
  have C1 : NdefX.CellsAt F.cl ["__class__"] [some (.ref C)] s.heap H := {
    len := rfl
    all := fun y c h => by
      obtain ⟨_, rfl⟩ := lk1 y c h
      exact ⟨hccH, _, hccI⟩
    inj := fun x y c h1 h2 => (lk1 x c h1).1.trans (lk1 y c h2).1.symm
    has := fun i y h => by
      cases i with
      | succ i => simp at h
      | zero =>
        simp at h
        subst h
        refine ⟨cc, hcc, fun v hv => ?_⟩
        simp at hv
        subst hv
        exact ⟨_, rfl, hccI⟩ }
  have I : Inv (NdefX.ncx CX P w K mg base N F f A outer s H E) [] (NdefX.startF N (.ref a :: vs') [some (.ref C)]) H { s with heap := h₁, toks := s.toks + (ps.zip us).length } := NdefX.inv_startN NS hr.hd e0 hl r C1 hns kp
  show PySem.wpAt (model P w) (A.deeper (NdefX.envF F f s.heap.objs.size)) (.func F.body (NdefX.envF F f s.heap.objs.size)) (execs F.body (NdefX.envF F f s.heap.objs.size)) _ _ _
  rw [hb]
  refine PySem.ks_wpAt_execs_cons ?_
  refine ws_super (X := NdefX.ncx CX P w K mg base N F f A outer s H E) (a := a) (cc := cc) S I T ea hks (NS.frk _ (List.mem_singleton_self _)) rfl rfl hcc hm h0 hsf rfl hargs (hpl _) (by unfold interactive; simp [show (NdefX.ncx CX P w K mg base N F f A outer s H E).env.scope.kind = .function from NS.kind]) (hcons _) (he _) fun s' J => ?_
  show PySem.wpAt _ _ _ (execs rest _) _ _ _
  refine PySem.wpAt_of_wpAny (wpAny_mono (ht.run [] s' _ H _ J hq) (fun fl s2 hs => ?_) fun e s2 hs => hs)
  have fin : ∀ {σ' : L2.St} {H' : Hp} {v : V} {u : Value}, Inv (NdefX.ncx CX P w K mg base N F f A outer s H E) [] σ' H' s2 → L2.RelV v u → Q v H' → CE outer P w H s Q u s2 :=
    fun {σ' H' v u} J rv q => ⟨v, H', J.os, J.bare, J.base, J.hok, rv, q⟩
  cases fl with
  | ret u =>
    obtain ⟨v, σ', H', J, rv, q⟩ := hs
    exact fin J rv q
  | next =>
    obtain ⟨σ', H', J, q⟩ := hs
    exact fin (v := V.non) (u := Value.none) J rfl q
  | brk =>
    obtain ⟨_, _, _, q⟩ := hs
    exact False.elim q
  | cont =>
    obtain ⟨_, _, _, q⟩ := hs
    exact False.elim q
end
end Cw
set_option Elab.async false
set_option linter.all false
set_option maxRecDepth 100000
set_option maxHeartbeats 4000000
/-! own exceptions with fields: made, raised -/
namespace Cw
open PySem PySem.Spec L2
/-- what the top has left of such a class; st: its __init__ -/
structure ExcE (P : Program) (K : PySem.W.Frag) (mg : Str → Option Value) (x : Str) (B : Addr) (qual : Str) (st : Stmt) : Prop where
  «at» : mg x = some (.ref B)
  oex : OexC K B
  xf : XfC K B
  ec : ExcC K B
  init : ∃ (f cda cc : Addr) (fd : FuncData) (kV doc pm : Value) (an : Option Addr) (ct : Value), PySem.W.findIn K (.ref B) "__init__" = some (some (.ref f)) ∧ PySem.W.typeIn K (.ref f) = some (.type "function") ∧
    fd = PySem.W.fnX "__init__" qual (defArgs st) (defBody st) (defScope st) [(("__class__" : Str), cc)] .none kV doc pm an (.ref cda) ct ∧ PySem.W.codeIn K (.ref cda) qual = true ∧ SupC P K B f cda cc fd "self"
/-- its __init__: g tells the fields of the arguments -/
def spE (B : Addr) (n : Nat) (g : List V → List (Str × V)) : Sp := fun vs H Q _ => ∃ (a : Addr) (ws : List V), vs = .ref a :: ws ∧ ws.length = n ∧ H a = some (exo a B none) ∧
  ∀ d H', H d = none → d ≠ a → H' a = some (exo a B (some d)) → H' d = some (exd d (g ws)) → (∀ b, b ≠ a → b ≠ d → H' b = H b) → Q .non H'
structure XDef (P : Program) (w : World) (K : PySem.W.Frag) (mg : Str → Option Value) (base : Heap) (k : Nat) (x : Str) (B : Addr) (n : Nat) (g : List V → List (Str × V)) : Prop where
  «at» : mg x = some (.ref B)
  oex : OexC K B
  ex : ∃ (f : Addr) (fd : FuncData) (ps : List Str), PySem.W.findIn K (.ref B) "__init__" = some (some (.ref f)) ∧ PySem.W.typeIn K (.ref f) = some (.type "function") ∧ Binds K fd ps [] ∧ FnOk P w K mg base CX0 k f fd ps (spE B n g)
theorem XDef.mono {P : Program} {w : World} {K : PySem.W.Frag} {mg : Str → Option Value} {base : Heap} {j k : Nat} {x : Str} {B : Addr} {n : Nat} {g : List V → List (Str × V)} (D : XDef P w K mg base j x B n g) (h : j ≤ k) : XDef P w K mg base k x B n g := by
  obtain ⟨f, fd, ps, a, b, c, d⟩ := D.ex
  exact ⟨D.at, D.oex, f, fd, ps, a, b, c, d.mono h⟩
section
variable {X : Cx} {k n : Nat} {x : Str} {B : Addr} {g : List V → List (Str × V)} {e : Expr} {es : List Expr} {ta : TA} {p pos : PySem.Pos}
theorem pmk_E (D : XDef X.prog X.w X.K X.mg X.base k x B n g) (hr : Room (k + 1) X.A) (ha : PA X (e :: es) ta) (hg : Gl X x := by rfl) (hdb : (x == ("__debug__" : Str)) = false := by decide)
    (he : starEach (e :: es) X.env = (false, eval e X.env) :: starEach es X.env := by rfl) (hpl : (backTo pos (starEach es X.env)).any (·.1) = false := by rfl) : PMk X (.Call (.Name x p) (e :: es) [] pos) (tMkO B (spE B n g) [] ta) := by
  obtain ⟨f, fd, ps, a, b, c, d⟩ := D.ex
  exact pmk_oex D.oex a b d hr c .nil pass0 hg D.at ha hdb he hpl
end
/-- it is made -/
theorem v_mkE {B : Addr} {n : Nat} {g : List V → List (Str × V)} {H1 : Hp} {Q : XK} {ws : List V} (hl : ws.length = n) (hn : n ≤ 1000) (q : ∀ d, H1 d = none → Q (.ref B) (some d) (upd H1 d (.xd (g ws)))) :
    ws.length ≤ 1000 ∧ ∀ a, H1 a = none → spE B n g (.ref a :: (ws ++ [])) (upd H1 a (exo a B none)) (fun v H2 => v = .non ∧ ∃ (d : Addr) (fs : List (Str × V)), H2 a = some (exo a B (some d)) ∧ H2 d = some (exd d fs) ∧ H1 d = none ∧ Q (.ref B) (some d) (upd (del H2 a) d (.xd fs))) (fun _ _ _ => False) := by
  refine ⟨by omega, fun a ha => ⟨a, ws ++ [], rfl, by rw [List.append_nil]; exact hl, upd_same, fun d H' hd nd ea ed kp => ?_⟩⟩
  rw [List.append_nil] at ed
  rw [upd_ne nd] at hd
  refine ⟨rfl, d, _, ea, ed, hd, ?_⟩
  have e : upd (del H' a) d (.xd (g ws)) = upd H1 d (.xd (g ws)) := by
    funext b
    by_cases h1 : b = d
    · rw [h1, upd_same, upd_same]
    · rw [upd_ne h1, upd_ne h1]
      by_cases h2 : b = a
      · rw [h2, del_same, ha]
      · rw [del_ne h2, kp b h2 h1, upd_ne h2]
  rw [e]
  exact q d hd
section
variable {P : Program} {w : World} {K : PySem.W.Frag} {mg : Str → Option Value} {base : Heap} {k : Nat} {x qual : Str} {B : Addr} {st : Stmt}
/-- one field -/
theorem ok_E1 {fld y : Str} {p0 p1 p2 p3 p4 q0 q1 q2 q3 q4 : PySem.Pos} {pl : Env → Sem Bool} (E : ExcE P K mg x B qual st) (hs : mg "super" = none) (hno : PySem.W.findIn K (.ref B) fld = some none)
    (hb : defBody st = [.Expr (.Call (.Attribute (.Call (.Name "super" p0) [] [] p1) "__init__" p2) [.Name y q4] [] p3) p4, .Assign [.Attribute (.Name "self" q0) fld q1] (.Name y q2) q3])
    (NS : NdefX.NScope ["self", y, "__class__"] ["self", y] ["__class__"] (defScope st)) (hks : (defScope st).names.lookup ("super" : Str) = some .globalImplicit) (hd : (y == ("__debug__" : Str)) = false) (hd2 : (y == ("__classdict__" : Str)) = false)
    (hbd : ∀ (kV doc pm : Value) (an : Option Addr) (cda cc : Addr) (ct : Value) (us : List Value), us.length = 2 → bindArgs (PySem.W.fnX "__init__" qual (defArgs st) (defBody st) (defScope st) [(("__class__" : Str), cc)] .none kV doc pm an (.ref cda) ct) ⟨us, []⟩ = pure ((["self", y] : List Str).zip us))
    (he : ∀ env : Env, eval (.Call (.Attribute (.Call (.Name "super" p0) [] [] p1) "__init__" p2) [.Name y q4] [] p3) env = (do
      let ov ← attributeBase (.Call (.Name "super" p0) [] [] p1) "__init__" env (eval (.Call (.Name "super" p0) [] [] p1) env)
      standAt p2.atName
      let (f, first) ← holding [ov] (getMethod ov "__init__" (pl env))
      callWith p3 f first (backTo p3 (starEach [.Name y q4] env)) [])) :
    XDef P w K mg base (k + 1) x B 1 (fun ws => [(fld, ws.getD 0 .non)]) := by
  obtain ⟨f, cda, cc, fd, kV, doc, pm, an, ct, hi, ht, hfd, hcd, S⟩ := E.init
  refine ⟨E.at, E.oex, f, fd, ["self", y], hi, ht, .all fun us hl => by rw [hfd]; exact hbd kV doc pm an cda cc ct us hl, ?_⟩
  have ls := NS.par "self" (by simp)
  have ly := NS.par y (by simp)
  refine exc_init (F := ⟨"__init__", qual, defArgs st, defBody st, defScope st, [(("__class__" : Str), cc)], cda⟩) S ⟨kV, doc, pm, an, ct, hfd⟩ rfl hcd NS hb hs rfl ls hks (fun vs H Q E h => ?_) (fun env => ⟨_, _, rfl⟩) (fun env => rfl) he fun A outer s H vs Q E' hr h => ?_
  · obtain ⟨a, ws, rfl, hw, _⟩ := h
    show ws.length + 1 = 2
    omega
  obtain ⟨a, ws, rfl, hw, ea, q⟩ := h
  obtain ⟨v, rfl⟩ : ∃ v, ws = [v] := by
    match ws, hw with
    | [v], _ => exact ⟨v, rfl⟩
  refine ⟨a, [v], rfl, E.oex, ea, fun s' I Q h => sp_name1 (i := 1) (v := v) I rfl ly rfl hd h, _, pss_one (ps_ost (pe_var (i := 0) rfl (Or.inl ls)) (pe_var (i := 1) rfl (Or.inl ly) hd hd2)), ?_⟩
  refine ⟨v, rfl, .ref a, rfl, a, B, rfl, E.oex, hno, .inl ⟨ea, fun d hd nd => ?_⟩⟩
  refine q d _ hd nd upd_same (by rw [upd_ne nd, upd_same]; rfl) fun b h1 h2 => by rw [upd_ne h1, upd_ne h2]
end
end Cw
set_option Elab.async false
set_option linter.all false
set_option maxRecDepth 100000
set_option maxHeartbeats 4000000
/-! in the suite: an own exception with fields -/
namespace Cw
open PySem PySem.Spec L2
def rIsEd (K : PySem.W.Frag) (D a : Addr) (d : Option Addr) : List V → Hp → VK → Prop := fun xs H Q => ∃ (dd : Addr) (fs : List (Str × V)) (c : V) (cv : Value) (b : Bool), d = some dd ∧ H dd = some (.xd fs) ∧ xs = [.ref a, c] ∧ (∀ u, RelV c u → u = cv) ∧ PySem.W.kitOne K (.ref D) cv = some b ∧ Q (.bl b) H
theorem call_isEd {X : Cx} {a D : Addr} {oe : Obj} {d : Option Addr} {cls : Value} {pn : List (Addr × Obj)} (C : ExcC X.K D) (hc : cls = .ref D) (hz : Zc cls d oe) (hf : ∃ vs, oe.data = .fields vs) : CallR (X.suite a ((a, oe) :: pn)) (.builtin "isinstance") (rIsEd X.K D a d) := by
  intro pins s σ H xs us Q I r h
  obtain ⟨dd, fs, c, cv, b, rfl, ea, rfl, hcv, e, q⟩ := h
  subst hc
  cases r with
  | cons rx rr =>
    cases rr with
    | cons rt rr =>
      cases rr
      cases rx
      have ec := hcv _ rt
      subst ec
      obtain ⟨ha, _⟩ := I.pin (a, oe) (List.mem_append_left _ List.mem_cons_self)
      obtain ⟨vs, hd⟩ := hf
      have hx : ObjOk X.prog X.w H s.heap dd (.xd fs) := I.hok dd _ ea
      obtain ⟨mA, hns, hr⟩ := hx
      obtain ⟨od, ho, hl⟩ := lookIn_ns hns
      have J : PySem.W.InstAt s.heap a oe D (some od) := ⟨ha, hz.1, by unfold PySem.W.notCls; rw [hd] <;> rfl, by rw [hz.2]; exact ho⟩
      have hcl : (PySem.W.clsIn X.K D).isSome = true := by
        have hd := C.hd
        unfold PySem.W.hasDictIn at hd
        obtain ⟨cd, hc, _⟩ := PySem.W.any_some hd
        rw [hc]
        rfl
      refine PySem.W.kia_one (PySem.W.kitx_exc hcl C.hg C.hk C.hs C.ha C.hn C.ht C.hm) I.kIn J e (fun z => nomatch z) fun tk => ⟨.bl b, H, I.kept (t' := tk) fun _ _ z => z, rfl, q⟩
end Cw
set_option Elab.async false
set_option linter.all false
set_option maxRecDepth 100000
set_option maxHeartbeats 4000000
/-! several except clauses that name what they caught -/
namespace Cw
open PySem PySem.Spec PyProof.Rows L2
/-- a clause's ends: its name goes -/
def gone (i : Nat) (D : Ends) : Ends := { nx := fun σ' H' => D.nx (σ'.set i none) H', rt := D.rt, bk := fun σ' H' => D.bk (σ'.set i none) H', ct := fun σ' H' => D.ct (σ'.set i none) H' }
def wManyA (K : PySem.W.Frag) (i m : Nat) (Wout : WX) (D : Ends) : List (Value × (Addr → Value → Option Addr → TS)) → WX
  | [] => Wout
  | (c, ts) :: r => fun cls d σ H => ∃ b, PySem.W.exmOne K cls c = some b ∧ (b = true → ∀ a, H a = none → σ.length = m → ts a cls d (gone i D) (σ.set i (some (.ref a))) H) ∧ (b = false → wManyA K i m Wout D r cls d σ H)
inductive HdsA (X : Cx) (n : Str) : List ExceptHandler → List (Value × (Addr → Value → Option Addr → TS)) → Prop
  | nil : HdsA X n [] []
  | cons {x : Str} {c : Value} {ts : Addr → Value → Option Addr → TS} {b₀ : Stmt} {suite : List Stmt} {np pos' : PySem.Pos} {hds : List ExceptHandler} {l : List (Value × (Addr → Value → Option Addr → TS))} (hc : Names X x c)
      (hsu : ∀ (a : Addr) (oe : Obj) (cls : Value) (d : Option Addr) (pn : List (Addr × Obj)), Zc cls d oe → (∃ vs, oe.data = .fields vs) → PSs (X.suite a ((a, oe) :: pn)) (b₀ :: suite) (ts a cls d)) (r : HdsA X n hds l) :
      HdsA X n (.ExceptHandler (some (.Name x np)) (some n) (b₀ :: suite) pos' :: hds) ((c, ts) :: l)
section
variable {X : Cx} {n : Str} {i : Nat} {body : List Stmt} {h₀ : ExceptHandler} {hds : List ExceptHandler} {l : List (Value × (Addr → Value → Option Addr → TS))} {pos : PySem.Pos} {tb : WX → TS} {Wout : WX}
theorem ps_try_manyA (hs : X.stack = X.env :: X.outer) (hf : X.env.frame = some X.env.locals) (hN : X.N.Nodup) (hi : X.N[i]? = some n) (hln : X.env.kindOf n = some .local) (tk : Takes X Wout)
    (hb : ∀ (W : WX) (pn : List (Addr × Obj)) (xe : Value → Shared → Prop), Takes (X.tr pn xe) W → PassesOwn (model X.prog X.w) X.A X.env xe → PSs (X.tr pn xe) body (tb W))
    (hh : HdsA X n (h₀ :: hds) l) : PS X (.Try body (h₀ :: hds) [] [] pos) (fun D σ H => tb (wManyA X.K i X.N.length Wout D l) D σ H) := by
  refine ⟨fun pins s σ H D I h => ?_⟩
  have ok := I.ok
  have hfr : X.A.frames = some (X.env :: X.outer) := by rw [ok.frames, hs]
  have hloc : Loc X.env.scope n := .inl hln
  refine wpAny_Try_except ?_
  refine wpAny_mono ((hb (wManyA X.K i X.N.length Wout D l) (X.pn ++ pins) (fun e s₁ => wpAny (model X.prog X.w) X.A (noteFrame e X.env) (fun _ s₂ => wpAny (model X.prog X.w) X.A (setFlight e none) (fun _ s₃ =>
    wpAny (model X.prog X.w) X.A (handleBy e X.env (h₀ :: hds)) (SP X pins D) X.xe s₃) X.xe s₂) X.xe s₁) (fun u s' xx => ?_) PassesOwn.looking).run [] s σ H D (I.toTry _) h) (fun f s1 hsp => ?_) (fun e s1 he => he)
  · obtain ⟨a, B, sI, pins', σ', H', cls, d, rfl, J', nb, up, sky, na, os, ag, w⟩ := xx
    have J : Inv X pins σ' H' sI := J'.ofTry ok
    have sky' : Sky B (X.env :: X.outer) a (Zc cls d) X.env.locals s'.heap := by rw [← hs]; exact sky
    show wpAny (model X.prog X.w) X.A (noteFrame (.ref a) X.env) _ _ _
    refine Sky.land Zc.steady hfr hf sky' fun h3 fl3 up3 => ?_
    have J3 : Inv X pins σ' H' { s' with heap := h3 } := J.landed nb fl3.1 (up.trans up3) os ag
    obtain ⟨oe3, vs3, he3, hz3, hd3⟩ := fl3.there
    have notFr : ∀ {h : Heap} {o : Obj} {vs : Array Value}, h.FunFrames B (X.env :: X.outer) → h.get? a = some o → o.data = .fields vs → a ∉ frs (X.env :: X.outer) := fun {h o vs} ff e dd hm => by
      obtain ⟨_, o', e', hnf⟩ := ff.mem hm
      rw [e] at e'; cases e'
      exact hnf _ dd
    have nfr := notFr fl3.2.2.1 he3 hd3
    have nL : a ≠ X.env.locals := fun z => nfr (List.mem_filterMap.mpr ⟨X.env, List.mem_cons_self, by rw [hf, z]⟩)
    have nF : a ∉ X.fs := fun hm => by
      obtain ⟨e, he, q⟩ := List.mem_filterMap.mp hm
      exact nfr (List.mem_filterMap.mpr ⟨e, List.mem_cons_of_mem _ he, q⟩)
    have S3 := J3.suite he3 hd3 na nL nF
    have go : ∀ {hds' : List ExceptHandler} {l' : List (Value × (Addr → Value → Option Addr → TS))}, HdsA X n hds' l' → wManyA X.K i X.N.length Wout D l' cls d σ' H' →
        wpAny (model X.prog X.w) X.A (handleBy (.ref a) X.env hds') (SP X pins D) X.xe { s' with heap := h3 } := by
      intro hds' l' hk
      induction hk with
      | nil =>
        intro w
        refine wpAny_handleBy_nil ?_
        obtain ⟨k1, k2, k3, oe, vs, T, oT, ts', he, hz, hd, h1, hr⟩ := id fl3
        unfold PySem.passOn
        refine wpAny_bind (wpAny_field he hd h1 ?_)
        rw [if_neg (show ¬ ((Value.ref T == Value.none) = true) from by simp)]
        have fin : wpAny (model X.prog X.w) X.A (setFlight (.ref a) X.env.frame) (fun _ s4 => wpAny (model X.prog X.w) X.A (throw (.ref a) : Sem Flow) (SP X pins D) X.xe s4) X.xe { s' with heap := h3 } := by
          rw [hf]
          refine HandSPX.setFlight_upZ fl3 fun h4 hh4 up4 => wpAny_throw (tk _ _ ?_)
          exact ⟨a, B, sI, pins, σ', H', cls, d, rfl, J, nb, (up.trans up3).trans up4, .inr (.inr (by rw [hs]; exact hh4)), na, os, ag, w⟩
        first
          | exact wpAny_bind (wpAny_pure (wpAny_bind fin))
          | exact wpAny_bind fin
      | @cons x c ts b₀ suite np pos' hds2 l2 hc hsu r ih =>
        intro w
        obtain ⟨b, hb1, hyes, hno⟩ := w
        refine wpAny_handleBy_cons (codeAny_handlers_test ?_) (by intro q; cases q)
        have LT : PySem.W.Looks (model X.prog X.w) h3 (typeOf (.ref a)) cls := fun A Q E s k q => wpAny_typeOf_ref (k _ _ he3) (by rw [hz3.1]; exact q)
        have LM := PySem.W.exm_one (M := model X.prog X.w) (J3.kIn) LT hb1
        have test : ∀ {Q : Value → Shared → Prop} {E : Value → Shared → Prop}, Q c { s' with heap := h3 } → wpAny (model X.prog X.w) (X.A.mark (some (.ref a))) (eval (.Name x np) X.env) Q E { s' with heap := h3 } := fun {Q E} q => by
          obtain ⟨hg, hdbg, hm | ⟨hm, hv, hnn⟩⟩ := hc
          · exact ld_glob (X := X.suite a ((a, oe3) :: (X.pn ++ pins))) S3 hg hm q hdbg
          · exact ld_blt (X := X.suite a ((a, oe3) :: (X.pn ++ pins))) S3 hg hm hv q hnn hdbg
        refine test (LM.here ?_)
        cases b with
        | true =>
          refine codeAny_handlers_suite_as ?_
          refine HandSPX.lands_againZ fl3 fun h4 fl4 up4 => ?_
          have J4 : Inv X pins σ' H' { s' with heap := h4 } := J.landed nb fl4.1 ((up.trans up3).trans up4) os ag
          obtain ⟨oe4, vs4, he4, hz4, hd4⟩ := fl4.there
          have S4 := J4.suite he4 hd4 na nL nF
          refine store_ok (X := X.suite a ((a, oe4) :: (X.pn ++ pins))) (v := .ref a) S4 hN hi hloc rfl (fun s5 S5 => ?_) (.inr hln)
          refine wpAny_mono ((hsu a oe4 cls d (X.pn ++ pins) hz4 ⟨_, hd4⟩).run [] s5 _ H' _ S5 (hyes rfl a na J.len)) (fun f s6 hsp => ?_) (fun _ _ z => False.elim z)
          have end_ : ∀ {σ6 : L2.St} {H6 : Hp} {Q : Shared → Prop}, Inv (X.suite a ((a, oe4) :: (X.pn ++ pins))) [] σ6 H6 s6 → (∀ s7, Inv X pins (σ6.set i none) H6 s7 → Q s7) →
              wpAny (model X.prog X.w) X.A (do bindName X.env n .none; unbindBehindTheSuite X.env n pos') (fun _ s7 => Q s7) X.xe s6 := fun {σ6 H6 Q} S6 hq => gone_ok (S6.unsuite ok) hN hi hln hq
          cases f with
          | next =>
            obtain ⟨σ6, H6, S6, q6⟩ := hsp
            exact end_ S6 fun s7 J7 => ⟨_, _, J7, q6⟩
          | brk =>
            obtain ⟨σ6, H6, S6, q6⟩ := hsp
            exact end_ S6 fun s7 J7 => ⟨_, _, J7, q6⟩
          | cont =>
            obtain ⟨σ6, H6, S6, q6⟩ := hsp
            exact end_ S6 fun s7 J7 => ⟨_, _, J7, q6⟩
          | ret u =>
            obtain ⟨v6, σ6, H6, S6, r6, q6⟩ := hsp
            exact end_ S6 fun s7 J7 => ⟨_, _, _, J7, r6, q6⟩
        | false =>
          show wpAny _ X.A (handleBy (.ref a) X.env hds2) _ _ _
          exact ih (hno rfl)
    exact go hh w
  · cases f with
    | next =>
      obtain ⟨σ', H', J', q⟩ := hsp
      exact wpAny_execs_nil ⟨σ', H', J'.ofTry ok, q⟩
    | brk =>
      obtain ⟨σ', H', J', q⟩ := hsp
      exact ⟨σ', H', J'.ofTry ok, q⟩
    | cont =>
      obtain ⟨σ', H', J', q⟩ := hsp
      exact ⟨σ', H', J'.ofTry ok, q⟩
    | ret u =>
      obtain ⟨v, σ', H', J', r, q⟩ := hsp
      exact ⟨v, σ', H', J'.ofTry ok, r, q⟩
end
theorem e_mkE {C : Addr} {sp : Sp} {dvs : List V} {ta : TA} {σ : L2.St} {H : Hp} {Q : XK} (q : ta σ H fun vs H1 => vs.length ≤ 1000 ∧ ∀ a, H1 a = none → sp (.ref a :: (vs ++ dvs)) (upd H1 a (exo a C none))
  (fun v H2 => v = .non ∧ ∃ (d : Addr) (fs : List (Str × V)), H2 a = some (exo a C (some d)) ∧ H2 d = some (exd d fs) ∧ H1 d = none ∧ Q (.ref C) (some d) (upd (del H2 a) d (.xd fs))) (fun _ _ _ => False)) : tMkO C sp dvs ta σ H Q := q
end Cw
set_option Elab.async false
set_option linter.all false
set_option maxRecDepth 100000
set_option maxHeartbeats 4000000
/-! C(..) whose __init__ may raise -/
namespace Cw
open PySem PySem.Spec L2
section
variable {P : Program} {w : World} {K : PySem.W.Frag} {mg : Str → Option Value} {base : Heap} {k : Nat} {C : Addr} {x qual : Str} {ps N : List Str} {sp sp0 : Sp} {st : Stmt} {dvs : List V}
theorem MAtD.makeX (F : MAtD K C "__init__" qual st dvs) (cf : ClsF K mg x C) (S : FnScope N ps (defScope st)) (hd : dvs ≠ [])
    (hb : ∀ (T : Addr) (kV doc pm : Value) (an : Option Addr) (cdv ct : Value) (us its : List Value), us.length = ps.length → its.length = dvs.length →
      ∃ k, bindArgs (PySem.W.fnOf "__init__" qual (defArgs st) (defBody st) (defScope st) (.ref T) kV doc pm an cdv ct) ⟨us, []⟩ = seqItems? (.ref T) >>= k ∧ k (some its.toArray) = pure (ps.zip (us ++ its.drop dvs.length)))
    (len : ∀ vs H Q E, sp0 vs H Q E → vs.length = ps.length) (cv : Conv C sp0 sp)
    (hbody : ∀ (f : Addr) (cdv : Value) (A : Around) (outer : List Env) (s : Shared) (H : Hp) (vs : List V) (Q : VK) (E : XK), Room k (A.deeper (PyProof.Rows.envOfC qual (defScope st) s.heap.objs.size f cdv)) → sp0 vs H Q E →
      ∃ t, PSs (cxOf (L2.CX P w) P w K mg base N qual (defScope st) f cdv A outer s H E) (defBody st) t ∧ t { nx := fun _ H' => Q .non H', rt := Q } (start N vs) H) : CMk P w K mg base (L2.CX P w) (k + 1) x C sp ps qual st dvs := by
  obtain ⟨f, fd, h1, h2, F⟩ := F.ex
  have B : Binds K fd ps [] := by
    obtain ⟨ds, r, b⟩ := F.binds1 (ps := ps) ps.length dvs.length hd (by omega) fun T kV doc pm an cdv ct us its l1 l2 => hb T kV doc pm an cdv ct us its l1 l2
    rw [List.drop_of_length_le (Nat.le_refl _)] at r
    cases r
    exact b
  exact ⟨f, fd, sp0, cf.at, ⟨cf.mks, h1, h2, cf.kp⟩, B, F.ok S len fun cdv A outer s H vs Q E hr h => hbody f cdv A outer s H vs Q E hr h, cv, F⟩
end
end Cw
set_option Elab.async false
set_option linter.all false
set_option maxRecDepth 100000
set_option maxHeartbeats 4000000
/-! x + y, x * y of two objects of one own class -/
namespace PySem.W
open PySem PySem.Calls PyProof.Rows Builtin
section
variable {prog : Program} {w : World} {A : Around} {E : Value → Shared → Prop} {s : Shared} {K : Frag} {x y C L f : Addr} {h0 : Heap} {m : Str → Option Value} {ox oy : Obj} {od ody : Option Obj}
theorem binop_same (op : Operator) (nm : String) (hop : (op = .Add ∧ nm = "add") ∨ (op = .Mult ∧ nm = "mul")) {Q : Value → Shared → Prop} (F : Fr h0 L s.heap m) (X0 : K.In h0) (I : InstAt s.heap x ox C od) (J : InstAt s.heap y oy C ody) (hc : selfFirst K C = true)
    (hs : findIn K (.ref C) (PySem.dunder nm) = some (some (.ref f))) (hf : isFn K (.ref f) = true)
    (h : wpAny (model prog w) A (call (.ref f) [.ref x, .ref y]) (CmpBack Q) E s) : wpAny (model prog w) A (binaryOp op (.ref x) (.ref y)) Q E s := by
  have X := X0.keeps F.keep
  obtain ⟨cd, hcd, hm⟩ := any_some hc
  obtain ⟨rest, hm⟩ : ∃ rest, cd.mro = .ref C :: rest := by
    cases q : cd.mro with
    | nil => rw [q] at hm; cases hm
    | cons a r => rw [q] at hm; exact ⟨r, by rw [List.head?_cons] at hm; cases (beq_iff_eq.mp hm); rfl⟩
  have ne : (Value.ref C == Value.ref C) = true := by simp
  rcases hop with ⟨rfl, rfl⟩ | ⟨rfl, rfl⟩
  all_goals
    unfold binaryOp
    refine wpAny_holding (wpAny_bind ?_)
    unfold binaryOp1
    refine wpAny_bind (I.type.here (wpAny_bind (J.type.here (wpAny_bind ((fills_K X hcd hm hs).here ?_)))))
    simp only [ne, if_true]
    refine wpAny_bind (wpAny_pure ?_)
    simp only [Bool.and_false, Bool.false_eq_true, if_false, Bool.false_and]
    refine wpAny_bind (wpAny_pure ?_)
    simp only [Bool.false_eq_true, if_false, if_true]
    refine wpAny_bind (m := tryMethod (.ref x) _ (.ref y)) ?_
    unfold tryMethod
    refine wpAny_bind (special_fn X I hs (beq_iff_eq.mp hf) (wpAny_mono h (fun v s' hv => ?_) fun _ _ e => e))
    cases v <;> first | exact hv.elim | exact wpAny_pure (wpAny_pure (wpAny_pure hv))
end
end PySem.W
namespace Cw
open PySem PySem.Spec L2
section
variable {X : Cx} {CX : CXT} {k : Nat} {C : Addr} {m : Str} {ps : List Str} {sp : Sp} {E : XK}
/-- o op p, of one class, by the class's own method -/
def rMP (C : Addr) (sp : Sp) (E : XK) : R2 := fun x y H Q => ∃ a dx fs b dy gs, x = .ref a ∧ y = .ref b ∧ H a = some (.ins C dx fs) ∧ H b = some (.ins C dy gs) ∧ sp [.ref a, .ref b] H Q E
theorem op_sameM (op : Operator) (nm : String) (hop : (op = .Add ∧ nm = "add") ∨ (op = .Mult ∧ nm = "mul")) (D : MDef X.prog X.w X.K X.mg X.base CX k C (PySem.dunder nm) ps sp) (hc : PySem.W.selfFirst X.K C = true) (hr : Room k X.A) (hx : Passes CX X E) : OpR X (binaryOp op) (rMP C sp E) := by
  obtain ⟨f, fd, h1, h2, kp, ⟨hb, _⟩, F⟩ := D.ex
  intro pins s σ H x y v u Q I rx ry h
  obtain ⟨a, dx, fs, b, dy, gs, rfl, rfl, ha, hb', hq⟩ := h
  cases rx
  cases ry
  obtain ⟨mA, J, _⟩ := ins_get I.hok ha
  obtain ⟨od, J, _⟩ := J.look
  obtain ⟨mB, J2, _⟩ := ins_get I.hok hb'
  obtain ⟨od2, J2, _⟩ := J2.look
  obtain ⟨mm, hF⟩ := I.fr
  refine PySem.W.binop_same op nm hop hF I.ok.mod.kin J J2 hc h1 h2 ?_
  have z := run_fn (us := [.ref a, .ref b]) (vs := [.ref a, .ref b]) (dvs := []) F hr hb .nil hx I (.cons rfl (.cons rfl .nil)) hq
  refine wpAny_mono z (fun v s' q => ?_) fun _ _ q => q
  obtain ⟨y, H', I', r, q⟩ := q
  have k : EP X pins σ Q v s' := ⟨y, H', I', r, q⟩
  cases v <;> first | exact k | (exfalso; cases y <;> first | (obtain ⟨_, r⟩ := r; cases r) | cases r)
theorem op_addP (D : MDef X.prog X.w X.K X.mg X.base CX k C "__add__" ps sp) (hc : PySem.W.selfFirst X.K C = true) (hr : Room k X.A) (hx : Passes CX X E) : OpR X (binaryOp .Add) (rMP C sp E) := op_sameM .Add "add" (.inl ⟨rfl, rfl⟩) D hc hr hx
end
end Cw
set_option Elab.async false
set_option linter.all false
set_option maxRecDepth 100000
set_option maxHeartbeats 4000000
/-! o + v, v any value, by o's own method -/
namespace PySem.W
open PySem PySem.Calls PyProof.Rows Builtin
section
variable {prog : Program} {w : World} {A : Around} {E : Value → Shared → Prop} {s : Shared} {K : Frag} {x C L f : Addr} {h0 : Heap} {m : Str → Option Value} {ox : Obj} {od : Option Obj}
theorem binop_any {b tb : Value} {right p : Bool} {ro rc : Option Value} {Q : Value → Shared → Prop} (F : Fr h0 L s.heap m) (X0 : K.In h0) (I : InstAt s.heap x ox C od) (hb : Looks (model prog w) s.heap (typeOf b) tb) (hne : (Value.ref C == tb) = false) (hc : selfFirst K C = true)
    (hs : findIn K (.ref C) (PySem.dunder "add") = some (some (.ref f))) (hf : isFn K (.ref f) = true) (hr : findIn K (.ref C) (dunderR "add") = some rc) (hp : rc = none ∨ ∃ g : Addr, rc = some (.ref g))
    (L4 : Looks (model prog w) s.heap (fillsNumberSlot tb "add") right) (L5 : Looks (model prog w) s.heap (isSubtype tb (.ref C)) false) (L7 : Looks (model prog w) s.heap (numberSlotInPython tb "add") p) (L8 : Looks (model prog w) s.heap (typeLookup tb (dunderR "add")) ro)
    (h : wpAny (model prog w) A (call (.ref f) [.ref x, b]) (CmpBack Q) E s) : wpAny (model prog w) A (binaryOp .Add (.ref x) b) Q E s := by
  have X := X0.keeps F.keep
  obtain ⟨cd, rest, hcd, hm⟩ := ksp_first hc
  have one := ksp_try X I hs hf h
  obtain ⟨hh, g, d, tt, os⟩ := s
  have L1 : Looks (model prog w) hh (typeOf (.ref x)) (.ref C) := I.type
  have L3 : Looks (model prog w) hh (fillsNumberSlot (.ref C) "add") true := fills_K X hcd hm hs
  have L6 : Looks (model prog w) hh (numberSlotInPython (.ref C) "add") true := ksp_inPy X hs hr hp
  have hi : Operator.Add.info.2 = "add" := rfl
  simp only [binaryOp, hi]
  refine wpAny_holding (wpAny_bind ?_)
  unfold binaryOp1
  refine wpAny_bind (L1.at (wpAny_bind (hb.at (wpAny_bind (L3.at ?_)))))
  simp only [hne, Bool.false_eq_true, if_false]
  cases right with
  | false =>
    ksp_lk
    refine wpAny_mono one (fun r s' hr' => ?_) fun _ _ e => e
    obtain ⟨v, rfl, hq⟩ := hr'
    ksp_lk
    exact hq
  | true =>
    cases p with
    | false =>
      ksp_lk
      refine wpAny_mono one (fun r s' hr' => ?_) fun _ _ e => e
      obtain ⟨v, rfl, hq⟩ := hr'
      ksp_lk
      exact hq
    | true =>
      ksp_lk
      refine wpAny_mono one (fun r s' hr' => ?_) fun _ _ e => e
      obtain ⟨v, rfl, hq⟩ := hr'
      ksp_lk
      exact hq
end
end PySem.W
namespace Cw
open PySem PySem.Spec PyProof.Rows L2
/-- what stands on the right, by its type: it is asked only behind o's own method -/
structure RightT (K : PySem.W.Frag) (C : Addr) (tb : Value) : Prop where
  ne : (Value.ref C == tb) = false
  ex : ∃ (right p : Bool) (ro : Option Value), ∀ (M : Model) (h : Heap), K.In h → PySem.W.Looks M h (fillsNumberSlot tb "add") right ∧ PySem.W.Looks M h (isSubtype tb (.ref C)) false ∧ PySem.W.Looks M h (numberSlotInPython tb "add") p ∧ PySem.W.Looks M h (typeLookup tb (dunderR "add")) ro
theorem RightT.ty {K : PySem.W.Frag} {C : Addr} {T : String} {fo ro : Option Value} (h1 : PySem.W.findIn K (.type T) (PySem.dunder "add") = some fo) (h2 : PySem.W.findIn K (.type T) (dunderR "add") = some ro) (h3 : PySem.W.subIn K (.type T) (.ref C) = some false) : RightT K C (.type T) :=
  ⟨Bool.eq_false_iff.mpr (fun q => by cases beq_iff_eq.mp q), _, false, ro, fun M h X => ⟨PySem.W.ksp_fillsT X h1 h2, PySem.W.looks_subIn X h3, PySem.W.Looks.of_pure rfl, PySem.W.looks_findIn X h2⟩⟩
theorem RightT.cls {K : PySem.W.Frag} {C C2 f2 : Addr} {rc : Option Value} (hc : PySem.W.selfFirst K C2 = true) (h1 : PySem.W.findIn K (.ref C2) (PySem.dunder "add") = some (some (.ref f2))) (h2 : PySem.W.findIn K (.ref C2) (dunderR "add") = some rc) (hp : rc = none ∨ ∃ g : Addr, rc = some (.ref g)) (h3 : PySem.W.subIn K (.ref C2) (.ref C) = some false) (hn : (Value.ref C == Value.ref C2) = false) : RightT K C (.ref C2) := by
  obtain ⟨cd, rest, hcd, hm⟩ := PySem.W.ksp_first hc
  exact ⟨hn, true, true, rc, fun M h X => ⟨PySem.W.fills_K X hcd hm h1, PySem.W.looks_subIn X h3, PySem.W.ksp_inPy X h1 h2 hp, PySem.W.looks_findIn X h2⟩⟩
section
variable {X : Cx} {CX : CXT} {k : Nat} {C : Addr} {ps : List Str} {sp : Sp} {E : XK}
/-- o + v, v of another type -/
def rMA (K : PySem.W.Frag) (C : Addr) (sp : Sp) (E : XK) : R2 := fun x y H Q => ∃ a dx fs tb, x = .ref a ∧ H a = some (.ins C dx fs) ∧ TyX K H y tb ∧ RightT K C tb ∧ sp [.ref a, y] H Q E
theorem op_addA (D : MDef X.prog X.w X.K X.mg X.base CX k C "__add__" ps sp) (hc : PySem.W.selfFirst X.K C = true) (hra : PySem.W.findIn X.K (.ref C) (dunderR "add") = some none) (hr : Room k X.A) (hx : Passes CX X E) : OpR X (binaryOp .Add) (rMA X.K C sp E) := by
  obtain ⟨f, fd, h1, h2, kp, ⟨hb, _⟩, F⟩ := D.ex
  intro pins s σ H x y v u Q I rx ry h
  obtain ⟨a, dx, fs, tb, rfl, ha, ty, ⟨hne, right, p, ro, ht⟩, hq⟩ := h
  cases rx
  obtain ⟨P, Z, hP, _⟩ := kit_of I ry ty
  obtain ⟨L4, L5, L7, L8⟩ := ht (model X.prog X.w) s.heap I.kIn
  obtain ⟨mA, J, _⟩ := ins_get I.hok ha
  obtain ⟨od, J, _⟩ := J.look
  obtain ⟨mm, hF⟩ := I.fr
  refine PySem.W.binop_any hF I.ok.mod.kin J (Z.ty _ _ I.kIn hP) hne hc h1 h2 hra (.inl rfl) L4 L5 L7 L8 ?_
  have z := run_fn (us := [.ref a, u]) (vs := [.ref a, y]) (dvs := []) F hr hb .nil hx I (.cons rfl (.cons ry .nil)) hq
  refine wpAny_mono z (fun v s' q => ?_) fun _ _ q => q
  obtain ⟨y', H', I', r, q⟩ := q
  have k : EP X pins σ Q v s' := ⟨y', H', I', r, q⟩
  cases v <;> first | exact k | (exfalso; cases y' <;> first | (obtain ⟨_, r⟩ := r; cases r) | cases r)
theorem op_addAK {K : PySem.W.Frag} (h : X.K = K) (D : MDef X.prog X.w X.K X.mg X.base CX k C "__add__" ps sp) (hc : PySem.W.selfFirst K C = true) (hra : PySem.W.findIn K (.ref C) (dunderR "add") = some none) (hr : Room k X.A) (hx : Passes CX X E) : OpR X (binaryOp .Add) (rMA K C sp E) := by
  subst h
  exact op_addA D hc hra hr hx
/-- o[v], v any value -/
def rMX (C : Addr) (sp : Sp) (E : XK) : R2 := fun x y H Q => ∃ a dx fs, x = .ref a ∧ H a = some (.ins C dx fs) ∧ sp [.ref a, y] H Q E
theorem pe_ixA {a b : Expr} {ta tb : TE} {pos : PySem.Pos} (D : MDef X.prog X.w X.K X.mg X.base CX k C "__getitem__" ps sp) (hi : ∀ f, PySem.W.findIn X.K (.ref C) "__getitem__" = some (some (.ref f)) → PySem.W.fnIn X.K f = true) (hr : Room (k + 1) X.A) (hx : Passes CX X E) (ha : PE X a ta) (hb : PE X b tb)
    (hs : ∀ o i, subscripted b true o i = runValue (.builtin "lifetime.subscript" ⟨[o, i], []⟩) := by intro o i; with_unfolding_all rfl) : PE X (.Subscript a b pos) (tOp (rMX C sp E) ta tb) := by
  obtain ⟨f, fd, h1, h2, kp, ⟨hbd, _⟩, F⟩ := D.ex
  refine ⟨fun pins s σ H Q I h => ?_⟩
  refine PyProof.Rows.Subscript_ (binT ha hb I h fun v u s2 x y H2 I2 rx ry q => ?_)
  obtain ⟨a', dx, fs, rfl, ha', hq⟩ := q
  cases rx
  obtain ⟨mA, J, _⟩ := ins_get I2.hok ha'
  obtain ⟨od, J, _⟩ := J.look
  obtain ⟨mm, hF⟩ := I2.fr
  refine PySem.W.sub_K hF I2.ok.mod.kin J h1 (hi f h1) h2 ?_ (hs _ _)
  have hl := F.len _ _ _ _ hq
  have r2 : Vals [V.ref a', y] [Value.ref a', u] := .cons rfl (.cons ry .nil)
  refine wpAny_call (codeAny_mono (F.run X.A.in1 X.stack s2 H2 ⟨[.ref a', u], []⟩ [.ref a', u] [.ref a', y] _ E hr.in1 I2.env0.in1 (by
    have := hbd s2 [.ref a', u] I2.kIn (by simpa using hl)
    simpa using this) r2 hq) fun r s' hq => ?_)
  cases r with
  | error e => exact hx pins σ H2 s2 e s' I2 hq
  | ok fl =>
    cases fl with
    | ret w => exact I2.after hq
    | next => exact False.elim hq
    | brk => exact False.elim hq
    | cont => exact False.elim hq
end
end Cw
set_option Elab.async false
set_option linter.all false
set_option maxRecDepth 100000
set_option maxHeartbeats 4000000
/-! defs that make lambdas: their code objects are named -/
namespace Cw
open PySem PySem.Spec L2
structure FunC (K : PySem.W.Frag) (x qual : Str) (st : Stmt) (f : Addr) (fd : FuncData) (c : Addr) : Prop where
  ex : ∃ oc od kV doc pm an ct osl, fd = PySem.W.fnOf x qual (defArgs st) (defBody st) (defScope st) .none kV doc pm an (.ref c) ct ∧ K.lookup f = some ⟨oc, od, .func fd, osl⟩ ∧ PySem.W.codeIn K (.ref c) qual = true
  kp : PySem.W.keepIn K (.ref f) = true
structure FnAtC (K : PySem.W.Frag) (mg : Str → Option Value) (x : Str) (st : Stmt) (c : Addr) : Prop where
  ex : ∃ f fd, mg x = some (.ref f) ∧ FunC K x x st f fd c
theorem FunC.fn {K : PySem.W.Frag} {x qual : Str} {st : Stmt} {f : Addr} {fd : FuncData} {c : Addr} (F : FunC K x qual st f fd c) : Fun K x qual st f fd := by
  obtain ⟨oc, od, kV, doc, pm, an, ct, osl, e, lk, hcd⟩ := F.ex
  exact ⟨⟨oc, od, kV, doc, pm, an, .ref c, ct, osl, e, lk, hcd⟩, F.kp⟩
theorem FnAtC.fn {K : PySem.W.Frag} {mg : Str → Option Value} {x : Str} {st : Stmt} {c : Addr} (F : FnAtC K mg x st c) : FnAt K mg x st := by
  obtain ⟨f, fd, hm, G⟩ := F.ex
  exact ⟨f, fd, hm, G.fn⟩
section
variable {P : Program} {w : World} {K : PySem.W.Frag} {mg : Str → Option Value} {base : Heap} {k : Nat} {x qual : Str} {ps N : List Str} {sp : Sp} {st : Stmt} {c f : Addr} {fd : FuncData}
theorem FunC.ok (F : FunC K x qual st f fd c) (S : FnScope N ps (defScope st)) (len : ∀ vs H Q E, sp vs H Q E → vs.length = ps.length)
    (hbody : ∀ (A : Around) (outer : List Env) (s : Shared) (H : Hp) (vs : List V) (Q : VK) (E : XK), Room k (A.deeper (PyProof.Rows.envOfC qual (defScope st) s.heap.objs.size f (.ref c))) → sp vs H Q E →
      ∃ t, PSs (cxOf CX0 P w K mg base N qual (defScope st) f (.ref c) A outer s H E).nox (defBody st) t ∧ t { nx := fun _ H' => Q .non H', rt := Q } (start N vs) H) : FnOk P w K mg base CX0 (k + 1) f fd ps sp := by
  obtain ⟨oc, od, kV, doc, pm, an, ct, osl, rfl, lk, hcd⟩ := F.ex
  refine fn_of lk hcd S len fun A outer s H vs Q E hr hsp => ?_
  obtain ⟨t, h, q⟩ := hbody A outer s H vs Q E hr hsp
  exact ⟨t, h.nox, q⟩
theorem FnAtC.ok (F : FnAtC K mg x st c) (S : FnScope N ps (defScope st))
    (hb : ∀ (kV doc pm : Value) (an : Option Addr) (cdv ct : Value) (us : List Value), us.length = ps.length → bindArgs (PySem.W.fnOf x x (defArgs st) (defBody st) (defScope st) .none kV doc pm an cdv ct) ⟨us, []⟩ = pure (ps.zip us))
    (len : ∀ vs H Q E, sp vs H Q E → vs.length = ps.length)
    (hbody : ∀ (f : Addr) (A : Around) (outer : List Env) (s : Shared) (H : Hp) (vs : List V) (Q : VK) (E : XK), Room k (A.deeper (PyProof.Rows.envOfC x (defScope st) s.heap.objs.size f (.ref c))) → sp vs H Q E →
      ∃ t, PSs (cxOf CX0 P w K mg base N x (defScope st) f (.ref c) A outer s H E).nox (defBody st) t ∧ t { nx := fun _ H' => Q .non H', rt := Q } (start N vs) H) : Def P w K mg base CX0 (k + 1) x ps sp := by
  obtain ⟨f, fd, hm, G⟩ := F.ex
  exact ⟨f, fd, hm, G.kp, ⟨G.fn.binds hb, funLk G.fn⟩, G.ok S len fun A outer s H vs Q E hr h => hbody f A outer s H vs Q E hr h⟩
end
/-! ### what stays behind a lambda -/
section
variable {H H' H2 : Hp} {T : List (Addr × Str)}
theorem ext_of (s : Same H H') : LamX.ExtN H H' := LamX.ExtN.of s
theorem tabs_same (t : LamX.Tabs T H) (s : Same H H') : LamX.Tabs T H' := t.ext s
theorem tabs_keep {p : Addr} {o : HO} (t : LamX.Tabs T H) (k : Keep p H H') (hp : H p = some o) (h1 : ∀ ps, o ≠ .tbl ps) (h2 : ∀ c q, o ≠ LamX.CodeO c q) : LamX.Tabs T H' := fun x hx => by
  obtain ⟨ps, e, tr, al⟩ := t x hx
  refine ⟨ps, k _ _ e (fun z => ?_), tr, fun pos cv hc => ?_⟩
  · rw [z, hp] at e
    exact h1 _ (Option.some.inj e)
  · obtain ⟨c, ec, e2⟩ := al pos cv hc
    refine ⟨c, ec, k _ _ e2 fun z => ?_⟩
    rw [z, hp] at e2
    exact h2 _ _ (Option.some.inj e2)
theorem codeO_dK {c : Addr} {q : Str} {kvs : List (Key × V)} : HO.dK kvs ≠ LamX.CodeO c q := fun z => by
  have z' : HO.dK kvs = HO.ext _ := z
  cases z'
end
end Cw
set_option Elab.async false
set_option linter.all false
set_option maxRecDepth 100000
set_option maxHeartbeats 4000000
/-! tuples of the same values, compared -/
namespace Cw
open PySem PySem.Spec PyProof.Rows L2
def Plainly (v : V) : Prop := flatB v = true ∨ ∃ r, v = .ref r
def rNeS : R2 := fun x y H Q => ∃ a b xs, x = .ref a ∧ y = .ref b ∧ H a = some (.tup xs) ∧ H b = some (.tup xs) ∧ (∀ v ∈ xs, Plainly v) ∧ Q (.bl false) H
def rEqS : R2 := fun x y H Q => ∃ a b xs, x = .ref a ∧ y = .ref b ∧ H a = some (.tup xs) ∧ H b = some (.tup xs) ∧ (∀ v ∈ xs, Plainly v) ∧ Q (.bl true) H
theorem OpR.or {X : Cx} {op : Value → Value → Sem Value} {r1 r2 : R2} (h1 : OpR X op r1) (h2 : OpR X op r2) : OpR X op (fun x y H Q => r1 x y H Q ∨ r2 x y H Q) := by
  intro pins s σ H x y v u Q I rx ry h
  rcases h with h | h
  · exact h1 pins s σ H x y v u Q I rx ry h
  · exact h2 pins s σ H x y v u Q I rx ry h
theorem items_at {A : Around} {s : Shared} {xs : List V} (hx : ∀ v ∈ xs, Plainly v) : ∀ {us ws : List Value}, Vals xs us → Vals xs ws → ∀ j (h1 : j < us.length) (h2 : j < ws.length), SeqAt.EqAt A s us[j] ws[j] true := by
  induction xs with
  | nil =>
    intro us ws r1 r2 j h1 h2
    cases r1
    exact absurd h1 (Nat.not_lt_zero j)
  | cons v r ih =>
    intro us ws r1 r2 j h1 h2
    cases r1 with
    | cons a1 b1 =>
      cases r2 with
      | cons a2 b2 =>
        cases j with
        | zero =>
          rcases hx v (List.mem_cons_self ..) with f | ⟨q, rfl⟩
          · exact eqAt_same a1 a2 f
          · cases (show _ = Value.ref q from a1)
            cases (show _ = Value.ref q from a2)
            exact SeqAt.EqAt.same _
        | succ j => exact ih (fun z hz => hx z (List.mem_cons_of_mem _ hz)) b1 b2 j (Nat.lt_of_succ_lt_succ h1) (Nat.lt_of_succ_lt_succ h2)
theorem all_true (n : Nat) : ((List.range n).all fun _ => true) = true := List.all_eq_true.mpr fun _ _ => rfl
theorem isTup {h : Heap} {a : Addr} {its : Array Value} (t : IsTup h a its) : h.IsTuple a its := by
  first | exact t | exact t.1 | exact t.isTuple
section
variable {X : Cx} {K : PySem.W.Frag}
theorem op_neS (hu : X.A.units + 1 < cLine) : OpR X (compareOp .NotEq) rNeS := by
  intro pins s σ H x y v u Q I rx ry h
  obtain ⟨a, b, xs, rfl, rfl, ha, hb, hx, q⟩ := h
  cases (show v = Value.ref a from rx)
  cases (show u = Value.ref b from ry)
  obtain ⟨us, r1, p1, _⟩ := I.tuple (SqT.of ha)
  obtain ⟨ws, r2, p2, _⟩ := I.tuple (SqT.of hb)
  have hsz : us.length = ws.length := r1.length.symm.trans r2.length
  refine SeqAt.RcNeAt.tuples (e := fun _ => true) (isTup p1) (isTup p2) (Nat.lt_of_succ_lt hu) (fun j h1 h2 => ?_) X.prog X.w _ _ ?_
  · have k := items_at (A := X.A.in1) (s := s) hx r1 r2 j (by simpa using h1) (by simpa using h2)
    simpa using k
  · rw [all_true, Bool.true_and, show (us.toArray.size == ws.toArray.size) = true by simp [hsz]]
    exact ⟨.bl false, H, I, rfl, q⟩
theorem op_eqS (hu : X.A.units + 1 < cLine) : OpR X (compareOp .Eq) rEqS := by
  intro pins s σ H x y v u Q I rx ry h
  obtain ⟨a, b, xs, rfl, rfl, ha, hb, hx, q⟩ := h
  cases (show v = Value.ref a from rx)
  cases (show u = Value.ref b from ry)
  obtain ⟨us, r1, p1, _⟩ := I.tuple (SqT.of ha)
  obtain ⟨ws, r2, p2, _⟩ := I.tuple (SqT.of hb)
  have hsz : us.length = ws.length := r1.length.symm.trans r2.length
  refine SeqAt.RcAt.tuples (e := fun _ => true) (isTup p1) (isTup p2) (Nat.lt_of_succ_lt hu) (fun j h1 h2 => ?_) X.prog X.w _ _ ?_
  · have k := items_at (A := X.A.in1) (s := s) hx r1 r2 j (by simpa using h1) (by simpa using h2)
    simpa using k
  · rw [all_true, Bool.true_and, show (us.toArray.size == ws.toArray.size) = true by simp [hsz]]
    exact ⟨.bl true, H, I, rfl, q⟩
end
end Cw
set_option Elab.async false
set_option linter.all false
set_option maxRecDepth 100000
set_option maxHeartbeats 4000000
/-! steps at a name's end -/
namespace Cw
open PySem PySem.Spec L2
theorem splitB_stop {part : List Nat} {x : Nat} {r b : List Nat} (h : ¬ x ∈ part) : splitB part (x :: r) b = (x :: r, b) := by
  unfold splitB
  rw [if_neg h]
theorem stepOf_nil (part : List Nat) (k : Nat) : stepOf part [] k = [k] := by
  unfold stepOf stepAt putIn splitB
  rfl
/-- the last letter neither crosses nor is the new one -/
theorem stepOf_put {part n : List Nat} {x k : Nat} (h : ¬ x ∈ part) (hk : x ≠ k) : stepOf part (n ++ [x]) k = n ++ [x, k] := by
  unfold stepOf
  rw [List.reverse_append, show [x].reverse ++ n.reverse = x :: n.reverse from rfl, splitB_stop h]
  unfold stepAt
  rw [if_neg (by intro z; exact hk (Option.some.inj z))]
  show (x :: n.reverse).reverse ++ putIn k [] = _
  rw [List.reverse_cons, List.reverse_reverse, List.append_assoc]
  rfl
/-- the last letter goes -/
theorem stepOf_cut {part n : List Nat} {k : Nat} (h : ¬ k ∈ part) : stepOf part (n ++ [k]) k = n := by
  unfold stepOf
  rw [List.reverse_append, show [k].reverse ++ n.reverse = k :: n.reverse from rfl, splitB_stop h]
  unfold stepAt
  rw [if_pos (show (k :: n.reverse, ([] : List Nat)).fst.head? = some k from rfl)]
  show n.reverse.reverse ++ [] = n
  rw [List.reverse_reverse, List.append_nil]
/-- before the last letter, that crosses it -/
theorem stepOf_mid {part n : List Nat} {x y k : Nat} (hy : y ∈ part) (h : ¬ x ∈ part) (hk : x ≠ k) : stepOf part (n ++ [x, y]) k = n ++ x :: putIn k [y] := by
  unfold stepOf
  have e : (n ++ [x, y]).reverse = y :: x :: n.reverse := by simp
  rw [e]
  have e2 : splitB part (y :: x :: n.reverse) [] = (x :: n.reverse, [y]) := by
    rw [splitB, if_pos hy, splitB_stop h]
  rw [e2]
  unfold stepAt
  rw [if_neg (by intro z; exact hk (Option.some.inj z))]
  simp
theorem joinOf_cons {ks : List Nat} {ps : List (List Nat)} {name w : List Nat} {k : Nat} : joinOf ks ps name (k :: w) = joinOf ks ps (stepOf (crossOf ks ps k) name k) w := rfl
/-- one kind again and again -/
theorem join_rep {ks : List Nat} {ps : List (List Nat)} {c : Nat} (h : ¬ c ∈ crossOf ks ps c) : ∀ n : Nat, (joinOf ks ps [] (List.replicate n c)).length = n % 2 := by
  have two : ∀ n : Nat, joinOf ks ps [] (List.replicate (n + 2) c) = joinOf ks ps [] (List.replicate n c) := fun n => by
    rw [List.replicate_succ, List.replicate_succ, joinOf_cons, stepOf_nil, joinOf_cons, show [c] = ([] : List Nat) ++ [c] from rfl, stepOf_cut h]
  intro n
  induction n using Nat.strongRecOn with
  | _ n ih =>
    match n with
    | 0 => rfl
    | 1 => rw [List.replicate_succ, joinOf_cons, stepOf_nil]; rfl
    | n + 2 =>
      rw [two, ih n (by omega)]
      omega
end Cw
set_option Elab.async false
set_option linter.all false
set_option maxRecDepth 100000
set_option maxHeartbeats 4000000
/-! the floor of c, a, t of which c and t cross: a long name -/
namespace Cw
open PySem PySem.Spec L2
abbrev catK : List Nat := [97, 99, 116]
abbrev catP : List (List Nat) := [[99, 116]]
theorem cat_a : crossOf catK catP 97 = [] := by decide +kernel
theorem cat_c : crossOf catK catP 99 = [116] := by decide +kernel
theorem cat_t : crossOf catK catP 116 = [99] := by decide +kernel
/-- ca again and again -/
def alt : Nat → List Nat
  | 0 => []
  | n + 1 => alt n ++ [99, 97]
theorem alt_rep : ∀ n : Nat, (List.replicate n [99, 97]).flatten = alt n
  | 0 => rfl
  | n + 1 => by
    rw [List.replicate_succ', List.flatten_append, alt_rep n]
    rfl
theorem alt_len : ∀ n : Nat, (alt n).length = 2 * n
  | 0 => rfl
  | n + 1 => by
    show (alt n ++ [99, 97]).length = _
    rw [List.length_append, alt_len n]
    show 2 * n + 2 = _
    omega
theorem alt_mem : ∀ (n : Nat), ∀ c ∈ alt n, c ∈ catK
  | 0, c, h => nomatch h
  | n + 1, c, h => by
    rcases List.mem_append.mp (show c ∈ alt n ++ [99, 97] from h) with z | z
    · exact alt_mem n c z
    · simp only [List.mem_cons, List.not_mem_nil, or_false] at z
      rcases z with rfl | rfl <;> decide
theorem put_c {v : List Nat} : stepOf (crossOf catK catP 99) (v ++ [97]) 99 = v ++ [97, 99] := by
  rw [cat_c]
  exact stepOf_put (by decide) (by decide)
theorem put_a {v : List Nat} : stepOf (crossOf catK catP 97) (v ++ [99]) 97 = v ++ [99, 97] := by
  rw [cat_a]
  exact stepOf_put (by decide) (by decide)
theorem put_ta {v : List Nat} : stepOf (crossOf catK catP 97) (v ++ [116]) 97 = v ++ [116, 97] := by
  rw [cat_a]
  exact stepOf_put (by decide) (by decide)
theorem put_t {v : List Nat} : stepOf (crossOf catK catP 116) (v ++ [97]) 116 = v ++ [97, 116] := by
  rw [cat_t]
  exact stepOf_put (by decide) (by decide)
theorem put_ct {v : List Nat} : stepOf (crossOf catK catP 116) (v ++ [97, 99]) 116 = v ++ [97, 99, 116] := by
  rw [cat_t, stepOf_mid (by decide) (by decide) (by decide)]
  rfl
theorem put_tc {v : List Nat} : stepOf (crossOf catK catP 99) (v ++ [97, 116]) 99 = v ++ [97, 99, 116] := by
  rw [cat_c, stepOf_mid (by decide) (by decide) (by decide)]
  rfl
theorem cut_a {v : List Nat} : stepOf (crossOf catK catP 97) (v ++ [97]) 97 = v := by
  rw [cat_a]
  exact stepOf_cut (by decide)
theorem alt_end (n : Nat) : ∃ v, alt (n + 1) = v ++ [97] := ⟨alt n ++ [99], by show alt n ++ [99, 97] = _; simp⟩
theorem join_app {ks : List Nat} {ps : List (List Nat)} {name a b : List Nat} : joinOf ks ps name (a ++ b) = joinOf ks ps (joinOf ks ps name a) b := by
  unfold joinOf
  rw [List.foldl_append]
theorem alt_c : ∀ n : Nat, stepOf (crossOf catK catP 99) (alt n) 99 = alt n ++ [99]
  | 0 => stepOf_nil _ _
  | n + 1 => by
    obtain ⟨v, e⟩ := alt_end n
    rw [e, put_c]
    simp
theorem alt_join : ∀ n : Nat, joinOf catK catP [] (alt n) = alt n
  | 0 => rfl
  | n + 1 => by
    show joinOf catK catP [] (alt n ++ [99, 97]) = alt n ++ [99, 97]
    rw [join_app, alt_join n, joinOf_cons, alt_c, joinOf_cons, put_a]
    rfl
theorem alt_half (n : Nat) : joinOf catK catP [] (alt n ++ [99]) = alt n ++ [99] := by
  rw [join_app, alt_join, joinOf_cons, alt_c]
  rfl
theorem alt_cut (n : Nat) : stepOf (crossOf catK catP 97) (alt (n + 1)) 97 = alt n ++ [99] := by
  rw [show alt (n + 1) = (alt n ++ [99]) ++ [97] by show alt n ++ [99, 97] = _; simp, cut_a]
theorem alt_ct (n : Nat) : stepOf (crossOf catK catP 116) (alt (n + 1) ++ [99]) 116 = alt (n + 1) ++ [99, 116] := by
  obtain ⟨v, e⟩ := alt_end n
  rw [e, show v ++ [97] ++ [99] = v ++ [97, 99] by simp, put_ct]
  simp
/-- .. + at -/
theorem alt_at (n : Nat) : joinOf catK catP (alt (n + 2)) [97, 116] = alt (n + 1) ++ [99, 116] := by
  rw [joinOf_cons, alt_cut, joinOf_cons, alt_ct]
  rfl
theorem alt_at2 (n : Nat) : joinOf catK catP [] (alt (n + 1) ++ [99, 116]) = alt (n + 1) ++ [99, 116] := by
  rw [join_app, alt_join, joinOf_cons, alt_c, joinOf_cons, alt_ct]
  rfl
theorem alt_t (n : Nat) : stepOf (crossOf catK catP 116) (alt (n + 1)) 116 = alt (n + 1) ++ [116] := by
  obtain ⟨v, e⟩ := alt_end n
  rw [e, put_t]
  simp
/-- .. + tca -/
theorem alt_tca (n : Nat) : joinOf catK catP (alt (n + 1)) [116, 99, 97] = alt (n + 1) ++ [99, 116, 97] := by
  obtain ⟨v, e⟩ := alt_end n
  rw [joinOf_cons, alt_t, e, show v ++ [97] ++ [116] = v ++ [97, 116] by simp, joinOf_cons, put_tc, joinOf_cons, show v ++ [97, 99, 116] = (v ++ [97, 99]) ++ [116] by simp, put_ta]
  show v ++ [97, 99] ++ [116, 97] = _
  simp
/-- .. + ta again and again -/
theorem alt_tas : ∀ (m : Nat) (v : List Nat), joinOf catK catP (v ++ [97]) (List.replicate m [116, 97]).flatten = v ++ [97] ++ (List.replicate m [116, 97]).flatten
  | 0, v => by simp [joinOf]
  | m + 1, v => by
    rw [List.replicate_succ, List.flatten_cons]
    show joinOf catK catP (v ++ [97]) (116 :: 97 :: (List.replicate m [116, 97]).flatten) = _
    rw [joinOf_cons, put_t, joinOf_cons, show v ++ [97, 116] = (v ++ [97]) ++ [116] by simp, put_ta, show v ++ [97] ++ [116, 97] = (v ++ [97, 116]) ++ [97] by simp, alt_tas m]
    simp
theorem tas_len (m : Nat) : ((List.replicate m [116, 97]).flatten).length = 2 * m := by
  induction m with
  | zero => rfl
  | succ m ih =>
    rw [List.replicate_succ, List.flatten_cons, List.length_append, ih]
    show 2 + 2 * m = _
    omega
theorem tas_mem (m : Nat) : ∀ c ∈ (List.replicate m [116, 97]).flatten, c ∈ catK := fun c h => by
  obtain ⟨l, hl, hc⟩ := List.mem_flatten.mp h
  rw [(List.mem_replicate.mp hl).2] at hc
  simp only [List.mem_cons, List.not_mem_nil, or_false] at hc
  rcases hc with rfl | rfl <;> decide
end Cw
set_option Elab.async false
set_option linter.all false
set_option maxRecDepth 100000
set_option maxHeartbeats 4000000
/-! what the top has left, one lemma a kind -/
namespace Cw
open PySem PySem.Spec L2
section
variable {K : PySem.W.Frag} {h : Heap} {mg : Str → Option Value} {x m qual : Str} {st : Stmt} {f C T : Addr} {oc kV dc pm cd ct oc2 : Value} {od an od2 : Option Addr} {sl sl2 : Array (Option Value)}
theorem glob_mk {v : Value} (X : K.In h) (G : h.Ns mainGlobals mg) (a : PySem.W.nsIn K mainGlobals x = some (some v)) : mg x = some v := PySem.W.mg_of X G a
theorem fnAt_mk (X : K.In h) (G : h.Ns mainGlobals mg) (a : PySem.W.nsIn K mainGlobals x = some (some (.ref f))) (l : K.lookup f = some ⟨oc, od, .func (PySem.W.fnOf x x (defArgs st) (defBody st) (defScope st) .none kV dc pm an cd ct), sl⟩)
    (c : PySem.W.codeIn K cd x = true) (k : PySem.W.keepIn K (.ref f) = true) : FnAt K mg x st := ⟨f, _, PySem.W.mg_of X G a, fun_mk (st := st) l c k⟩
theorem mAt_mk (a : PySem.W.findIn K (.ref C) m = some (some (.ref f))) (i : PySem.W.isFn K (.ref f) = true) (l : K.lookup f = some ⟨oc, od, .func (PySem.W.fnOf m qual (defArgs st) (defBody st) (defScope st) .none kV dc pm an cd ct), sl⟩)
    (c : PySem.W.codeIn K cd qual = true) (k : PySem.W.keepIn K (.ref f) = true) : MAt K C m qual st := ⟨f, _, a, i, fun_mk (st := st) l c k⟩
theorem mAtD_mk {arr : Array Value} {n : Nat} {dvs : List V} (a : PySem.W.findIn K (.ref C) m = some (some (.ref f))) (i : PySem.W.isFn K (.ref f) = true) (l : K.lookup f = some ⟨oc, od, .func (PySem.W.fnOf m qual (defArgs st) (defBody st) (defScope st) (.ref T) kV dc pm an cd ct), sl⟩)
    (c : PySem.W.codeIn K cd qual = true) (k : PySem.W.keepIn K (.ref f) = true) (t : K.lookup T = some ⟨oc2, od2, .seq arr n, sl2⟩) (hv : Vals dvs arr.toList) (hd : dvs ≠ []) : MAtD K C m qual st dvs :=
  ⟨f, _, a, i, ⟨⟨oc, od, .ref T, kV, dc, pm, an, cd, ct, sl, rfl, l, c, .inr ⟨hd, T, _, arr.toList, n, rfl, t, rfl, hv⟩, .inl rfl⟩, k⟩⟩
theorem cls_mk (X : K.In h) (G : h.Ns mainGlobals mg) (a : PySem.W.nsIn K mainGlobals x = some (some (.ref C))) (pg : PySem.W.plainGet K C Str.empty = true) (hd : PySem.W.hasDictIn K C = true) (po : PySem.W.plainOver K C = true)
    (sa : PySem.W.findIn K (.ref C) "__setattr__" = some (some (.builtin "object.__setattr__"))) (mk : PySem.W.makesIn K C = true) (kc : PySem.W.keepIn K (.ref C) = true)
    (ha : PySem.W.findIn K (.ref C) "__class__" = some (some (.builtin "object.__class__"))) (hn : PySem.W.specialIn K (.builtin "object.__class__") "__get__" = some (some (.builtin "getset_descriptor.__get__"))) (ht : PySem.W.takesIn K (.builtin "object.__class__") = some true)
    (hm : PySem.W.mroIn K C (.type "object") = some true) (ob : PySem.W.subIn K (.ref C) (.type "object") = some true) (ne : PySem.W.findIn K (.ref C) "__ne__" = some (some (.builtin "object.__ne__"))) : ClsF K mg x C :=
  ⟨PySem.W.mg_of X G a, ⟨pg, hd, po, sa⟩, mk, kc, ha, hn, ht, hm, ob, ne⟩
theorem exc_mk (X : K.In h) (G : h.Ns mainGlobals mg) (a : PySem.W.nsIn K mainGlobals x = some (some (.ref C))) (e : PySem.W.excIn K C [.type "ValueError", .type "Exception", .type "BaseException", .type "object"] "ValueError.__new__" = true) (k : PySem.W.keepIn K (.ref C) = true) (ty : PySem.W.typeIn K (.ref C) = some (.type "type"))
    (hg : PySem.W.findIn K (.ref C) "__getattribute__" = some (some (.builtin "BaseException.__getattribute__"))) (hk : PySem.W.findIn K (.ref C) "__getattr__" = some none) (hs : PySem.W.subIn K (.ref C) (.type "BaseException") = some true) (hd : PySem.W.hasDictIn K C = true)
    (ha : PySem.W.findIn K (.ref C) "__class__" = some (some (.builtin "object.__class__"))) (hn : PySem.W.specialIn K (.builtin "object.__class__") "__get__" = some (some (.builtin "getset_descriptor.__get__"))) (ht : PySem.W.takesIn K (.builtin "object.__class__") = some true) (hm : PySem.W.mroIn K C (.type "object") = some true) : ExcF K mg x C :=
  ⟨PySem.W.mg_of X G a, e, k, ty, ⟨hg, hk, hs, hd, ha, hn, ht, hm⟩⟩
end
end Cw
set_option Elab.async false
set_option linter.all false
set_option maxRecDepth 100000
set_option maxHeartbeats 4000000
/-! an own exception with fields: what the top has left of it -/
namespace Cw
open PySem PySem.Spec L2
theorem exE_mk {P : Program} {K : PySem.W.Frag} {h : Heap} {mg : Str → Option Value} {x qual nm q : Str} {st : Stmt} {C N f cda cc : Addr} {bs bm sub : List Value} {sn : List Str} {ab : Bool} {col : Option Bool} {dd : Option Addr} {k0 k1 k2 k3 k5 : Option Value}
    {oc kV doc pm ct ccl cl : Value} {od an cdd cld : Option Addr} {sl ccs csl : Array (Option Value)} {vs : Array Value} {file : Str} {tf : Tok} {ar : Arg}
    (X : K.In h) (G : h.Ns mainGlobals mg) (a : PySem.W.nsIn K mainGlobals x = some (some (.ref C)))
    (lk : K.lookup C = some (excClassObj nm q C N bs bm true sn sub ab col dd k0 k1 k2 k3 k5 "ValueError.__new__")) (rv : PySem.HandSPX.refsVE bm = true)
    (sa : PySem.W.findIn K (.ref C) "__setattr__" = some (some (.builtin "object.__setattr__"))) (hs : PySem.W.subIn K (.ref C) (.type "BaseException") = some true) (ty : PySem.W.typeIn K (.ref C) = some (.type "type")) (k : PySem.W.keepIn K (.ref C) = true)
    (hg : PySem.W.findIn K (.ref C) "__getattribute__" = some (some (.builtin "BaseException.__getattribute__"))) (hk : PySem.W.findIn K (.ref C) "__getattr__" = some none) (hd : PySem.W.hasDictIn K C = true)
    (ha : PySem.W.findIn K (.ref C) "__class__" = some (some (.builtin "object.__class__"))) (hn : PySem.W.specialIn K (.builtin "object.__class__") "__get__" = some (some (.builtin "getset_descriptor.__get__"))) (ht : PySem.W.takesIn K (.builtin "object.__class__") = some true) (hm : PySem.W.mroIn K C (.type "object") = some true)
    (fi : PySem.W.findIn K (.ref C) "__init__" = some (some (.ref f))) (ti : PySem.W.typeIn K (.ref f) = some (.type "function"))
    (lf : K.lookup f = some ⟨oc, od, .func (PySem.W.fnX "__init__" qual (defArgs st) (defBody st) (defScope st) [(("__class__" : Str), cc)] .none kV doc pm an (.ref cda) ct), sl⟩)
    (cd : PySem.W.codeIn K (.ref cda) qual = true) (par : ((defArgs st).posonlyargs ++ (defArgs st).args).head? = some ar) (par2 : ar.arg = "self")
    (lc : K.lookup cda = some ⟨ccl, cdd, .fields vs, ccs⟩) (v2 : vs[2]? = some (.str file tf)) (fe : ((P.main.file : Str) == file) = true) (top : (P.main.scope.names.lookup ("super" : Str)).isSome = false)
    (lcc : K.lookup cc = some ⟨cl, cld, .cell (some (.ref C)), csl⟩) (op : PySem.W.nsIn K PySem.cStatics "thirdparty.any" = some none) (up : PySem.W.ks_superIn K C C "__init__" = some (some (.builtin "ValueError.__init__"))) : ExcE P K mg x C qual st :=
  ⟨PySem.W.mg_of X G a, ⟨⟨_, _, _, _, _, _, _, _, _, _, _, _, _, _, _, lk, rv⟩, sa, hs, ty, k⟩, ⟨hg, hk, hs, hd⟩, ⟨hg, hk, hs, hd, ha, hn, ht, hm⟩, f, cda, cc, _, kV, doc, pm, an, ct, fi, ti, rfl, cd, ⟨_, _, _, lf⟩, ⟨ar, par, par2⟩, ⟨_, _, _, _, _, _, lc, v2, fe⟩, top, ⟨_, _, _, lcc⟩, op, up⟩
theorem kit_ref {K : PySem.W.Frag} {C : Addr} {t : Value} {b : Bool} (hc : PySem.W.isClsIn K C = true) (ht : PySem.W.typeIn K (.ref C) = some (.type "type")) (hs : PySem.W.subIn K t (.ref C) = some b) (hn : (t == .ref C) = false ∨ b = true) : PySem.W.kitOne K t (.ref C) = some b := by
  unfold PySem.W.kitOne
  by_cases e : (t == .ref C) = true
  · rw [if_pos e]
    rcases hn with h | h
    · rw [h] at e; cases e
    · rw [h]
  · rw [if_neg e]
    have h2 : ((PySem.W.clsIn K C).isSome && PySem.W.typeIn K (.ref C) == some (.type "type")) = true := by
      have : (PySem.W.clsIn K C).isSome = true := hc
      rw [this, ht]
      rfl
    show (if ((PySem.W.clsIn K C).isSome && PySem.W.typeIn K (.ref C) == some (.type "type")) = true then PySem.W.subIn K t (.ref C) else none) = some b
    rw [if_pos h2]
    exact hs
end Cw
set_option Elab.async false
set_option linter.all false
set_option maxRecDepth 100000
set_option maxHeartbeats 4000000
/-! the end of a law whose defs make lambdas -/
namespace Cw
open PySem PySem.Spec L2
section
variable {K : PySem.W.Frag} {h : Heap} {mg : Str → Option Value} {x qual : Str} {f fa c : Addr} {st : Stmt} {oc kV dc pm ct : Value} {od an : Option Addr} {sl : Array (Option Value)}
theorem fnAtC_mk (X : K.In h) (G : h.Ns mainGlobals mg) (a : PySem.W.nsIn K mainGlobals x = some (some (.ref f))) (l : K.lookup f = some ⟨oc, od, .func (PySem.W.fnOf x x (defArgs st) (defBody st) (defScope st) .none kV dc pm an (.ref c) ct), sl⟩)
    (cd : PySem.W.codeIn K (.ref c) x = true) (k : PySem.W.keepIn K (.ref f) = true) : FnAtC K mg x st c := ⟨f, _, PySem.W.mg_of X G a, ⟨⟨oc, od, kV, dc, pm, an, ct, sl, rfl, l, cd⟩, k⟩⟩
theorem funC1_mk (X : K.In h) (G : h.Ns mainGlobals mg) (hm : mg x = some (.ref fa)) (a : PySem.W.nsIn K mainGlobals x = some (some (.ref f))) (l : K.lookup f = some ⟨oc, od, .func (PySem.W.fnOf x x (defArgs st) (defBody st) (defScope st) .none kV dc pm an (.ref c) ct), sl⟩)
    (cd : PySem.W.codeIn K (.ref c) x = true) (k : PySem.W.keepIn K (.ref f) = true) : FunC K x x st fa (PySem.W.fnOf x x (defArgs st) (defBody st) (defScope st) .none kV dc pm an (.ref c) ct) c := by
  have e := hm.symm.trans (PySem.W.mg_of X G a)
  cases e
  exact ⟨⟨oc, od, kV, dc, pm, an, ct, sl, rfl, l, cd⟩, k⟩
end
theorem tabs_two {H : Hp} {P1 P2 : Addr} {q1 q2 : Str} (h1 : H P1 = some (.tbl #[])) (h2 : H P2 = some (.tbl #[])) : LamX.Tabs [(P1, q1), (P2, q2)] H := fun p hp => by
  have e : ∀ (P : Addr) (q : Str), H P = some (.tbl #[]) → LamX.TabS H P q := fun P q h => ⟨#[], h, trivial, fun pos cv z => by cases z⟩
  rcases List.mem_cons.mp hp with rfl | hp
  · exact e _ _ h1
  · rcases List.mem_cons.mp hp with rfl | hp
    · exact e _ _ h2
    · cases hp
theorem of_two {P1 P2 : Addr} {q1 q2 : Str} (hn : P1 ≠ P2) : (∀ p ∈ [(P1, q1), (P2, q2)], p.1 = P1 → p.2 = q1) ∧ (∀ p ∈ [(P1, q1), (P2, q2)], p.1 = P2 → p.2 = q2) := by
  refine ⟨fun p hp e => ?_, fun p hp e => ?_⟩
  all_goals
    rcases List.mem_cons.mp hp with rfl | hp
    · first | rfl | exact absurd e hn
    · rcases List.mem_cons.mp hp with rfl | hp
      · first | rfl | exact absurd e.symm hn
      · cases hp
/-- the law's end with two tables -/
theorem end_walkT {l : PySem.W.OpenLaw} {q : Program} {loose : List Str} {XP : (Str → Option Value) → Heap → Prop} {YP : World → Heap → Prop} {d : DefRec} {K : Params → PySem.W.Frag} {k : Nat} {x : Str} {P1 P2 : Addr} {q1 q2 : Str} {sp : PySem.W.Frag → Sp} (hn : l.most = some 63) (hdf : d.params.defaults = []) (hr : Room k callerA)
    (hY : ∀ (w : World) (h : Heap), YP w h → (K w.params).In h) (hT : ∀ (w : World) (h : Heap), YP w h → h.get? P1 = some { cls := .none, data := .fields #[] } ∧ h.get? P2 = some { cls := .none, data := .fields #[] })
    (nT : ∀ w : World, (K w.params).lookup P1 = none ∧ (K w.params).lookup P2 = none)
    (hsp : ∀ (K : PySem.W.Frag) (H : Hp) (a : Addr) (ns : List Int), ns.length ≤ 63 → LamX.Tabs [(P1, q1), (P2, q2)] H → SqL K H a (ns.map V.int) → sp K [.ref a] H (fun v _ => v = .bl true) fun _ _ _ => False)
    (F : ∀ (w : World) (mg : Str → Option Value) (fa : Addr) (h : Heap), (K w.params).In h → h.Ns mainGlobals mg → mg d.name = some (.ref fa) →
      ∃ (fd : FuncData) (c1 c2 : Addr), PySem.W.codeHdIn (K w.params) c1 P1 = true ∧ PySem.W.codeHdIn (K w.params) c2 P2 = true ∧ (∀ (s : Shared) (u : Value), BindsTo s fd ⟨[u], []⟩ [(x, u)]) ∧ ∀ base : Heap, (K w.params).In base → base.Ns mainGlobals mg → LamX.TabB base mg c1 P1 → LamX.TabB base mg c2 P2 → FnOk l.prog w (K w.params) mg base CX0 k fa fd [x] (sp (K w.params))) :
    PySem.W.WalkO q loose XP YP l.row.toRowW d [] (fun f vs => PySem.call f vs) := by
  refine LamX.walk_ofTs (n := 63) (x := x) (CX := fun _ => CX0) hn (by decide) hdf hr hY (fun w mg fa h Y KX G hmg => ?_) fun _ _ _ _ _ z => z
  obtain ⟨fd, c1, c2, e1, e2, hb, hF⟩ := F w mg fa h KX G hmg
  obtain ⟨t1, t2⟩ := hT w h Y
  obtain ⟨n1, n2⟩ := nT w
  have two : ∀ {p : Addr × Addr} {M : Addr × Addr → Prop}, p ∈ [(c1, P1), (c2, P2)] → M (c1, P1) → M (c2, P2) → M p := fun {p M} hp a b => by
    rcases List.mem_cons.mp hp with rfl | hp
    · exact a
    · rcases List.mem_cons.mp hp with rfl | hp
      · exact b
      · cases hp
  refine ⟨fd, [(c1, P1), (c2, P2)], sp (K w.params), fun p hp => two (M := fun p => h.get? p.2 = some { cls := .none, data := .fields #[] }) hp t1 t2, fun p hp => two (M := fun p => (K w.params).lookup p.2 = none) hp n1 n2, fun p hp => two (M := fun p => PySem.W.CodeHd h p.1 p.2) hp (PySem.W.codeHd_of_K KX e1) (PySem.W.codeHd_of_K KX e2), hb, fun H a ns hl _ ht hS => ?_, fun base hK hG hB => ?_⟩
  · exact hsp _ H a ns hl (tabs_two (ht _ (.head _)) (ht _ (.tail _ (.head _)))) hS
  · exact hF base hK hG (hB _ (.head _)) (hB _ (.tail _ (.head _)))
end Cw
set_option Elab.async false
set_option linter.all false
set_option maxRecDepth 100000
set_option maxHeartbeats 4000000
/-! CwHeadK: the head with the law's heap told, by one run of the top over the tree -/
namespace Cw
open PySem PySem.W PySem.Calls PyProof.Rows
/-- a hook named -/
def TagH (_ : Hook) : Prop := True
end Cw
set_option Elab.async false
set_option linter.all false
set_option maxRecDepth 100000
set_option maxHeartbeats 4000000
/-! CwHeadKm: as CwHeadK, the tables of the code objects told too -/
namespace Cw
open PySem PySem.W PySem.Calls PyProof.Rows
theorem headKm {r : OpenRow} {q : Program} {K : Params → PySem.W.Frag} {as ts : List Addr} {ek : ∀ P, as = (K P).map (·.1)} {M : Nat} {loose : List PySem.Str} {d : DefRec} {kwd : List (PySem.Str × PySem.Expr)} (_ : TagH (kmHook K as ek ts))
    (e : opening r.prog = plainProg r.prog.main.scope.names) (f : ∀ s, fenceModules? r.prog s = some s) (run : ∀ w, HandSHeadRun.RunEq r q (kmHook K as ek ts) (fun s => (as.map (HandSHeadRun.getT s), ts.map (HandSHeadRun.getT s))) M loose w)
    (hdef : defOf q r.name = some (d, kwd)) (hp : r.prog.theDef r.name = some (d.params, d.body, d.scope)) (hk : kwWritten? d.params.kwonlyargs d.params.kw_defaults = some kwd)
    (hwr : (!r.writes || r.records.isEmpty) = true) (k1 : r.wellSaid = true) (ok : (chainsOk q && opensWell r.prog && (frees r.toRowW && r.within.isEmpty)) = true) (hb : r.prog.bare) (hw : r.toRowW.promised)
    (call : WalkO q loose (XL q []) (kmHook K as ek ts).says r.toRowW d kwd fun f vs => PySem.call f vs) : r.Holds := by
  have ho : ∀ (s : SharedT) (l : List Addr), l.map (HandSHeadRun.getT s) = l.map s.abs.heap.get? := fun s l => List.map_congr_left fun a _ => HandSHeadRun.getT_eq s a
  exact HandSHeadRun.head_any (H := kmHook K as ek ts) (ob := fun s => (as.map (HandSHeadRun.getT s), ts.map (HandSHeadRun.getT s))) (fun s => by rw [ho s as, ho s ts]; rfl) e f run hdef hp hk hwr k1 ok hb hw call
end Cw
set_option Elab.async false
set_option linter.all false
set_option maxRecDepth 100000
namespace Cw
open PySem PySem.W PySem.Calls PyProof.Rows
abbrev hR : OpenRow := OpenLaw.row PySem.Challenge.rw_crosswalls_k10_rooms_refused
abbrev hq : Program := view hR.prog [hR.prog.main.body.length - 1]
def hloose : List PySem.Str := hR.prog.boundNames.filter fun x => x != hR.name
end Cw
open PySem PySem.W PySem.Calls PyProof.Rows in
local macro_rules | `(tactic| o_head $H) => `(tactic| refine Cw.headKm (r := Cw.hR) (q := Cw.hq) (M := 9000) (loose := Cw.hloose) (show Cw.TagH $H from trivial) (by kernel_rfl) (fun s => by kernel_rfl) (fun w => by intro os; kernel_rfl) (by rfl) (by rfl) (by rfl) (by rfl) (by first | assumption | decide +kernel) (by decide +kernel) ⟨rfl, rfl, rfl, rfl, rfl, by decide +kernel⟩ ?hw ?hc)
open PySem PySem.W PyProof.Rows in
set_option maxHeartbeats 0 in
open_top Cw.headOf for PySem.Challenge.rw_crosswalls_k10_rooms_refused
set_option Elab.async false
set_option linter.all false
set_option maxRecDepth 100000
set_option maxHeartbeats 4000000
namespace Cw
open PySem PySem.Spec L2
local macro_rules | `(tactic| walk_at "side") => `(tactic| first | omega | assumption | (dsimp only; omega) | (unfold CMul; omega) | exact ⟨by decide, by decide, by decide⟩ | exact wdiv (by first | assumption | decide | omega) (by first | assumption | decide | omega) | (simp only [List.length_cons, List.length_nil]; omega) | rfl)
local macro_rules | `(tactic| walk_at "hl") => `(tactic| first | assumption | exact upd_same | ((refine Cw.Same.at (by assumption) ?_); walk_at "hl") | ((refine Cw.Keep.at (by assumption) ?_ (by assumption)); walk_at "hl"))
local macro_rules | `(tactic| walk_at "st") => `(tactic| first
  | (with_reducible refine s_seq ?_) | (with_reducible refine g_nm ?_) | (with_reducible refine s_next ?_) | (with_reducible refine s_set ?_) | (with_reducible refine s_drop ?_) | (with_reducible refine s_ret ?_) | (with_reducible refine s_if ?_)
  | ((with_reducible refine e_varG ?_); refine ⟨_, (by with_unfolding_all rfl), ?_⟩) | (with_reducible refine e_c ?_) | (with_reducible refine e_op ?_) | (with_reducible refine e_un ?_)
  | (with_reducible refine e_cons ?_) | (with_reducible refine e_nil ?_) | (with_reducible refine e_cb ?_) | (with_reducible refine e_call ?_) | (with_reducible refine e_md ?_)
  | (with_reducible refine t_test ?_) | (with_reducible refine t_B ?_) | (with_reducible refine t_and ?_) | (with_reducible refine t_or ?_) | (with_reducible refine t_not ?_)
  | (with_reducible refine e_andV ?_) | (with_reducible refine e_orV ?_) | (with_reducible refine e_notV ?_) | (with_reducible refine e_if ?_)
  | (with_reducible refine v_I0 ?_) | ((with_reducible refine v_I ?c ?_); try (case c => walk_at "side")) | (with_reducible refine v_bl ?_)
  | ((with_reducible refine v_eq ?c ?_); (case c => with_unfolding_all rfl)) | ((with_reducible refine v_ne ?c ?_); (case c => with_unfolding_all rfl))
  | (with_reducible refine v_inti ?_) | (with_reducible refine v_intb ?_) | ((with_reducible refine v_lenG ?_); refine ⟨_, (by walk_at "hl"), ?_⟩)
  | ((with_reducible refine v_lenS ?c ?_); try (case c => walk_at "side"))
  | (with_reducible refine e_dnew ?_) | (with_reducible refine e_dget ?_) | (with_reducible refine s_dput ?_) | (with_reducible refine e_lst ?_) | (with_reducible refine e_tup ?_)
  | ((with_reducible refine v_lst ?c ?_); (case c => walk_at "side")) | ((with_reducible refine v_tup ?c ?_); (case c => walk_at "side"))
  | ((with_reducible refine v_dgetG ?_); refine ⟨_, (by assumption), ?_⟩)
  | (with_reducible refine e_sl ?_) | (with_reducible refine e_nopart ?_) | (with_reducible refine e_part ?_) | (with_reducible refine e_m1 ?_) | (with_reducible refine v_isS ?_) | (with_reducible refine v_int ?_)
  | (with_reducible refine e_lc ?_) | (with_reducible refine e_iStr ?_) | (with_reducible refine e_iEnumS ?_) | (with_reducible refine v_iEnumS ?_) | (with_reducible refine v_str ?_) | (with_reducible refine e_yes ?_) | (with_reducible refine e_fld ?_) | (with_reducible refine e_sfld ?_)
  | ((with_reducible refine v_addS ?c ?_); try (case c => walk_at "side")) | (with_reducible refine v_inS ?_) | (with_reducible refine v_notInS ?_) | (with_reducible refine v_ltS ?_)
  | ((with_reducible refine v_inLG ?_); refine ⟨_, (by walk_at "hl"), ?_⟩) | (with_reducible refine v_isiS ?_) | (with_reducible refine e_revS ?_) | ((with_reducible refine v_revS ?c ?_); try (case c => walk_at "side"))
  | ((with_reducible refine v_lenSetG ?_); refine ⟨_, (by walk_at "hl"), ?_⟩)
  | (with_reducible refine e_bm ?_) | (with_reducible refine e_bm0 ?_) | ((with_reducible refine v_tyLG ?_); refine ⟨_, (by walk_at "hl"), ?_⟩)
  | (with_reducible refine iteNT ?_) | (with_reducible refine iteNF ?_) | (with_reducible refine e_for ?_)
  | (with_reducible refine e_iL ?_) | (with_reducible refine e_iT ?_) | ((with_reducible refine v_iLG ?_); refine ⟨_, (by walk_at "hl"), ?_⟩) | (with_reducible refine e_iR1 ?_) | ((with_reducible refine v_iR1 ?c1 ?c2 ?_); try (case c1 => walk_at "side"); try (case c2 => walk_at "side"))
  | (with_reducible refine e_iR2 ?_) | ((with_reducible refine v_iR2 ?c1 ?_); try (case c1 => walk_at "side"))
  | (with_reducible refine e_pr0 ?_) | (with_reducible refine e_pr ?_) | (with_reducible refine e_disp ?_) | (with_reducible refine s_asgT ?_) | (with_reducible refine e_tryA ?_) | (with_reducible refine e_callS ?_) | (with_reducible refine e_mdS ?_) | (with_reducible refine e_par ?_) | (with_reducible refine v_par ?_) | (with_reducible refine e_par3 ?_) | (with_reducible refine v_par3 ?_) | (with_reducible refine e_iK ?_) | (with_reducible refine e_dnotin ?_)
  | (with_reducible refine iteT ?_) | (with_reducible refine iteF ?_))
local macro_rules | `(tactic| walk_at "go") => `(tactic| repeat walk_at "st")
section
open PySem PySem.Spec L2
def top (i : Nat) : Stmt := PySem.Challenge.pw_crosswalls_k10_rooms_refused.main.body.getD i (.Pass ⟨0, 0, 0, 0⟩)
/-! ### the pen -/
def penL (cl : Addr) (a r : Int) : List (Key × V) := [(Sum.inr "cells", .ref cl), (Sum.inr "place", .int a), (Sum.inr "rest", .int r)]
structure Pen where
  p : Addr
  cl : Addr
  cells : List Int
structure PenAt (g : Pen) (H : Hp) (n : Nat) : Prop where
  ex : ∃ (a r : Int), H g.p = some (.dK (penL g.cl a r)) ∧ H g.cl = some (.lst (g.cells.map V.int)) ∧ g.cells.length ≤ 63 ∧ 0 ≤ a ∧ a ≤ n ∧ 0 ≤ r
section
variable {g : Pen} {H H' : Hp} {n m : Nat} {q : Addr}
theorem PenAt.mono (h : PenAt g H n) (l : n ≤ m) : PenAt g H m := by
  obtain ⟨a, r, h1, h2, h3, h4, h5, h6⟩ := h.ex
  exact ⟨a, r, h1, h2, h3, h4, by omega, h6⟩
theorem PenAt.same (h : PenAt g H n) (s : Same H H') : PenAt g H' n := by
  obtain ⟨a, r, h1, h2, h3, h4, h5, h6⟩ := h.ex
  exact ⟨a, r, s _ _ h1, s _ _ h2, h3, h4, h5, h6⟩
theorem PenAt.keep (h : PenAt g H n) (s : Keep q H H') (n1 : g.p ≠ q) (n2 : g.cl ≠ q) : PenAt g H' n := by
  obtain ⟨a, r, h1, h2, h3, h4, h5, h6⟩ := h.ex
  exact ⟨a, r, s _ _ h1 n1, s _ _ h2 n2, h3, h4, h5, h6⟩
theorem PenAt.p_ne (h : PenAt g H n) (s : H q = none) : g.p ≠ q := by
  obtain ⟨a, r, h1, h2, h3, h4, h5, h6⟩ := h.ex
  exact ne_of_none h1 s
theorem PenAt.cl_ne (h : PenAt g H n) (s : H q = none) : g.cl ≠ q := by
  obtain ⟨a, r, h1, h2, h3, h4, h5, h6⟩ := h.ex
  exact ne_of_none h2 s
end
theorem kcp : ¬ ((Sum.inr ("cells" : Str) : Key) = Sum.inr ("place" : Str)) := by decide +kernel
theorem kcr : ¬ ((Sum.inr ("cells" : Str) : Key) = Sum.inr ("rest" : Str)) := by decide +kernel
theorem kpr : ¬ ((Sum.inr ("place" : Str) : Key) = Sum.inr ("rest" : Str)) := by decide +kernel
section
variable {H : Hp} {p cl : Addr} {a r z : Int}
theorem pen_cells (h : H p = some (.dK (penL cl a r))) : DGet H p (.str "cells") (some (.ref cl)) := by
  have e := DGet.k (k := Sum.inr "cells") h
  rw [penL, valV_pos rfl] at e
  exact e
theorem pen_place (h : H p = some (.dK (penL cl a r))) : DGet H p (.str "place") (some (.int a)) := by
  have e := DGet.k (k := Sum.inr "place") h
  rw [penL, valV_neg kcp, valV_pos rfl] at e
  exact e
theorem pen_rest (h : H p = some (.dK (penL cl a r))) : DGet H p (.str "rest") (some (.int r)) := by
  have e := DGet.k (k := Sum.inr "rest") h
  rw [penL, valV_neg kcr, valV_neg kpr, valV_pos rfl] at e
  exact e
theorem put_place : putK (penL cl a r) (Sum.inr "place") (.int z) = penL cl z r := by
  unfold putK penL
  rw [if_pos (by rw [valV_any]; first | (rw [valV_neg kcp, valV_pos rfl] <;> rfl) | (rw [valV_neg kcr, valV_neg kpr, valV_pos rfl] <;> rfl))]
  show [(if _ then _ else _), (if _ then _ else _), (if _ then _ else _)] = _
  rw [if_neg kcp, if_pos rfl, if_neg (fun e => kpr e.symm)]
theorem put_rest : putK (penL cl a r) (Sum.inr "rest") (.int z) = penL cl a z := by
  unfold putK penL
  rw [if_pos (by rw [valV_any]; first | (rw [valV_neg kcp, valV_pos rfl] <;> rfl) | (rw [valV_neg kcr, valV_neg kpr, valV_pos rfl] <;> rfl))]
  show [(if _ then _ else _), (if _ then _ else _), (if _ then _ else _)] = _
  rw [if_neg kcr, if_neg kpr, if_pos rfl]
theorem pen_setPlace (h : H p = some (.dK (penL cl a r))) : DPut H p (.str "place") (.int z) (upd H p (.dK (penL cl z r))) := by
  have e := DPut.k (k := Sum.inr "place") (v := .int z) h (by show 3 < sizeLine; decide)
  rw [put_place] at e
  exact e
theorem pen_setRest (h : H p = some (.dK (penL cl a r))) : DPut H p (.str "rest") (.int z) (upd H p (.dK (penL cl a z))) := by
  have e := DPut.k (k := Sum.inr "rest") (v := .int z) h (by show 3 < sizeLine; decide)
  rw [put_rest] at e
  exact e
end
/-! ### the module's built-in names -/
structure Txt (K : PySem.W.Frag) (mg : Str → Option Value) : Prop where
  len : mg "len" = none
  int : mg "int" = none
  list : mg "list" = none
def spDraw : Sp := fun vs H Q _ => ∃ (g : Pen) (m : Int) (n : Nat), vs = [.ref g.p, .int m] ∧ 0 < m ∧ m < 1000000 ∧ PenAt g H n ∧ n < 1000000 ∧
  ∀ (z : Int) (H' : Hp), 0 ≤ z → z < m → PenAt g H' (n + 1) → Keep g.p H H' → Q (.int z) H'
section
variable {P : Program} {w : World} {K : PySem.W.Frag} {mg : Str → Option Value} {base : Heap}
abbrev stdraw : Stmt := (top 34)
abbrev Ndraw : List Str := ["_law_pen_here", "_law_number", "_law_digit", "_law_at", "_law_cell", "_law_mixed"]
theorem scdraw : FnScope Ndraw ["_law_pen_here", "_law_number"] (defScope stdraw) := ⟨rfl, rfl, rfl, by decide +kernel, rfl, by decide +kernel, by decide +kernel⟩

theorem ok_draw (F : FnAt K mg "_law_draw" stdraw) (T : Txt K mg) : Def P w K mg base CX0 1 "_law_draw" ["_law_pen_here", "_law_number"] spDraw := by
  refine F.ok scdraw (fun _ _ _ _ _ _ us hl => match us, hl with | [_, _], _ => rfl) (fun vs H Q E h => ?_) (fun f cdv A outer s H vs Q E hr h => ?_)
  · obtain ⟨p, m, n, rfl, _⟩ := h
    rfl
  obtain ⟨⟨p, cl, cells⟩, m, n, rfl, hm0, hm1, hp, hn, k⟩ := h
  have hu := hu_of hr
  have nd := scdraw.nd
  refine ⟨_, (pss_cons (ps_if (pt_cmpR op_ge (pe_dget hu (pv 0) pe_str (fun _ _ => rfl)) (pv 1) (nomark _))
      (pss_cons (ps_set (i := 2) nd rfl (Or.inl rfl) (pe_op op_mod (pe_callTy c_int (by rfl) T.int (by decide +kernel) (pa_cons (pe_dget hu (pv 0) pe_str (fun _ _ => rfl)) pa_nil)) (pv 1)))
        (pss_cons (ps_dput hu (pv 0) pe_str (pe_op op_fdivW (pe_dget hu (pv 0) pe_str (fun _ _ => rfl)) (pv 1)) rfl)
        (pss_one (ps_ret (pv 2)))))
      pss_nil)
      (pss_cons (ps_set (i := 3) nd rfl (Or.inl rfl) (pe_dget hu (pv 0) pe_str (fun _ _ => rfl)))
      (pss_cons (ps_dput hu (pv 0) pe_str (pe_op op_add (pv 3) pe_int) rfl)
      (pss_cons (ps_set (i := 4) nd rfl (Or.inl rfl) (pe_op op_add (pe_op op_mul pe_int (pv 3)) pe_int))
      (pss_cutS (ps_if (pt_cmpR (op_neDK (K := K) rfl hr.units) (pe_dget hu (pv 0) pe_str (fun _ _ => rfl)) (pe_lst pa_nil) (nomark _))
      (pss_one (ps_set (i := 4) nd rfl (Or.inl rfl) (pe_ix (ix_LK (K := K) rfl) (pe_dget hu (pv 0) pe_str (fun _ _ => rfl)) (pe_op op_mod (pe_callTy c_int (by rfl) T.int (by decide +kernel) (pa_cons (pv 3) pa_nil)) (pe_callB (c_lenK (K := K) rfl) (by rfl) T.len PySem.boot_len (pa_cons (pe_dget hu (pv 0) pe_str (fun _ _ => rfl)) pa_nil))) (fun _ _ => rfl))))
      pss_nil)
      (pss_cutS (ps_if (PW.pt (pw_and (pt_cmpR op_lt (pv 3) (pe_callB (c_lenK (K := K) rfl) (by rfl) T.len PySem.boot_len (pa_cons (pe_dget hu (pv 0) pe_str (fun _ _ => rfl)) pa_nil)) (nomark _)) (pw_and1 (pt_cmpR op_ge (pv 4) (pe_op op_pow pe_int pe_int) (nomark _)))))
      (pss_cons (ps_dput hu (pv 0) pe_str (pe_op op_fdivW (pe_op op_sub (pv 4) (pe_op op_pow pe_int pe_int)) (pv 1)) rfl)
        (pss_one (ps_ret (pe_op op_mod (pe_callTy c_int (by rfl) T.int (by decide +kernel) (pa_cons (pe_op op_sub (pv 4) (pe_op op_pow pe_int pe_int)) pa_nil)) (pv 1)))))
      pss_nil)
      (pss_cons (ps_set (i := 5) nd rfl (Or.inl rfl) (pe_op op_mod (pe_callTy c_int (by rfl) T.int (by decide +kernel) (pa_cons (pe_op op_add (pe_op op_add (pe_op op_add (pe_op op_mul (pe_op op_mod (pe_callTy c_int (by rfl) T.int (by decide +kernel) (pa_cons (pv 4) pa_nil)) pe_int) pe_int) (pe_op op_mul (pe_op op_mul pe_int (pv 3)) (pv 3))) (pe_op op_mul pe_int (pv 3))) pe_int) pa_nil)) pe_int))
      (pss_cons (ps_set (i := 5) nd rfl (Or.inl rfl) (pe_op op_mod (pe_callTy c_int (by rfl) T.int (by decide +kernel) (pa_cons (pe_op op_add (pe_op op_mul (pv 5) (pe_op op_add (pv 5) pe_int)) (pe_op op_mul pe_int (pv 3))) pa_nil)) pe_int))
      (pss_one (ps_ret (pe_op op_mod (pe_callTy c_int (by rfl) T.int (by decide +kernel) (pa_cons (pe_op op_fdivW (pe_op op_mod (pe_callTy c_int (by rfl) T.int (by decide +kernel) (pa_cons (pe_op op_add (pe_op op_mul (pv 5) (pv 5)) (pe_op op_mul pe_int (pv 5))) pa_nil)) pe_int) pe_int) pa_nil)) (pv 1)))))))))))), ?_⟩
  refine s_start [some _, some _, none, none, none, none] rfl ?_
  obtain ⟨a, r, h1, h2, h3, h4, h5, h6⟩ := hp.ex
  dsimp only at h1 h2 h3 k ⊢
  have g1 := pen_rest h1
  have g2 := pen_place h1
  have g3 := pen_cells h1
  have fin : ∀ (H2 : Hp) (a2 r2 z : Int), H2 p = some (.dK (penL cl a2 r2)) → Keep p H H2 → 0 ≤ a2 → a2 ≤ a + 1 → 0 ≤ r2 → 0 ≤ z → z < m → Q (.int z) H2 := by
    intro H2 a2 r2 z e1 e2 e3 e4 e5 e6 e7
    have ne : cl ≠ p := ne_of h2 h1 (by intro z; cases z)
    exact k z H2 e6 e7 ⟨a2, r2, e1, e2 _ _ h2 ne, h3, e3, by omega, e5⟩ e2
  walk_at "go"
  refine if_dec (fun c => ?_) (fun c => ?_)
  · walk_at "go"
    refine v_put (pen_setRest h1) fun H1 s1 e1 => ?_
    walk_at "go"
    refine fin H1 _ _ _ e1 s1 h4 (by omega) (Int.ediv_nonneg h6 (by omega)) (Int.emod_nonneg _ (by omega)) (Int.emod_lt_of_pos _ hm0)
  · walk_at "go"
    refine v_put (pen_setPlace h1) fun H1 s1 e1 => ?_
    have ne : cl ≠ p := ne_of h2 h1 (by intro z; cases z)
    have h2' := s1 _ _ h2 ne
    have g1 := pen_rest e1
    have g3 := pen_cells e1
    walk_at "go"
    refine s_cut (fun σ' H' => ∃ c : Int, σ' = [some (.ref p), some (.int m), none, some (.int a), some (.int c), none] ∧ Same H1 H') ?_ ?_
    · walk_at "go"
      intro q H2 hq s2 e2
      refine v_neNilI (s2 _ _ h2') e2 ?_
      have g3 := pen_cells (s2 _ _ e1)
      walk_at "go"
      refine if_bool (fun c => ?_) (fun c => ?_)
      · have hne : 0 < cells.length := by
          cases cells with
          | nil => simp at c
          | cons _ _ => simp
        walk_at "go"
        · rw [List.length_map]; omega
        walk_at "go"
        rw [List.length_map]
        have hz0 : 0 ≤ a % (cells.length : Int) := Int.emod_nonneg _ (by omega)
        have hz1 : a % (cells.length : Int) < cells.length := Int.emod_lt_of_pos _ (by omega)
        have hlt : (a % (cells.length : Int)).toNat < cells.length := by omega
        refine v_ixL (s2 _ _ h2') (at_of (j := (a % (cells.length : Int)).toNat) (by omega) (by rw [List.getElem?_map, List.getElem?_eq_getElem hlt]; rfl)) ?_
        exact ⟨_, rfl, s2⟩
      · walk_at "go"
        exact ⟨_, rfl, s2⟩
    · rintro σ' H2 ⟨c, rfl, s2⟩
      have e2 := s2 _ _ e1
      have h22 := s2 _ _ h2'
      have g3 := pen_cells e2
      have kk : Keep p H H2 := s1.trans (Keep.of s2)
      have ze : (10 : Int) ^ (18 : Int).toNat = 1000000000000000000 := by decide
      refine s_cut (fun σ' H' => σ' = [some (.ref p), some (.int m), none, some (.int a), some (.int c), none] ∧ H' = H2) ?_ ?_
      · walk_at "go"
        refine if_dec (fun c1 => ?_) (fun c1 => ?_)
        · walk_at "go"
          rw [ze]
          refine if_dec (fun c2 => ?_) (fun c2 => ?_)
          · walk_at "go"
            rw [ze]
            refine v_put (pen_setRest e2) fun H3 s3 e3 => ?_
            walk_at "go"
            rw [ze]
            exact fin H3 _ _ _ e3 (kk.trans s3) (by omega) (by omega) (Int.ediv_nonneg (by omega) (by omega)) (Int.emod_nonneg _ (by omega)) (Int.emod_lt_of_pos _ hm0)
          · walk_at "go"
            exact ⟨rfl, rfl⟩
        · walk_at "go"
          exact ⟨rfl, rfl⟩
      · rintro σ' H' ⟨rfl, rfl⟩
        walk_at "go"
        exact fin H' _ _ _ e2 kk (by omega) (by omega) h6 (Int.emod_nonneg _ (by omega)) (Int.emod_lt_of_pos _ hm0)
end
end
section
open PySem PySem.Spec L2
structure TxtP (K : PySem.W.Frag) (mg : Str → Option Value) (C : Addr) : Prop where
  len : mg "len" = none
  int : mg "int" = none
  list : mg "list" = none
  isinstance : mg "isinstance" = none
  str : mg "str" = none
  all : mg "all" = none
  set : mg "set" = none
  tuple : mg "tuple" = none
  g_LETTERS : ∃ t, mg "LETTERS" = some (.str (tx LET) t)
  g_MOST_KINDS : ∃ t, mg "MOST_KINDS" = some (.int 8 t)
  Plan : ClsF K mg "Plan" C
  nK : NoAttr K C "kinds"
  nP : NoAttr K C "pairs"
  nO : NoAttr K C "own_crossing"
def spAreLetters : Sp := fun vs H Q _ => ∃ l : List Nat, vs = [.str (tx l)] ∧ l.length < 1000 ∧ ∀ H', Same H H' → Q (.bl (decide ((∀ c ∈ l, c ∈ LET) ∧ l.Nodup))) H'
def spAscending : Sp := fun vs H Q _ => ∃ l : List Nat, vs = [.str (tx l)] ∧ ∀ H', Same H H' → Q (.str (tx (ascOf l))) H'
def spIsList (K : PySem.W.Frag) : Sp := fun vs H Q _ => ∃ (p : Addr) (xs : List V), vs = [.ref p] ∧ SeqO K H p xs ∧ ∀ H', Same H H' → Q (.bl true) H'
def spNeedFew : Sp := fun vs H Q _ => ∃ l : List Nat, vs = [.str (tx l)] ∧ l.length ≤ 8 ∧ Q .non H
section
variable {P : Program} {w : World} {K : PySem.W.Frag} {mg : Str → Option Value} {base : Heap} {C : Addr}
abbrev stare_letters : Stmt := (top 25)
abbrev Nare_letters : List Str := ["value", "letter"]
theorem scare_letters : FnScope Nare_letters ["value"] (defScope stare_letters) := ⟨rfl, rfl, rfl, by decide +kernel, rfl, by decide +kernel, by decide +kernel⟩

theorem ok_are_letters (F : FnAt K mg "are_letters" stare_letters) (T : TxtP K mg C) : Def P w K mg base CX0 1 "are_letters" ["value"] spAreLetters := by
  refine F.ok scare_letters (fun _ _ _ _ _ _ us hl => match us, hl with | [_], _ => rfl) (fun vs H Q E h => ?_) (fun f cdv A outer s H vs Q E hr h => ?_)
  · obtain ⟨l, rfl, _⟩ := h
    rfl
  obtain ⟨l, rfl, hl, k⟩ := h
  have hu := hu_of hr
  have nd := scare_letters.nd
  refine ⟨_, (pss_one (ps_ret (pe_and (pe_callB (c_isiK (K := K) rfl) (by rfl) T.isinstance (by decide +kernel) (pa_cons (pv 0) (pa_cons (pe_bltn (v := .ty "str") (u := .type "str") (by rfl) T.str (by decide +kernel) rfl) pa_nil))) (pe_and (pe_callB (c_allK (K := K) rfl rfl) (by rfl) T.all (by decide +kernel) (pa_cons (pe_lc (own := [("letter", 1)]) (g := gName 1) (by rfl) nd (pi_str (pv 0)) (blkOk_by (own := [("letter", 1)]) (N := Nare_letters) (sc := defScope stare_letters) (by decide +kernel)) (fun _ _ _ _ _ => (pg_name (i := 1) nd rfl (Or.inl rfl))) (fun _ _ _ _ _ => pts_nil) (fun _ _ _ _ _ => (pe_cmpR op_inS (pv 1) (pe_globS T.g_LETTERS) (by rfl)))) pa_nil)) (pe_one (pe_cmpR op_eq (pe_callB c_lenSet (by rfl) T.len PySem.boot_len (pa_cons (pe_callTy (c_setS rfl) (by rfl) T.set (by decide +kernel) (pa_cons (pv 0) pa_nil)) pa_nil)) (pe_callB c_lenS (by rfl) T.len PySem.boot_len (pa_cons (pv 0) pa_nil)) (nomark _))))))), ?_⟩
  refine s_start [some _, none] rfl ?_
  walk_at "go"
  refine v_lcS (b := fun _ => true) (f := fun c => V.bl (decide (c ∈ LET))) (by omega) (fun c _ H1 s1 R r => ?_) (fun c _ _ H1 s1 R r => ?_) (fun D H1 hD s1 e1 => ?_)
  · walk_at "go"
    exact r H1 (Same.refl _)
  · walk_at "go"
    exact r H1 (Same.refl _)
  walk_at "go"
  have e2 : H1 D = some (.lst ((l.map fun c => decide (c ∈ LET)).map V.bl)) := by
    rw [e1, List.map_map, filter_yes]
    rfl
  refine v_all e2 ?_
  walk_at "go"
  have ha : (l.map fun c => decide (c ∈ LET)).all id = decide (∀ c ∈ l, c ∈ LET) := by
    rw [Bool.eq_iff_iff, List.all_eq_true, decide_eq_true_iff]
    simp
  rw [ha]
  refine if_dec (fun c => ?_) (fun c => ?_)
  · walk_at "go"
    refine v_setS (by omega) fun p H2 hp s2 e2 => ?_
    walk_at "go"
    have e3 : decide (V.int ((metOf (l.map fun c => tx [c])).length : Int) = V.int (l.length : Int)) = decide ((∀ c ∈ l, c ∈ LET) ∧ l.Nodup) := by
      rw [dec_int, Bool.eq_iff_iff, decide_eq_true_iff, beq_iff_eq]
      have := metOf_ones l
      constructor
      · intro e
        exact ⟨c, this.mp (by omega)⟩
      · intro e
        have := this.mpr e.2
        omega
    rw [e3]
    exact k H2 (s1.trans s2)
  · have e3 : decide ((∀ c ∈ l, c ∈ LET) ∧ l.Nodup) = false := decide_eq_false fun z => c z.1
    rw [e3] at k
    exact k H1 s1
abbrev stascending : Stmt := (top 26)
abbrev Nascending : List Str := ["letters", "letter"]
theorem scascending : FnScope Nascending ["letters"] (defScope stascending) := ⟨rfl, rfl, rfl, by decide +kernel, rfl, by decide +kernel, by decide +kernel⟩

theorem ok_ascending (F : FnAt K mg "ascending" stascending) (T : TxtP K mg C) : Def P w K mg base CX0 1 "ascending" ["letters"] spAscending := by
  refine F.ok scascending (fun _ _ _ _ _ _ us hl => match us, hl with | [_], _ => rfl) (fun vs H Q E h => ?_) (fun f cdv A outer s H vs Q E hr h => ?_)
  · obtain ⟨l, rfl, _⟩ := h
    rfl
  obtain ⟨l, rfl, k⟩ := h
  have hu := hu_of hr
  have nd := scascending.nd
  refine ⟨_, (pss_one (ps_ret (pe_joinK (K := K) rfl (pe_tx [] (by decide +kernel)) (pe_lc (own := [("letter", 1)]) (g := gName 1) (by rfl) nd (pi_str (pe_globS T.g_LETTERS)) (blkOk_by (own := [("letter", 1)]) (N := Nascending) (sc := defScope stascending) (by decide +kernel)) (fun _ _ _ _ _ => (pg_name (i := 1) nd rfl (Or.inl rfl))) (fun _ _ _ _ _ => (pts_one (pt_cmpR op_inS (pv 1) (pv 0) (by rfl)))) (fun _ _ _ _ _ => (pv 1)))))), ?_⟩
  refine s_start [some _, none] rfl ?_
  walk_at "go"
  refine v_lcS (l := LET) (b := fun c => decide (c ∈ l)) (f := fun c => V.str (tx [c])) (by decide) (fun c _ H1 s1 R r => ?_) (fun c _ _ H1 s1 R r => ?_) (fun D H1 hD s1 e1 => ?_)
  · walk_at "go"
    exact r H1 (Same.refl _)
  · walk_at "go"
    exact r H1 (Same.refl _)
  walk_at "go"
  rw [strs_ones] at e1
  refine v_join e1 ?_ ?_
  · rw [flat_ones]
    have := ascOf_len l
    unfold ascOf at this
    omega
  · rw [flat_ones]
    exact k H1 s1
abbrev stis_list : Stmt := (top 17)
abbrev Nis_list : List Str := ["value"]
theorem scis_list : FnScope Nis_list ["value"] (defScope stis_list) := ⟨rfl, rfl, rfl, by decide +kernel, rfl, by decide +kernel, by decide +kernel⟩

theorem ok_is_list (F : FnAt K mg "is_list" stis_list) (T : TxtP K mg C) : Def P w K mg base CX0 1 "is_list" ["value"] (spIsList K) := by
  refine F.ok scis_list (fun _ _ _ _ _ _ us hl => match us, hl with | [_], _ => rfl) (fun vs H Q E h => ?_) (fun f cdv A outer s H vs Q E hr h => ?_)
  · obtain ⟨p, xs, rfl, _⟩ := h
    rfl
  obtain ⟨p, xs, rfl, hp, k⟩ := h
  have hu := hu_of hr
  have nd := scis_list.nd
  refine ⟨_, (pss_one (ps_ret (pe_callB (c_isiTK (K := K) rfl) (by rfl) T.isinstance (by decide +kernel) (pa_cons (pv 0) (pa_cons (pe_tup (pa_cons (pe_bltn (v := .ty "list") (u := .type "list") (by rfl) T.list (by decide +kernel) rfl) (pa_cons (pe_bltn (v := .ty "tuple") (u := .type "tuple") (by rfl) T.tuple (by decide +kernel) rfl) pa_nil))) pa_nil))))), ?_⟩
  refine s_start [some _] rfl ?_
  walk_at "go"
  intro t H1 ht s1 e1
  walk_at "go"
  exact v_isiQ (hp.same s1) e1 (k H1 s1)
abbrev stneed_few : Stmt := (top 29)
abbrev Nneed_few : List Str := ["kinds"]
theorem scneed_few : FnScope Nneed_few ["kinds"] (defScope stneed_few) := ⟨rfl, rfl, rfl, by decide +kernel, rfl, by decide +kernel, by decide +kernel⟩

theorem ok_need_few (F : FnAt K mg "need_few" stneed_few) (T : TxtP K mg C) : Def P w K mg base CX0 1 "need_few" ["kinds"] spNeedFew := by
  refine F.ok scneed_few (fun _ _ _ _ _ _ us hl => match us, hl with | [_], _ => rfl) (fun vs H Q E h => ?_) (fun f cdv A outer s H vs Q E hr h => ?_)
  · obtain ⟨l, rfl, _⟩ := h
    rfl
  obtain ⟨l, rfl, hl, k⟩ := h
  have hu := hu_of hr
  have nd := scneed_few.nd
  refine ⟨_, (pss_one (ps_if (pt_cmpR op_gt (pe_callB c_lenS (by rfl) T.len PySem.boot_len (pa_cons (pv 0) pa_nil)) (pe_globI T.g_MOST_KINDS) (nomark _))
      (pss_one ps_never)
      pss_nil)), ?_⟩
  refine s_start [some _] rfl ?_
  walk_at "go"
  refine if_dec (fun c => ?_) (fun c => ?_)
  · omega
  · walk_at "go"
    exact k
end
end
section
open PySem PySem.Spec L2
def spChecked (K : PySem.W.Frag) : Sp := fun vs H Q _ => ∃ (ks : List Nat) (p : Addr) (ps : List (List Nat)), vs = [.str (tx ks), .ref p] ∧ SeqO K H p (strsV ps) ∧ ps.length < 1000 ∧ PairsIn ks ps ∧ (∀ c ∈ ks, c ∈ LET) ∧
  ∀ t H', H t = none → Same H H' → H' t = some (.tup (strsV (pairsOf (ps.map ascOf)))) → Q (.ref t) H'
def spCross : Sp := fun vs H Q _ => ∃ (ks : List Nat) (t : Addr) (ps : List (List Nat)), vs = [.str (tx ks), .ref t] ∧ H t = some (.tup (strsV ps)) ∧ ks.length < 1000 ∧ ks.Nodup ∧
  ∀ d H', H d = none → Same H H' → H' d = some (.dK (crossKV ks ps ks)) → Q (.ref d) H'
section
variable {P : Program} {w : World} {K : PySem.W.Frag} {mg : Str → Option Value} {base : Heap} {C : Addr}
abbrev stchecked_pairs : Stmt := (top 27)
abbrev Nchecked_pairs : List Str := ["kinds", "crossing", "found", "pair", "a", "b"]
theorem scchecked_pairs : FnScope Nchecked_pairs ["kinds", "crossing"] (defScope stchecked_pairs) := ⟨rfl, rfl, rfl, by decide +kernel, rfl, by decide +kernel, by decide +kernel⟩

theorem ok_checked_pairs (F : FnAt K mg "checked_pairs" stchecked_pairs) (T : TxtP K mg C) (D_is_list : Def P w K mg base CX0 1 "is_list" ["value"] (spIsList K)) (D_are_letters : Def P w K mg base CX0 1 "are_letters" ["value"] spAreLetters) (D_ascending : Def P w K mg base CX0 1 "ascending" ["letters"] spAscending) :
    Def P w K mg base CX0 2 "checked_pairs" ["kinds", "crossing"] (spChecked K) := by
  refine F.ok scchecked_pairs (fun _ _ _ _ _ _ us hl => match us, hl with | [_, _], _ => rfl) (fun vs H Q E h => ?_) (fun f cdv A outer s H vs Q E hr h => ?_)
  · obtain ⟨ks, p, ps, rfl, _⟩ := h
    rfl
  obtain ⟨ks, p, ps, rfl, hp, hl, hps, hks, k⟩ := h
  have hu := hu_of hr
  have nd := scchecked_pairs.nd
  refine ⟨_, (pss_cons (ps_if (pt_not (pt_val (pe_cd D_is_list hr pass0 (pa_cons (pv 1) pa_nil))))
      (pss_one ps_never)
      pss_nil)
      (pss_cons (ps_set (i := 2) nd rfl (Or.inr rfl) (pe_lst pa_nil))
      (pss_cons (ps_for PassesOwn.never rfl (pi_or (pi_listK (K := K) rfl (pv 1)) (pi_tupK (K := K) rfl (pv 1))) (pg_name (i := 3) nd rfl (Or.inl rfl))
      (pss_cutS (ps_if (PW.pt (pw_or (pt_not (pt_val (pe_callB (c_isiK (K := K) rfl) (by rfl) T.isinstance (by decide +kernel) (pa_cons (pv 3) (pa_cons (pe_bltn (v := .ty "str") (u := .type "str") (by rfl) T.str (by decide +kernel) rfl) pa_nil))))) (pw_or (pt_cmpR op_ne (pe_callB c_lenS (by rfl) T.len PySem.boot_len (pa_cons (pv 3) pa_nil)) pe_int (nomark _)) (pw_or1 (pt_not (pt_val (pe_cd D_are_letters hr pass0 (pa_cons (pv 3) pa_nil))))))))
        (pss_one ps_never)
        pss_nil)
        (pss_cutS (ps_if (PW.pt (pw_or (pt_cmpR op_notInS (pe_ix ix_str (pv 3) pe_int (fun _ _ => rfl)) (pv 0) (by rfl)) (pw_or1 (pt_cmpR op_notInS (pe_ix ix_str (pv 3) pe_int (fun _ _ => rfl)) (pv 0) (by rfl)))))
        (pss_one ps_never)
        pss_nil)
        (pss_one (ps_expr (pe_appK (K := K) rfl (pv 2) (pe_cd D_ascending hr pass0 (pa_cons (pv 3) pa_nil))))))))
      (pss_one (ps_ret (pe_callTy (c_tupleK (K := K) rfl) (by rfl) T.tuple (by decide +kernel) (pa_cons (pe_lc2 (own := [("a", 4), ("b", 5)]) (vs1 := [5]) (by rfl) nd (pi_str (pe_globS T.g_LETTERS)) (blkOk_by (own := [("a", 4), ("b", 5)]) (N := Nchecked_pairs) (sc := defScope stchecked_pairs) (by decide +kernel)) (by decide) (fun _ _ _ _ _ => (pg_name (i := 4) nd rfl (Or.inl rfl))) (fun _ _ _ _ _ => pts_nil) (fun _ _ _ _ _ => (pi_str (pe_globS T.g_LETTERS))) (fun _ _ _ _ _ => (pg_name (i := 5) nd rfl (Or.inl rfl))) (fun _ _ _ _ _ => (pts_one (pt_cmpR (op_inLK (K := K) rfl) (pe_op op_addS (pv 4) (pv 5)) (pv 2) (by rfl)))) (fun _ _ _ _ _ => (pe_op op_addS (pv 4) (pv 5)))) pa_nil))))))), ?_⟩
  refine s_start [some _, some _, none, none, none, none] rfl ?_
  walk_at "go"
  refine ⟨p, _, rfl, hp, fun H1 s1 => ?_⟩
  walk_at "go"
  intro q H2 hq s2 e2
  walk_at "go"
  refine e_forSeq (xs := strsV ps) hp (s1.trans s2) (fun Q q => by walk_at "go"; exact q) (fun k σ H' => ∃ x, σ = [some (.str (tx ks)), some (.ref p), some (.ref q), x, none, none] ∧ Same H H' ∧ H' q = some (.lst (strsV ((ps.take k).map ascOf)))) ⟨_, rfl, s1.trans s2, e2⟩ ?_ ?_ ?_
  · rintro i σ H' ⟨x, rfl, s3, e3⟩
    exact s3
  · rintro i v σ H3 H4 hi ⟨x, rfl, s3, e3⟩ ⟨rfl, hv⟩
    have hi' : i < ps.length := by simpa using hi
    obtain ⟨a, b, hab, hne, ha, hb⟩ := hps _ (List.getElem_mem hi')
    have hv' : v = .str (tx [a, b]) := by
      have : (strsV ps)[i]? = some (V.str (tx ps[i])) := by
        rw [List.getElem?_map, List.getElem?_eq_getElem hi']
        rfl
      rw [hv, hab] at this
      exact Option.some.inj this
    subst hv'
    have ha2 := hks a ha
    have hb2 := hks b hb
    refine s_cut (fun σ' H' => σ' = [some (.str (tx ks)), some (.ref p), some (.ref q), some (.str (tx [a, b])), none, none] ∧ Same H4 H') ?_ ?_
    · walk_at "go"
      refine if_ndec (fun c => absurd rfl c) (fun _ => ?_)
      walk_at "go"
      refine ⟨[a, b], rfl, by simp, fun H5 s5 => ?_⟩
      have e5 : decide ((∀ c ∈ [a, b], c ∈ LET) ∧ [a, b].Nodup) = true := by
        rw [decide_eq_true_iff]
        refine ⟨?_, by simp [hne]⟩
        intro c hc
        simp only [List.mem_cons, List.not_mem_nil, or_false] at hc
        rcases hc with rfl | rfl <;> assumption
      rw [e5]
      walk_at "go"
      exact ⟨rfl, s5⟩
    · rintro σ' H5 ⟨rfl, s5⟩
      refine s_cut (fun σ' H' => σ' = [some (.str (tx ks)), some (.ref p), some (.ref q), some (.str (tx [a, b])), none, none] ∧ H' = H5) ?_ ?_
      · walk_at "go"
        refine v_ixS (c := a) (by simp) rfl ?_
        walk_at "go"
        refine if_ndec (fun c => absurd ha c) (fun _ => ?_)
        walk_at "go"
        refine v_ixS (c := b) (by simp) rfl ?_
        walk_at "go"
        refine if_ndec (fun c => absurd hb c) (fun _ => ?_)
        walk_at "go"
        exact ⟨rfl, rfl⟩
      · rintro σ' H6 ⟨rfl, rfl⟩
        have e6 := s5 _ _ e3
        walk_at "go"
        refine ⟨[a, b], rfl, fun H7 s7 => ?_⟩
        walk_at "go"
        refine v_app (s7 _ _ e6) ?_ fun H8 s8 e8 => ?_
        · simp only [strsV, List.length_map, List.length_take]
          omega
        refine ⟨_, rfl, fun b' o hb' => s8 _ _ (s7 _ _ (s5 _ _ (s3 _ _ hb'))) (ne_of_none hb' (L2.Same.free s1 hq)), ?_⟩
        rw [e8, List.take_add_one, List.getElem?_eq_getElem hi', hab, List.map_append]
        simp only [strsV, List.map_append]
        rfl
  · rintro σ H3 ⟨x, rfl, s3, e3⟩
    walk_at "go"
    rw [List.take_of_length_le (by simp)] at e3
    refine v_lc2S (lb := LET) (b := fun a b => decide ([a, b] ∈ ps.map ascOf)) (f := fun a b => V.str (tx [a, b])) (by decide) (by decide) (fun c _ H1 s1 R r => r) (fun c d _ _ H1 s1 R r => ?_) (fun c d _ _ _ H1 s1 R r => ?_) (fun D H5 hD s5 e5 => ?_)
    · have e1 := s1 _ _ e3
      walk_at "go"
      exact r H1 (Same.refl _)
    · walk_at "go"
      exact r H1 (Same.refl _)
    · walk_at "go"
      refine v_tuple e5 fun t H6 ht s6 e6 => ?_
      refine k t H6 (L2.Same.free s3 (L2.Same.free s5 ht)) ((s3.trans s5).trans s6) ?_
      rw [e6]
      unfold strsV pairsOf
      rw [List.map_flatMap]
      simp only [List.map_map]
      rfl
abbrev stcrossing_table : Stmt := (top 31)
abbrev Ncrossing_table : List Str := ["kinds", "pairs", "found", "kind", "other"]
theorem sccrossing_table : FnScope Ncrossing_table ["kinds", "pairs"] (defScope stcrossing_table) := ⟨rfl, rfl, rfl, by decide +kernel, rfl, by decide +kernel, by decide +kernel⟩

theorem ok_crossing_table (F : FnAt K mg "crossing_table" stcrossing_table) (T : TxtP K mg C) : Def P w K mg base CX0 1 "crossing_table" ["kinds", "pairs"] spCross := by
  refine F.ok sccrossing_table (fun _ _ _ _ _ _ us hl => match us, hl with | [_, _], _ => rfl) (fun vs H Q E h => ?_) (fun f cdv A outer s H vs Q E hr h => ?_)
  · obtain ⟨ks, t, ps, rfl, _⟩ := h
    rfl
  obtain ⟨ks, t, ps, rfl, ht, hl, hnd, k⟩ := h
  have hu := hu_of hr
  have nd := sccrossing_table.nd
  refine ⟨_, (pss_cons (ps_set (i := 2) nd rfl (Or.inl rfl) pe_dnewK)
      (pss_cons (ps_for PassesOwn.never rfl (pi_str (pv 0)) (pg_name (i := 3) nd rfl (Or.inr rfl))
      (pss_one (ps_dput hu (pv 2) (pv 3) (pe_joinK (K := K) rfl (pe_tx [] (by decide +kernel)) (pe_lc (own := [("other", 4)]) (g := gName 4) (by rfl) nd (pi_str (pv 0)) (blkOk_by (own := [("other", 4)]) (N := Ncrossing_table) (sc := defScope stcrossing_table) (by decide +kernel)) (fun _ _ _ _ _ => (pg_name (i := 4) nd rfl (Or.inl rfl))) (fun _ _ _ _ _ => (pts_one (PW.pt (pw_or (pt_cmpR (op_inLK (K := K) rfl) (pe_op op_addS (pv 3) (pv 4)) (pv 1) (by rfl)) (pw_or1 (pt_cmpR (op_inLK (K := K) rfl) (pe_op op_addS (pv 4) (pv 3)) (pv 1) (by rfl))))))) (fun _ _ _ _ _ => (pv 4)))) rfl)))
      (pss_one (ps_ret (pv 2))))), ?_⟩
  refine s_start [some _, some _, none, none, none] rfl ?_
  walk_at "go"
  intro d H1 hd s1 e1
  walk_at "go"
  refine for_it (walk_tx ks) (fun k σ H' => ∃ x, σ = [some (.str (tx ks)), some (.ref t), some (.ref d), x, none] ∧ Same H H' ∧ H' d = some (.dK (crossKV ks ps (ks.take k)))) ⟨_, rfl, s1, e1⟩ (fun _ _ _ _ _ => trivial) ?_ ?_
  · rintro i v σ H2 H3 hi ⟨x, rfl, s2, e2⟩ ⟨rfl, rfl⟩
    have h0 := s2 _ _ ht
    show sDPut _ _ _ _ _ _
    walk_at "go"
    refine v_lcS (b := fun o => decide ([ks.getD i 0, o] ∈ ps) || decide ([o, ks.getD i 0] ∈ ps)) (f := fun c => V.str (tx [c])) (by omega) (fun c _ H1 s1 R r => ?_) (fun c _ _ H1 s1 R r => ?_) (fun D H4 hD s4 e4 => ?_)
    · have h1 := s1 _ _ h0
      walk_at "go"
      refine v_inT (SqT.of h1) ?_
      walk_at "go"
      refine if_dec (fun c1 => ?_) (fun c1 => ?_)
      · rw [show [ks.getD i 0] ++ [c] = [ks.getD i 0, c] from rfl] at c1
        rw [decide_eq_true c1, Bool.true_or] at r
        exact r H1 (Same.refl _)
      · rw [show [ks.getD i 0] ++ [c] = [ks.getD i 0, c] from rfl] at c1
        walk_at "go"
        refine v_inT (SqT.of h1) ?_
        walk_at "go"
        rw [decide_eq_false c1, Bool.false_or] at r
        exact r H1 (Same.refl _)
    · walk_at "go"
      exact r H1 (Same.refl _)
    walk_at "go"
    rw [strs_ones] at e4
    refine v_join e4 ?_ ?_
    · rw [flat_ones]
      have := crossOf_len ks ps (ks.getD i 0)
      unfold crossOf at this
      omega
    rw [flat_ones]
    walk_at "go"
    have e5 := s4 _ _ e2
    have hz : valV (crossKV ks ps (ks.take i)) (Sum.inr (tx [ks.getD i 0])) = none := letV_none (take_notin hnd hi)
    refine v_put (DPut.cross e5 hz ?_) fun H6 s6 e6 => ?_
    · unfold crossKV
      rw [List.length_map, List.length_take]
      omega
    refine ⟨_, rfl, fun b o hb => s6 _ _ (s4 _ _ (s2 _ _ hb)) (ne_of_none hb hd), ?_⟩
    rw [e6, take_getD hi]
    unfold crossKV
    rw [List.map_append]
    rfl
  · rintro σ H2 ⟨x, rfl, s2, e2⟩
    rw [List.take_of_length_le (Nat.le_refl _)] at e2
    walk_at "go"
    exact k d H2 hd s2 e2
end
end
section
open PySem PySem.Spec L2
def planF (ks : List Nat) (t d : Addr) : List (Str × V) := putF "own_crossing" (.ref d) (putF "pairs" (.ref t) (putF "kinds" (.str (tx ks)) []))
theorem nkp : ¬ (("kinds" : Str) = "pairs") := by decide +kernel
theorem nko : ¬ (("kinds" : Str) = "own_crossing") := by decide +kernel
theorem npo : ¬ (("pairs" : Str) = "own_crossing") := by decide +kernel
section
variable {ks : List Nat} {t d : Addr}
theorem planF_k : (planF ks t d).lookup ("kinds" : Str) = some (.str (tx ks)) := by
  unfold planF
  rw [lookup_putF, if_neg nko, lookup_putF, if_neg nkp, lookup_putF, if_pos rfl]
theorem planF_p : (planF ks t d).lookup ("pairs" : Str) = some (.ref t) := by
  unfold planF
  rw [lookup_putF, if_neg npo, lookup_putF, if_pos rfl]
theorem planF_o : (planF ks t d).lookup ("own_crossing" : Str) = some (.ref d) := by
  unfold planF
  rw [lookup_putF, if_pos rfl]
end
/-- a plan of the kinds ks and the pairs ps stands at x -/
structure PlanAt (C : Addr) (H : Hp) (x : Addr) (ks : List Nat) (ps : List (List Nat)) : Prop where
  ex : ∃ dx t d, H x = some (.ins C dx (planF ks t d)) ∧ H t = some (.tup (strsV ps)) ∧ H d = some (.dK (crossKV ks ps ks))
theorem PlanAt.same {C : Addr} {H H' : Hp} {x : Addr} {ks : List Nat} {ps : List (List Nat)} (h : PlanAt C H x ks ps) (s : Same H H') : PlanAt C H' x ks ps := by
  obtain ⟨dx, t, d, a, b, c⟩ := h.ex
  exact ⟨dx, t, d, s _ _ a, s _ _ b, s _ _ c⟩
/-- the plan at x does not rest on the object at b -/
def PlanOff (C : Addr) (H : Hp) (x b : Addr) : Prop := ∃ dx ks t d, H x = some (.ins C dx (planF ks t d)) ∧ b ≠ t ∧ b ≠ d
theorem PlanOff.same {C : Addr} {H H' : Hp} {x b : Addr} (h : PlanOff C H x b) (s : Same H H') : PlanOff C H' x b := by
  obtain ⟨dx, ks, t, d, e, n⟩ := h
  exact ⟨dx, ks, t, d, s _ _ e, n⟩
theorem PlanAt.off {C : Addr} {H H' : Hp} {x b : Addr} {ks : List Nat} {ps : List (List Nat)} (h : PlanAt C H x ks ps) (n : PlanOff C H x b) (nx : x ≠ b) (k : Keep b H H') : PlanAt C H' x ks ps := by
  obtain ⟨dx, t, d, a1, a2, a3⟩ := h.ex
  obtain ⟨dx', ks', t', d', e, n1, n2⟩ := n
  rw [a1] at e
  injection e with e
  injection e with _ _ e
  have e1 := planF_p (ks := ks) (t := t) (d := d)
  rw [e, planF_p] at e1
  injection e1 with e1
  injection e1 with e1
  have e2 := planF_o (ks := ks) (t := t) (d := d)
  rw [e, planF_o] at e2
  injection e2 with e2
  injection e2 with e2
  exact ⟨dx, t, d, k _ _ a1 nx, k _ _ a2 (fun z => n1 (z.symm.trans e1.symm)), k _ _ a3 (fun z => n2 (z.symm.trans e2.symm))⟩
/-- the kinds and pairs of Plan(l, ps) -/
abbrev kindsOf (l : List Nat) : List Nat := ascOf l
abbrev prsOf (ps : List (List Nat)) : List (List Nat) := pairsOf (ps.map ascOf)
def PlanArgs (K : PySem.W.Frag) (H : Hp) (l : List Nat) (p : Addr) (ps : List (List Nat)) : Prop := SeqO K H p (strsV ps) ∧ ps.length < 1000 ∧ PairsIn l ps ∧ (∀ c ∈ l, c ∈ LET) ∧ l.Nodup ∧ l.length ≤ 8
def spPlan0 (K : PySem.W.Frag) (C : Addr) : Sp := fun vs H Q _ => ∃ (x dx : Addr) (l : List Nat) (p : Addr) (ps : List (List Nat)), vs = [.ref x, .str (tx l), .ref p] ∧ H x = some (.ins C dx []) ∧ PlanArgs K H l p ps ∧
  ∀ H', Keep x H H' → PlanAt C H' x (kindsOf l) (prsOf ps) → (∀ b o, H b = some o → b ≠ x → PlanOff C H' x b) → Q .non H'
def spPlan (K : PySem.W.Frag) (C : Addr) : Sp := fun vs H Q _ => ∃ (l : List Nat) (p : Addr) (ps : List (List Nat)), vs = [.str (tx l), .ref p] ∧ PlanArgs K H l p ps ∧ ∀ x H', H x = none → Same H H' → PlanAt C H' x (kindsOf l) (prsOf ps) → (∀ b o, H b = some o → PlanOff C H' x b) → Q (.ref x) H'
theorem conv_plan (K : PySem.W.Frag) (C : Addr) : Conv C (spPlan0 K C) (spPlan K C) := by
  rintro vs H Q E ⟨l, p, ps, rfl, ⟨hp, hr⟩, k⟩ x dx hx hdx hne
  refine ⟨x, dx, l, p, ps, rfl, upd_same, ⟨hp.go fun o ho => by rw [upd_ne (ne_of_none ho hx), upd_ne (ne_of_none ho hdx)]; exact ho, hr⟩, fun H' s' a off => ⟨rfl, k x H' hx (fun b o hb => ?_) a fun b o hb => off b o (by rw [upd_ne (ne_of_none hb hx), upd_ne (ne_of_none hb hdx)]; exact hb) (ne_of_none hb hx)⟩⟩
  refine s' b o ?_ (ne_of_none hb hx)
  rw [upd_ne (ne_of_none hb hx), upd_ne (ne_of_none hb hdx)]
  exact hb
theorem asc_len {l : List Nat} (h1 : ∀ c ∈ l, c ∈ LET) (h2 : l.Nodup) : (ascOf l).length = l.length := by
  have p : (ascOf l).Perm l := by
    refine (List.perm_ext_iff_of_nodup (ascOf_nodup l) h2).mpr fun c => ?_
    rw [ascOf_mem]
    exact ⟨fun z => z.2, fun z => ⟨h1 c z, z⟩⟩
  exact p.length_eq
section
variable {P : Program} {w : World} {K : PySem.W.Frag} {mg : Str → Option Value} {base : Heap} {C : Addr}
abbrev stPlan_init : Stmt := (inClass (top 30) 0)
abbrev NPlan_init : List Str := ["self", "kinds", "crossing"]
theorem scPlan_init : FnScope NPlan_init ["self", "kinds", "crossing"] (defScope stPlan_init) := ⟨rfl, rfl, rfl, by decide +kernel, rfl, by decide +kernel, by decide +kernel⟩

theorem ok_Plan {dvs : List V} (F : MAtD K C "__init__" "Plan.__init__" stPlan_init dvs) (hd : dvs.length = 1) (T : TxtP K mg C) (D_are_letters : Def P w K mg base CX0 1 "are_letters" ["value"] spAreLetters) (D_ascending : Def P w K mg base CX0 1 "ascending" ["letters"] spAscending)
    (D_checked_pairs : Def P w K mg base CX0 2 "checked_pairs" ["kinds", "crossing"] (spChecked K)) (D_need_few : Def P w K mg base CX0 1 "need_few" ["kinds"] spNeedFew) (D_crossing_table : Def P w K mg base CX0 1 "crossing_table" ["kinds", "pairs"] spCross) :
    CMk P w K mg base CX0 3 "Plan" C (spPlan K C) ["self", "kinds", "crossing"] "Plan.__init__" stPlan_init dvs := by
  refine F.make (sp0 := spPlan0 K C) T.Plan scPlan_init (by intro z; rw [z] at hd; cases hd) (fun T kV doc pm an cdv ct us its l1 l2 => ?_) (fun vs H Q E h => ?_) (conv_plan K C) (fun f cdv A outer s H vs Q E hr h => ?_)
  · rw [hd] at l2 ⊢
    match us, l1, its, l2 with
    | [_, _, _], _, [_], _ => exact ⟨_, rfl, rfl⟩
  · obtain ⟨x, dx, l, p, ps, rfl, _⟩ := h
    rfl
  obtain ⟨x, dx, l, p, ps, rfl, hx, ⟨hp, h1, h2, h3, h4, h5⟩, k⟩ := h
  have hu := hu_of hr
  have nd := scPlan_init.nd
  replace D_are_letters := D_are_letters.mono (show 1 ≤ 2 by decide)
  replace D_ascending := D_ascending.mono (show 1 ≤ 2 by decide)
  replace D_need_few := D_need_few.mono (show 1 ≤ 2 by decide)
  replace D_crossing_table := D_crossing_table.mono (show 1 ≤ 2 by decide)
  refine ⟨_, (pss_cons (ps_if (pt_not (pt_val (pe_cd D_are_letters hr pass0 (pa_cons (pv 1) pa_nil))))
      (pss_one ps_never)
      pss_nil)
      (pss_cons (ps_flK (K := K) rfl (pv 0) (pe_cd D_ascending hr pass0 (pa_cons (pv 1) pa_nil)) rfl)
      (pss_cons (ps_flK (K := K) rfl (pv 0) (pe_cd D_checked_pairs hr pass0 (pa_cons (pe_flK (K := K) rfl (pv 0) rfl) (pa_cons (pv 2) pa_nil))) rfl)
      (pss_cons (ps_expr (pe_cd D_need_few hr pass0 (pa_cons (pe_flK (K := K) rfl (pv 0) rfl) pa_nil)))
      (pss_one (ps_flK (K := K) rfl (pv 0) (pe_cd D_crossing_table hr pass0 (pa_cons (pe_flK (K := K) rfl (pv 0) rfl) (pa_cons (pe_flK (K := K) rfl (pv 0) rfl) pa_nil))) rfl)))))), ?_⟩
  refine s_start [some _, some _, some _] rfl ?_
  walk_at "go"
  refine ⟨l, rfl, by omega, fun H1 s1 => ?_⟩
  rw [decide_eq_true (show (∀ c ∈ l, c ∈ LET) ∧ l.Nodup from ⟨h3, h4⟩)]
  walk_at "go"
  refine ⟨l, rfl, fun H2 s2 => ?_⟩
  walk_at "go"
  have s12 := s1.trans s2
  refine v_sfld (s12 _ _ hx) T.Plan.cl T.nK (by decide) fun H3 s3 e3 => ?_
  have hp3 := (hp.same s12).keepI s3 (s12 _ _ hx)
  walk_at "go"
  refine v_fld e3 T.Plan.cl T.nK (by rw [lookup_putF, if_pos rfl]) ?_
  walk_at "go"
  refine ⟨ascOf l, p, ps, rfl, hp3, h1, ?_, fun c hc => (ascOf_mem.mp hc).1, fun t H4 ht s4 e4 => ?_⟩
  · intro q hq
    obtain ⟨a, b, e, n, ha, hb⟩ := h2 q hq
    exact ⟨a, b, e, n, ascOf_mem.mpr ⟨h3 a ha, ha⟩, ascOf_mem.mpr ⟨h3 b hb, hb⟩⟩
  walk_at "go"
  refine v_sfld (s4 _ _ e3) T.Plan.cl T.nP (by show 1 < 1000; decide) fun H5 s5 e5 => ?_
  have nt : t ≠ x := fun z => by rw [z, e3] at ht; cases ht
  have e5t := s5 _ _ e4 nt
  walk_at "go"
  refine v_fld e5 T.Plan.cl T.nK (by rw [lookup_putF, if_neg nkp, lookup_putF, if_pos rfl]) ?_
  walk_at "go"
  refine ⟨ascOf l, rfl, by rw [asc_len h3 h4]; exact h5, ?_⟩
  walk_at "go"
  refine v_fld e5 T.Plan.cl T.nK (by rw [lookup_putF, if_neg nkp, lookup_putF, if_pos rfl]) ?_
  walk_at "go"
  refine v_fld e5 T.Plan.cl T.nP (by rw [lookup_putF, if_pos rfl]) ?_
  walk_at "go"
  refine ⟨ascOf l, t, _, rfl, e5t, by have := ascOf_len l; omega, ascOf_nodup l, fun d H6 hd s6 e6 => ?_⟩
  walk_at "go"
  refine v_sfld (s6 _ _ e5) T.Plan.cl T.nO (by show 2 < 1000; decide) fun H7 s7 e7 => ?_
  have ndx : d ≠ x := fun z => by rw [z, e5] at hd; cases hd
  refine k H7 (fun b o hb nb => s7 _ _ (s6 _ _ (s5 _ _ (s4 _ _ (s3 _ _ (s12 _ _ hb) nb)) nb)) nb) ⟨dx, t, d, e7, s7 _ _ (s6 _ _ e5t) nt, s7 _ _ e6 ndx⟩ fun b o hb nb => ⟨dx, _, t, d, e7, ?_, ?_⟩
  · exact ne_of_none (s3 _ _ (s12 _ _ hb) nb) ht
  · exact ne_of_none (s5 _ _ (s4 _ _ (s3 _ _ (s12 _ _ hb) nb)) nb) hd
end
end
section
open PySem PySem.Spec L2
/-- letters alone -/
def PsOk (ps : List (List Nat)) : Prop := ∀ l ∈ ps, ∀ c ∈ l, c < 1000
def spPlanEq (C : Addr) : Sp := fun vs H Q _ => ∃ (x y : Addr) (ks ks' : List Nat) (ps ps' : List (List Nat)), vs = [.ref x, .ref y] ∧ PlanAt C H x ks ps ∧ PlanAt C H y ks' ps' ∧ PsOk ps ∧ PsOk ps' ∧ Q (.bl (decide (ks = ks' ∧ ps = ps'))) H
def spStepped (C : Addr) : Sp := fun vs H Q _ => ∃ (x : Addr) (ks : List Nat) (ps : List (List Nat)) (name : List Nat) (k : Nat), vs = [.ref x, .str (tx name), .str (tx [k])] ∧ PlanAt C H x ks ps ∧ k ∈ ks ∧ name.length ≤ 100000 ∧ Q (.str (tx (stepOf (crossOf ks ps k) name k))) H
def spJoined (C : Addr) : Sp := fun vs H Q _ => ∃ (x : Addr) (ks : List Nat) (ps : List (List Nat)) (name way : List Nat), vs = [.ref x, .str (tx name), .str (tx way)] ∧ PlanAt C H x ks ps ∧ (∀ c ∈ way, c ∈ ks) ∧ name.length + way.length ≤ 100000 ∧ Q (.str (tx (joinOf ks ps name way))) H
section
variable {P : Program} {w : World} {K : PySem.W.Frag} {mg : Str → Option Value} {base : Heap} {C : Addr}
abbrev ststepped : Stmt := (top 2)
abbrev Nstepped : List Str := ["plan", "name", "kind", "partners", "place"]
theorem scstepped : FnScope Nstepped ["plan", "name", "kind"] (defScope ststepped) := ⟨rfl, rfl, rfl, by decide +kernel, rfl, by decide +kernel, by decide +kernel⟩

theorem ok_stepped (F : FnAt K mg "stepped" ststepped) (T : TxtP K mg C) : Def P w K mg base CX0 1 "stepped" ["plan", "name", "kind"] (spStepped C) := by
  refine F.ok scstepped (fun _ _ _ _ _ _ us hl => match us, hl with | [_, _, _], _ => rfl) (fun vs H Q E h => ?_) (fun f cdv A outer s H vs Q E hr h => ?_)
  · obtain ⟨x, ks, ps, name, k, rfl, _⟩ := h
    rfl
  obtain ⟨x, ks, ps, name, k, rfl, h1, hk, hl, q⟩ := h
  have hu := hu_of hr
  have nd := scstepped.nd
  refine ⟨_, (pss_cons (ps_set (i := 3) nd rfl (Or.inl rfl) (pe_dget hu (pe_flK (K := K) rfl (pv 0) rfl) (pv 2) (fun _ _ => rfl)))
      (pss_cons (ps_set (i := 4) nd rfl (Or.inl rfl) (pe_callB c_lenS (by rfl) T.len PySem.boot_len (pa_cons (pv 1) pa_nil)))
      (pss_cutS (ps_while PassesOwn.never (PW.pt (pw_and (pt_cmpR op_gt (pv 4) pe_int (nomark _)) (pw_and1 (pt_cmpR op_inS (pe_ix ix_str (pv 1) (pe_op op_sub (pv 4) pe_int) (fun _ _ => rfl)) (pv 3) (by rfl)))))
      (pss_one (ps_set (i := 4) nd rfl (Or.inl rfl) (pe_op op_sub (pv 4) pe_int))))
      (pss_cutS (ps_if (PW.pt (pw_and (pt_cmpR op_gt (pv 4) pe_int (nomark _)) (pw_and1 (pt_cmpR op_eq (pe_ix ix_str (pv 1) (pe_op op_sub (pv 4) pe_int) (fun _ _ => rfl)) (pv 2) (nomark _)))))
      (pss_one (ps_ret (pe_op op_addS (pe_slice sl_S (pv 1) po_none (po_some (pe_op op_sub (pv 4) pe_int))) (pe_slice sl_S (pv 1) (po_some (pv 4)) po_none))))
      pss_nil)
      (pss_cutS (ps_while PassesOwn.never (PW.pt (pw_and (pt_cmpR op_lt (pv 4) (pe_callB c_lenS (by rfl) T.len PySem.boot_len (pa_cons (pv 1) pa_nil)) (nomark _)) (pw_and1 (pt_cmpR op_ltS (pe_ix ix_str (pv 1) (pv 4) (fun _ _ => rfl)) (pv 2) (nomark _)))))
      (pss_one (ps_set (i := 4) nd rfl (Or.inl rfl) (pe_op op_add (pv 4) pe_int))))
      (pss_one (ps_ret (pe_op op_addS (pe_op op_addS (pe_slice sl_S (pv 1) po_none (po_some (pv 4))) (pv 2)) (pe_slice sl_S (pv 1) (po_some (pv 4)) po_none))))))))), ?_⟩
  refine s_start [some _, some _, some _, none, none] rfl ?_
  obtain ⟨dx, t, d, a1, a2, a3⟩ := h1.ex
  walk_at "go"
  refine v_fld a1 T.Plan.cl T.nO planF_o ?_
  walk_at "go"
  refine v_dget (dget_let (g := fun k => V.str (tx (crossOf ks ps k))) a3 hk) ?_
  walk_at "go"
  refine s_cut (fun σ H' => ∃ ra b : List Nat, name = ra.reverse ++ b ∧ splitB (crossOf ks ps k) name.reverse [] = (ra, b) ∧ σ = [some (.ref x), some (.str (tx name)), some (.str (tx [k])), some (.str (tx (crossOf ks ps k))), some (.int (ra.length : Nat))] ∧ H' = H) ?_ ?_
  · refine s_while (fun m σ H' => ∃ ra b : List Nat, m = ra.length ∧ name = ra.reverse ++ b ∧ splitB (crossOf ks ps k) name.reverse [] = splitB (crossOf ks ps k) ra b ∧ σ = [some (.ref x), some (.str (tx name)), some (.str (tx [k])), some (.str (tx (crossOf ks ps k))), some (.int (ra.length : Nat))] ∧ H' = H) name.length ⟨name.reverse, [], by simp, by simp, rfl, by simp, rfl⟩ ?_
    rintro m σ H' ⟨ra, b, rfl, e1, e2, rfl, rfl⟩
    walk_at "go"
    cases ra with
    | nil =>
      refine if_dec (fun c => absurd c (by simp)) (fun _ => ?_)
      walk_at "go"
      exact ⟨[], b, e1, e2, rfl, rfl⟩
    | cons y r =>
      refine if_dec (fun _ => ?_) (fun c => absurd (by simp) c)
      walk_at "go"
      refine v_ixS (c := y) (by omega) (by rw [e1]; exact at_last) ?_
      walk_at "go"
      refine if_dec (fun c => ?_) (fun c => ?_)
      · refine v_turn ?_
        walk_at "go"
        refine ⟨r.length, by simp, r, y :: b, rfl, ?_, ?_, ?_, rfl⟩
        · rw [e1, List.reverse_cons, List.append_assoc]
          rfl
        · rw [e2]
          show (if y ∈ crossOf ks ps k then _ else _) = _
          rw [if_pos c]
        · have e : (((y :: r).length : Nat) : Int) - 1 = (r.length : Nat) := by
            rw [List.length_cons]
            omega
          rw [e]
          rfl
      · walk_at "go"
        refine ⟨y :: r, b, e1, ?_, rfl, rfl⟩
        rw [e2]
        show (if y ∈ crossOf ks ps k then _ else _) = _
        rw [if_neg c]
  rintro σ H' ⟨ra, b, e1, e2, rfl, rfl⟩
  have hl2 : ra.length + b.length = name.length := by
    rw [e1, List.length_append, List.length_reverse]
  have q : Q (.str (tx (stepAt k ra b))) H' := by
    have e : stepOf (crossOf ks ps k) name k = stepAt k ra b := by
      unfold stepOf
      rw [e2]
    rw [e] at q
    exact q
  refine s_cut (fun σ H2 => ra.head? ≠ some k ∧ σ = [some (.ref x), some (.str (tx name)), some (.str (tx [k])), some (.str (tx (crossOf ks ps k))), some (.int (ra.length : Nat))] ∧ H2 = H') ?_ ?_
  · walk_at "go"
    cases ra with
    | nil =>
      refine if_dec (fun c => absurd c (by simp)) (fun _ => ?_)
      walk_at "go"
      exact ⟨by simp, rfl, rfl⟩
    | cons y r =>
      refine if_dec (fun _ => ?_) (fun c => absurd (by simp) c)
      walk_at "go"
      refine v_ixS (c := y) (by omega) (by rw [e1]; exact at_last) ?_
      walk_at "go"
      rw [dec_tx]
      refine if_dec (fun c => ?_) (fun c => ?_)
      · walk_at "go"
        have ey : y = k := by
          injection c
        subst ey
        have e3 : (((y :: r).length : Nat) : Int) - 1 = (r.length : Nat) := by
          rw [List.length_cons]
          omega
        rw [e3]
        refine v_slTo (by omega) (by omega) ?_
        walk_at "go"
        refine v_slFrom (by omega) (by omega) ?_
        have e4 : name.take ((r.length : Nat) : Int).toNat = r.reverse := by
          rw [e1, List.reverse_cons, List.append_assoc]
          exact List.take_left' (by simp)
        have e5 : name.drop (((y :: r).length : Nat) : Int).toNat = b := by
          rw [e1]
          exact List.drop_left' (by simp)
        rw [e4, e5]
        refine v_addS (by rw [List.length_reverse]; rw [List.length_cons] at hl2; omega) ?_
        have e6 : stepAt y (y :: r) b = r.reverse ++ b := by
          unfold stepAt
          rw [if_pos (show (y :: r).head? = some y from rfl)]
          rfl
        rw [e6] at q
        exact q
      · walk_at "go"
        refine ⟨?_, rfl, rfl⟩
        intro z
        injection z with z
        exact c (by rw [z])
  rintro σ H2 ⟨hh, rfl, rfl⟩
  refine s_cut (fun σ H3 => ∃ c d : List Nat, b = c ++ d ∧ putIn k b = c ++ k :: d ∧ σ = [some (.ref x), some (.str (tx name)), some (.str (tx [k])), some (.str (tx (crossOf ks ps k))), some (.int ((ra.length + c.length : Nat) : Int))] ∧ H3 = H2) ?_ ?_
  · refine s_while (fun m σ H3 => ∃ c d : List Nat, m = d.length ∧ b = c ++ d ∧ putIn k b = c ++ putIn k d ∧ σ = [some (.ref x), some (.str (tx name)), some (.str (tx [k])), some (.str (tx (crossOf ks ps k))), some (.int ((ra.length + c.length : Nat) : Int))] ∧ H3 = H2) b.length ⟨[], b, rfl, rfl, rfl, rfl, rfl⟩ ?_
    rintro m σ H3 ⟨c, d, rfl, e3, e4, rfl, rfl⟩
    have hl3 : ra.length + (c.length + d.length) = name.length := by
      rw [← hl2, e3, List.length_append]
    walk_at "go"
    cases d with
    | nil =>
      refine if_dec (fun z => ?_) (fun _ => ?_)
      · rw [List.length_nil] at hl3
        omega
      walk_at "go"
      exact ⟨c, [], e3, e4, rfl, rfl⟩
    | cons y r =>
      rw [List.length_cons] at hl3
      refine if_dec (fun _ => ?_) (fun z => by omega)
      walk_at "go"
      refine v_ixS (c := y) (by omega) ?_ ?_
      · rw [e1, e3, ← List.append_assoc]
        have := at_mid (x := y) (a := ra.reverse ++ c) (b := r)
        rw [List.length_append, List.length_reverse] at this
        exact this
      walk_at "go"
      rw [lt_one]
      refine if_dec (fun z => ?_) (fun z => ?_)
      · refine v_turn ?_
        walk_at "go"
        refine ⟨r.length, by simp, c ++ [y], r, rfl, ?_, ?_, ?_, rfl⟩
        · rw [e3, List.append_assoc]
          rfl
        · rw [e4, List.append_assoc]
          congr 1
          unfold putIn
          rw [List.takeWhile_cons_of_pos (by simpa using z), List.dropWhile_cons_of_pos (by simpa using z)]
          rfl
        · have e : ((ra.length + c.length : Nat) : Int) + 1 = ((ra.length + (c ++ [y]).length : Nat) : Int) := by
            rw [List.length_append, List.length_singleton]
            omega
          rw [e]
          rfl
      · walk_at "go"
        refine ⟨c, y :: r, e3, ?_, rfl, rfl⟩
        rw [e4]
        congr 1
        unfold putIn
        rw [List.takeWhile_cons_of_neg (by simpa using z), List.dropWhile_cons_of_neg (by simpa using z)]
        rfl
  rintro σ H3 ⟨c, d, e3, e4, rfl, rfl⟩
  have hl3 : ra.length + (c.length + d.length) = name.length := by
    rw [← hl2, e3, List.length_append]
  walk_at "go"
  refine v_slTo (by omega) (by omega) ?_
  have e5 : name.take ((ra.length + c.length : Nat) : Int).toNat = ra.reverse ++ c := by
    rw [e1, e3, ← List.append_assoc]
    exact List.take_left' (by rw [List.length_append, List.length_reverse]; omega)
  have e6 : name.drop ((ra.length + c.length : Nat) : Int).toNat = d := by
    rw [e1, e3, ← List.append_assoc]
    exact List.drop_left' (by rw [List.length_append, List.length_reverse]; omega)
  rw [e5]
  have l1 : (ra.reverse ++ c).length + [k].length ≤ 1000000 := by
    rw [List.length_append, List.length_reverse, List.length_singleton]
    omega
  have l2 : (ra.reverse ++ c ++ [k]).length + d.length ≤ 1000000 := by
    rw [List.length_append, List.length_append, List.length_reverse, List.length_singleton]
    omega
  walk_at "go"
  refine v_slFrom (by omega) (by omega) ?_
  rw [e6]
  refine v_addS l2 ?_
  have e7 : stepAt k ra b = ra.reverse ++ c ++ [k] ++ d := by
    unfold stepAt
    rw [if_neg hh, e4]
    simp
  rw [e7] at q
  exact q
abbrev stjoined : Stmt := (top 3)
abbrev Njoined : List Str := ["plan", "name", "way", "kind"]
theorem scjoined : FnScope Njoined ["plan", "name", "way"] (defScope stjoined) := ⟨rfl, rfl, rfl, by decide +kernel, rfl, by decide +kernel, by decide +kernel⟩

theorem ok_joined (F : FnAt K mg "joined" stjoined) (D_stepped : Def P w K mg base CX0 1 "stepped" ["plan", "name", "kind"] (spStepped C)) : Def P w K mg base CX0 2 "joined" ["plan", "name", "way"] (spJoined C) := by
  refine F.ok scjoined (fun _ _ _ _ _ _ us hl => match us, hl with | [_, _, _], _ => rfl) (fun vs H Q E h => ?_) (fun f cdv A outer s H vs Q E hr h => ?_)
  · obtain ⟨x, ks, ps, name, k, rfl, _⟩ := h
    rfl
  obtain ⟨x, ks, ps, name, way, rfl, h1, hk, hl, q⟩ := h
  have hu := hu_of hr
  have nd := scjoined.nd
  refine ⟨_, (pss_cons (ps_for PassesOwn.never rfl (pi_str (pv 2)) (pg_name (i := 3) nd rfl (Or.inl rfl))
      (pss_one (ps_set (i := 1) nd rfl (Or.inl rfl) (pe_cd D_stepped hr pass0 (pa_cons (pv 0) (pa_cons (pv 1) (pa_cons (pv 3) pa_nil)))))))
      (pss_one (ps_ret (pv 1)))), ?_⟩
  refine s_start [some _, some _, some _, none] rfl ?_
  walk_at "go"
  refine for_it (walk_tx way) (fun i σ H' => ∃ z, σ = [some (.ref x), some (.str (tx (joinOf ks ps name (way.take i)))), some (.str (tx way)), z] ∧ H' = H) ⟨_, rfl, rfl⟩ (fun _ _ _ _ _ => trivial) ?_ ?_
  · rintro i v σ H2 H3 hi ⟨z, rfl, rfl⟩ ⟨rfl, rfl⟩
    walk_at "go"
    refine ⟨x, ks, ps, _, way.getD i 0, rfl, h1, hk _ (getD_mem hi), ?_, ?_⟩
    · have := joinOf_len ks ps (way.take i) name
      rw [List.length_take] at this
      omega
    walk_at "go"
    rw [← joinOf_snoc, ← take_getD hi]
    exact ⟨_, rfl, rfl⟩
  · rintro σ H2 ⟨z, rfl, rfl⟩
    walk_at "go"
    rw [List.take_of_length_le (Nat.le_refl _)]
    exact q
end
end
section
open PySem PySem.Spec L2
def roomF (x : Addr) (name : List Nat) : List (Str × V) := putF "name" (.str (tx name)) (putF "plan" (.ref x) [])
theorem npn : ¬ (("plan" : Str) = "name") := by decide +kernel
theorem roomF_p {x : Addr} {name : List Nat} : (roomF x name).lookup ("plan" : Str) = some (.ref x) := by
  unfold roomF
  rw [lookup_putF, if_neg npn, lookup_putF, if_pos rfl]
theorem roomF_n {x : Addr} {name : List Nat} : (roomF x name).lookup ("name" : Str) = some (.str (tx name)) := by
  unfold roomF
  rw [lookup_putF, if_pos rfl]
/-- a room of the plan at x stands at r -/
structure RoomAt (R : Addr) (H : Hp) (r x : Addr) (name : List Nat) : Prop where
  ex : ∃ dx, H r = some (.ins R dx (roomF x name))
theorem RoomAt.same {R : Addr} {H H' : Hp} {r x : Addr} {name : List Nat} (h : RoomAt R H r x name) (s : Same H H') : RoomAt R H' r x name := by
  obtain ⟨dx, e⟩ := h.ex
  exact ⟨dx, s _ _ e⟩
structure TxtR (K : PySem.W.Frag) (mg : Str → Option Value) (C R O : Addr) : Prop extends TxtP K mg C where
  enumerate : mg "enumerate" = none
  g_MOST_LETTERS : ∃ t, mg "MOST_LETTERS" = some (.int 2000 t)
  Room : ClsF K mg "Room" R
  nPl : NoAttr K R "plan"
  nNm : NoAttr K R "name"
  OtherPlan : ExcF K mg "OtherPlan" O
def spNeedWay (C : Addr) : Sp := fun vs H Q _ => ∃ (x : Addr) (ks : List Nat) (ps : List (List Nat)) (way : List Nat), vs = [.ref x, .str (tx way)] ∧ PlanAt C H x ks ps ∧ (∀ c ∈ way, c ∈ ks) ∧ way.length ≤ 2000 ∧ ∀ H', Same H H' → Q (.str (tx way)) H'
/-- two plans, and what is due if they are equal and if not -/
def Plans2 (C : Addr) (H : Hp) (x y : Addr) (e : Bool) : Prop := ∃ (ks ks' : List Nat) (ps ps' : List (List Nat)), PlanAt C H x ks ps ∧ PlanAt C H y ks' ps' ∧ PsOk ps ∧ PsOk ps' ∧ e = decide (ks = ks' ∧ ps = ps')
def spRoom0 (C R : Addr) : Sp := fun vs H Q _ => ∃ (r dx x : Addr) (ks : List Nat) (ps : List (List Nat)) (way : List Nat), vs = [.ref r, .ref x, .str (tx way)] ∧ H r = some (.ins R dx []) ∧ PlanAt C H x ks ps ∧ (∀ c ∈ way, c ∈ ks) ∧ way.length ≤ 2000 ∧
  ∀ H', Keep r H H' → RoomAt R H' r x (joinOf ks ps [] way) → Q .non H'
def spRoom (C R : Addr) : Sp := fun vs H Q _ => ∃ (x : Addr) (ks : List Nat) (ps : List (List Nat)) (way : List Nat), vs = [.ref x, .str (tx way)] ∧ PlanAt C H x ks ps ∧ (∀ c ∈ way, c ∈ ks) ∧ way.length ≤ 2000 ∧ ∀ r H', H r = none → Same H H' → RoomAt R H' r x (joinOf ks ps [] way) → Q (.ref r) H'
theorem PlanAt.none {C : Addr} {H : Hp} {x : Addr} {ks : List Nat} {ps : List (List Nat)} (h : PlanAt C H x ks ps) {a b : Addr} {o u : HO} (ha : H a = none) (hb : H b = none) : PlanAt C (upd (upd H a o) b u) x ks ps := by
  refine h.same fun c z hc => ?_
  rw [upd_ne (ne_of_none hc hb), upd_ne (ne_of_none hc ha)]
  exact hc
theorem conv_room (C R : Addr) : Conv R (spRoom0 C R) (spRoom C R) := by
  rintro vs H Q E ⟨x, ks, ps, way, rfl, hp, h1, h2, k⟩ r dx hx hdx hne
  refine ⟨r, dx, x, ks, ps, way, rfl, upd_same, hp.none hdx hx, h1, h2, fun H' s' a => ⟨rfl, k r H' hx (fun b o hb => ?_) a⟩⟩
  refine s' b o ?_ (ne_of_none hb hx)
  rw [upd_ne (ne_of_none hb hx), upd_ne (ne_of_none hb hdx)]
  exact hb
section
variable {P : Program} {w : World} {K : PySem.W.Frag} {mg : Str → Option Value} {base : Heap} {C R O : Addr}
abbrev stneed_way : Stmt := (top 20)
abbrev Nneed_way : List Str := ["plan", "way", "index", "letter"]
theorem scneed_way : FnScope Nneed_way ["plan", "way"] (defScope stneed_way) := ⟨rfl, rfl, rfl, by decide +kernel, rfl, by decide +kernel, by decide +kernel⟩

theorem ok_need_way (F : FnAt K mg "need_way" stneed_way) (T : TxtR K mg C R O) : Def P w K mg base CX0 1 "need_way" ["plan", "way"] (spNeedWay C) := by
  refine F.ok scneed_way (fun _ _ _ _ _ _ us hl => match us, hl with | [_, _], _ => rfl) (fun vs H Q E h => ?_) (fun f cdv A outer s H vs Q E hr h => ?_)
  · obtain ⟨x, ks, ps, way, rfl, _⟩ := h
    rfl
  obtain ⟨x, ks, ps, way, rfl, h1, hk, hl, q⟩ := h
  have hu := hu_of hr
  have nd := scneed_way.nd
  refine ⟨_, (pss_cons (ps_if (pt_not (pt_val (pe_callB (c_isiK (K := K) rfl) (by rfl) T.isinstance (by decide +kernel) (pa_cons (pv 1) (pa_cons (pe_bltn (v := .ty "str") (u := .type "str") (by rfl) T.str (by decide +kernel) rfl) pa_nil)))))
      (pss_one ps_never)
      pss_nil)
      (pss_cons (ps_for PassesOwn.never rfl (pi_enumS (by rfl) T.enumerate (pa_cons (pv 1) pa_nil)) (pg_tup rfl (pgs_cons (pg_name (i := 2) nd rfl (Or.inl rfl)) (pgs_cons (pg_name (i := 3) nd rfl (Or.inl rfl)) pgs_nil)))
      (pss_one (ps_if (pt_cmpR op_notInS (pv 3) (pe_flK (K := K) rfl (pv 0) rfl) (by rfl))
        (pss_one ps_never)
        pss_nil)))
      (pss_cons (ps_if (pt_cmpR op_gt (pe_callB c_lenS (by rfl) T.len PySem.boot_len (pa_cons (pv 1) pa_nil)) (pe_globI T.g_MOST_LETTERS) (nomark _))
      (pss_one ps_never)
      pss_nil)
      (pss_one (ps_ret (pv 1)))))), ?_⟩
  refine s_start [some _, some _, none, none] rfl ?_
  walk_at "go"
  refine for_it (walk_enumS way) (fun i σ H' => ∃ y z, σ = [some (.ref x), some (.str (tx way)), y, z] ∧ Same H H') ⟨_, _, rfl, Same.refl _⟩ (fun _ _ _ _ _ => trivial) ?_ ?_
  · rintro i v σ H2 H3 hi ⟨y, z, rfl, s2⟩ ⟨t, c, rfl, ht, rfl, hc⟩
    have s3 : Same H (upd H2 t (.tup [.int (i : Nat), .str (tx [c])])) := s2.trans (Same.new ht)
    obtain ⟨dx, t', d, a1, a2, a3⟩ := h1.ex
    refine v_gTup2 rfl upd_same ?_
    walk_at "go"
    refine v_fld (s3 _ _ a1) T.Plan.cl T.nK planF_k ?_
    walk_at "go"
    refine if_ndec (fun z => absurd (hk c (List.mem_of_getElem? hc)) z) (fun _ => ?_)
    walk_at "go"
    exact ⟨_, _, rfl, s3⟩
  · rintro σ H2 ⟨y, z, rfl, s2⟩
    walk_at "go"
    refine if_dec (fun c => ?_) (fun c => ?_)
    · omega
    walk_at "go"
    exact q H2 s2
abbrev stRoom_init : Stmt := (inClass (top 23) 0)
abbrev NRoom_init : List Str := ["self", "plan", "way"]
theorem scRoom_init : FnScope NRoom_init ["self", "plan", "way"] (defScope stRoom_init) := ⟨rfl, rfl, rfl, by decide +kernel, rfl, by decide +kernel, by decide +kernel⟩

theorem ok_Room {dvs : List V} (F : MAtD K R "__init__" "Room.__init__" stRoom_init dvs) (hd : dvs.length = 1) (T : TxtR K mg C R O) (D_need_way : Def P w K mg base CX0 1 "need_way" ["plan", "way"] (spNeedWay C)) (D_joined : Def P w K mg base CX0 2 "joined" ["plan", "name", "way"] (spJoined C)) :
    CMk P w K mg base CX0 3 "Room" R (spRoom C R) ["self", "plan", "way"] "Room.__init__" stRoom_init dvs := by
  refine F.make (sp0 := spRoom0 C R) T.Room scRoom_init (by intro z; rw [z] at hd; cases hd) (fun T kV doc pm an cdv ct us its l1 l2 => ?_) (fun vs H Q E h => ?_) (conv_room C R) (fun f cdv A outer s H vs Q E hr h => ?_)
  · rw [hd] at l2 ⊢
    match us, l1, its, l2 with
    | [_, _, _], _, [_], _ => exact ⟨_, rfl, rfl⟩
  · obtain ⟨r, dx, x, ks, ps, way, rfl, _⟩ := h
    rfl
  obtain ⟨r, dx, x, ks, ps, way, rfl, hx, hp, h1, h2, k⟩ := h
  have hu := hu_of hr
  have nd := scRoom_init.nd
  replace D_need_way := D_need_way.mono (show 1 ≤ 2 by decide)
  refine ⟨_, (pss_cons (ps_flK (K := K) rfl (pv 0) (pv 1) rfl)
      (pss_one (ps_flK (K := K) rfl (pv 0) (pe_cd D_joined hr pass0 (pa_cons (pv 1) (pa_cons (pe_tx [] (by decide +kernel)) (pa_cons (pe_cd D_need_way hr pass0 (pa_cons (pv 1) (pa_cons (pv 2) pa_nil))) pa_nil)))) rfl))), ?_⟩
  refine s_start [some _, some _, some _] rfl ?_
  walk_at "go"
  refine v_sfld hx T.Room.cl T.nPl (by decide) fun H1 s1 e1 => ?_
  walk_at "go"
  have hp1 : PlanAt C H1 x ks ps := by
    obtain ⟨dx', t', d, a1, a2, a3⟩ := hp.ex
    exact ⟨dx', t', d, s1 _ _ a1 (fun z => by rw [z, hx] at a1; injection a1 with a1; injection a1 with _ _ a1; cases a1), s1 _ _ a2 (ne_of a2 hx (by intro z; cases z)), s1 _ _ a3 (ne_of a3 hx (by intro z; cases z))⟩
  refine ⟨x, ks, ps, way, rfl, hp1, h1, h2, fun H2 s2 => ?_⟩
  walk_at "go"
  refine ⟨x, ks, ps, [], way, rfl, hp1.same s2, h1, by rw [List.length_nil]; omega, ?_⟩
  walk_at "go"
  refine v_sfld (s2 _ _ e1) T.Room.cl T.nNm (by show 1 < 1000; decide) fun H3 s3 e3 => ?_
  refine k H3 (fun b o hb nb => s3 _ _ (s2 _ _ (s1 _ _ hb nb)) nb) ⟨dx, e3⟩
end
end
section
open PySem PySem.Spec L2
theorem Plans2.same {C : Addr} {H H' : Hp} {x y : Addr} {e : Bool} (h : Plans2 C H x y e) (s : Same H H') : Plans2 C H' x y e := by
  obtain ⟨ks, ks', ps, ps', a, b, c⟩ := h
  exact ⟨ks, ks', ps, ps', a.same s, b.same s, c⟩
def spRoomLen (R : Addr) : Sp := fun vs H Q _ => ∃ (r x : Addr) (name : List Nat), vs = [.ref r] ∧ RoomAt R H r x name ∧ name.length ≤ 100000 ∧ Q (.int name.length) H
/-- two rooms, and whether their plans are equal -/
structure Rooms2 (C R : Addr) (H : Hp) (r x : Addr) (a : List Nat) (r' y : Addr) (b : List Nat) (e : Bool) : Prop where
  one : RoomAt R H r x a
  two : RoomAt R H r' y b
  pl : Plans2 C H x y e
  la : a.length ≤ 2000
  lb : b.length ≤ 2000
theorem Rooms2.same {C R : Addr} {H H' : Hp} {r x : Addr} {a : List Nat} {r' y : Addr} {b : List Nat} {e : Bool} (h : Rooms2 C R H r x a r' y b e) (s : Same H H') : Rooms2 C R H' r x a r' y b e := ⟨h.one.same s, h.two.same s, h.pl.same s, h.la, h.lb⟩
def spRoomEq (C R : Addr) : Sp := fun vs H Q _ => ∃ (r x : Addr) (a : List Nat) (r' y : Addr) (b : List Nat) (e : Bool), vs = [.ref r, .ref r'] ∧ Rooms2 C R H r x a r' y b e ∧ Q (.bl (e && decide (a = b))) H
theorem roomF_no {x : Addr} {name : List Nat} {m : Str} (h1 : ¬ m = "name") (h2 : ¬ m = "plan") : (roomF x name).lookup m = none := by
  unfold roomF
  rw [lookup_putF, if_neg h1, lookup_putF, if_neg h2]
  rfl
section
variable {P : Program} {w : World} {K : PySem.W.Frag} {mg : Str → Option Value} {base : Heap} {C R O : Addr}
abbrev stRoom_len : Stmt := (inClass (top 23) 1)
abbrev NRoom_len : List Str := ["self"]
theorem scRoom_len : FnScope NRoom_len ["self"] (defScope stRoom_len) := ⟨rfl, rfl, rfl, by decide +kernel, rfl, by decide +kernel, by decide +kernel⟩

theorem ok_Room_len (F : MAt K R "__len__" "Room.__len__" stRoom_len) (T : TxtR K mg C R O) : MDef P w K mg base CX0 1 R "__len__" ["self"] (spRoomLen R) := by
  refine F.ok scRoom_len (fun _ _ _ _ _ _ us hl => match us, hl with | [_], _ => rfl) (fun vs H Q E h => ?_) (fun f cdv A outer s H vs Q E hr h => ?_)
  · obtain ⟨r, x, name, rfl, _⟩ := h
    rfl
  obtain ⟨r, x, name, rfl, ha, hl, q⟩ := h
  have hu := hu_of hr
  have nd := scRoom_len.nd
  refine ⟨_, (pss_one (ps_ret (pe_callB c_lenS (by rfl) T.len PySem.boot_len (pa_cons (pe_flK (K := K) rfl (pv 0) rfl) pa_nil)))), ?_⟩
  refine s_start [some _] rfl ?_
  obtain ⟨dx, a1⟩ := ha.ex
  walk_at "go"
  refine v_fld a1 T.Room.cl T.nNm roomF_n ?_
  walk_at "go"
  exact q
end
end
section
open PySem PySem.Spec L2
def spPick : Sp := fun vs H Q _ => ∃ (g : Pen) (n : Nat) (q : Addr) (xs : List V), vs = [.ref g.p, .ref q] ∧ H q = some (.lst xs) ∧ 0 < xs.length ∧ xs.length < 1000000 ∧ PenAt g H n ∧ n < 1000000 ∧ q ≠ g.p ∧
  ∀ v H', v ∈ xs → PenAt g H' (n + 1) → Keep g.p H H' → Q v H'
def spShuffled : Sp := fun vs H Q _ => ∃ (g : Pen) (n : Nat) (q : Addr) (ls : List Nat), vs = [.ref g.p, .ref q] ∧ H q = some (.lst (ls.map fun c => V.str (tx [c]))) ∧ ls.length ≤ 1000 ∧ (∀ c ∈ ls, c < 1000) ∧ PenAt g H n ∧ n < 950000 ∧
  ∀ (l : Addr) (ys : List Nat) (H' : Hp), H l = none → ys.Perm ls → H' l = some (.lst (ys.map fun c => V.str (tx [c]))) → PenAt g H' (n + ls.length) → Keep g.p H H' → Q (.ref l) H'
section
variable {P : Program} {w : World} {K : PySem.W.Frag} {mg : Str → Option Value} {base : Heap}
abbrev stpick : Stmt := (top 35)
abbrev Npick : List Str := ["_law_pen_here", "_law_items"]
theorem scpick : FnScope Npick ["_law_pen_here", "_law_items"] (defScope stpick) := ⟨rfl, rfl, rfl, by decide +kernel, rfl, by decide +kernel, by decide +kernel⟩

theorem ok_pick (F : FnAt K mg "_law_pick" stpick) (T : Txt K mg) (D_draw : Def P w K mg base CX0 1 "_law_draw" ["_law_pen_here", "_law_number"] spDraw) : Def P w K mg base CX0 2 "_law_pick" ["_law_pen_here", "_law_items"] spPick := by
  refine F.ok scpick (fun _ _ _ _ _ _ us hl => match us, hl with | [_, _], _ => rfl) (fun vs H Q E h => ?_) (fun f cdv A outer s H vs Q E hr h => ?_)
  · obtain ⟨g, n, q, xs, rfl, _⟩ := h
    rfl
  obtain ⟨g, n, q, xs, rfl, hq, h0, h1, hp, hn, hne, k⟩ := h
  have hu := hu_of hr
  have nd := scpick.nd
  refine ⟨_, (pss_one (ps_ret (pe_ix (ix_LK (K := K) rfl) (pv 1) (pe_cd D_draw hr pass0 (pa_cons (pv 0) (pa_cons (pe_callB (c_lenK (K := K) rfl) (by rfl) T.len PySem.boot_len (pa_cons (pv 1) pa_nil)) pa_nil))) (fun _ _ => rfl)))), ?_⟩
  refine s_start [some _, some _] rfl ?_
  walk_at "go"
  refine ⟨g, xs.length, n, rfl, by omega, by omega, hp, hn, fun z H1 z0 z1 p1 k1 => ?_⟩
  walk_at "go"
  have hz : z.toNat < xs.length := by omega
  refine v_ixL (k1 _ _ hq hne) (at_of (j := z.toNat) (by omega) (List.getElem?_eq_getElem hz)) ?_
  exact k _ H1 (List.getElem_mem hz) p1 k1
abbrev stshuffled : Stmt := (top 36)
abbrev Nshuffled : List Str := ["_law_pen_here", "_law_items", "_law_left", "_law_found"]
theorem scshuffled : FnScope Nshuffled ["_law_pen_here", "_law_items"] (defScope stshuffled) := ⟨rfl, rfl, rfl, by decide +kernel, rfl, by decide +kernel, by decide +kernel⟩

theorem ok_shuffled (F : FnAt K mg "_law_shuffled" stshuffled) (T : Txt K mg) (D_draw : Def P w K mg base CX0 1 "_law_draw" ["_law_pen_here", "_law_number"] spDraw) : Def P w K mg base CX0 2 "_law_shuffled" ["_law_pen_here", "_law_items"] spShuffled := by
  refine F.ok scshuffled (fun _ _ _ _ _ _ us hl => match us, hl with | [_, _], _ => rfl) (fun vs H Q E h => ?_) (fun f cdv A outer s H vs Q E hr h => ?_)
  · obtain ⟨g, n, q, xs, rfl, _⟩ := h
    rfl
  obtain ⟨g, n, q, ls, rfl, hq, h1, h2, hp, hn, k⟩ := h
  have hu := hu_of hr
  have nd := scshuffled.nd
  refine ⟨_, (pss_cons (ps_par (i := 2) (j := 3) (by rfl) nd rfl rfl (by decide) rfl rfl (pa_cons (pe_callTy (c_listK (K := K) rfl) (by rfl) T.list (by decide +kernel) (pa_cons (pv 1) pa_nil)) (pa_cons (pe_lst pa_nil) pa_nil)) (by rfl))
      (pss_cutS (ps_while PassesOwn.never (pt_cmpR (op_neDK (K := K) rfl hr.units) (pv 2) (pe_lst pa_nil) (nomark _))
      (pss_one (ps_expr (pe_appK (K := K) rfl (pv 3) (pe_popK (K := K) rfl (pv 2) (pe_cd D_draw hr pass0 (pa_cons (pv 0) (pa_cons (pe_callB (c_lenK (K := K) rfl) (by rfl) T.len PySem.boot_len (pa_cons (pv 2) pa_nil)) pa_nil))))))))
      (pss_one (ps_ret (pv 3))))), ?_⟩
  refine s_start [some _, some _, none, none] rfl ?_
  walk_at "go"
  refine v_list (SqL.of hq) fun a H1 ha s1 e1 => ?_
  walk_at "go"
  intro b H2 hb s2 e2
  walk_at "go"
  have hab : a ≠ b := ne_of_none e1 hb
  refine s_cut (fun σ H' => ∃ ys : List Nat, σ = [some (.ref g.p), some (.ref q), some (.ref a), some (.ref b)] ∧ ys.Perm ls ∧ H' b = some (.lst (ys.map fun c => V.str (tx [c]))) ∧ PenAt g H' (n + ls.length) ∧ Keep g.p H H') ?_ ?_
  · refine s_while (fun m σ H' => ∃ xs ys : List Nat, m = xs.length ∧ σ = [some (.ref g.p), some (.ref q), some (.ref a), some (.ref b)] ∧ (ys ++ xs).Perm ls ∧ H' a = some (.lst (xs.map fun c => V.str (tx [c]))) ∧ H' b = some (.lst (ys.map fun c => V.str (tx [c]))) ∧ PenAt g H' (n + ys.length) ∧ Keep g.p H H') ls.length ⟨ls, [], rfl, rfl, .refl _, s2 _ _ e1, e2, hp.same (s1.trans s2), Keep.of (s1.trans s2)⟩ ?_
    rintro m σ H3 ⟨xs, ys, rfl, rfl, pm, ea, eb, p3, k3⟩
    have hl := pm.length_eq
    rw [List.length_append] at hl
    walk_at "go"
    intro e H4 he s4 e4
    have ea4 := s4 _ _ ea
    have eb4 := s4 _ _ eb
    have ea5 : H4 a = some (.lst ((xs.map fun c => tx [c]).map V.str)) := by
      rw [ea4, List.map_map]
      rfl
    refine v_neNilS ea5 (fun x hx => ?_) e4 ?_
    · obtain ⟨c, hc, rfl⟩ := List.mem_map.mp hx
      refine ok_tx fun d hd => ?_
      rw [List.mem_singleton] at hd
      subst hd
      exact h2 _ (pm.subset (List.mem_append_right _ hc))
    walk_at "go"
    rw [List.isEmpty_map]
    cases xs with
    | nil =>
      walk_at "go"
      refine ⟨ys, rfl, by simpa using pm, eb4, (p3.same s4).mono (by omega), fun c o hc nc => s4 _ _ (k3 _ _ hc nc)⟩
    | cons x0 xr =>
      walk_at "go"
      refine v_turn ?_
      walk_at "go"
      refine ⟨g, _, n + ys.length, rfl, ?_, ?_, p3.same s4, by omega, fun z H5 z0 z1 p5 k5 => ?_⟩
      · rw [List.length_map, List.length_map, List.length_cons]; omega
      · rw [List.length_map, List.length_map]; omega
      rw [List.length_map, List.length_map] at z1
      have nag : a ≠ g.p := (hp.p_ne ha).symm
      have nbg : b ≠ g.p := ((hp.same s1).p_ne hb).symm
      have hz : z.toNat < (x0 :: xr).length := by omega
      walk_at "go"
      refine v_pop (k5 _ _ ea4 nag) z0 (by rw [List.length_map]; omega) (by rw [List.length_map]; omega) (y := V.str (tx [(x0 :: xr)[z.toNat]])) (by rw [List.getElem?_map, List.getElem?_eq_getElem hz]; rfl) fun H6 k6 e6 => ?_
      walk_at "go"
      have eb6 := k6 _ _ (k5 _ _ eb4 nbg) hab.symm
      refine v_app eb6 (by rw [List.length_map]; omega) fun H7 k7 e7 => ?_
      walk_at "go"
      refine ⟨xr.length, by simp, (x0 :: xr).eraseIdx z.toNat, ys ++ [(x0 :: xr)[z.toNat]], ?_, rfl, ?_, ?_, ?_, ?_, ?_⟩
      · rw [List.length_eraseIdx_of_lt hz]
        rfl
      · refine .trans ?_ pm
        rw [List.append_assoc]
        refine .append_left _ ?_
        exact erase_perm _ _ hz
      · rw [k7 _ _ e6 hab]
        rw [erase_map]
      · rw [e7, List.map_append]
        rfl
      · have q6 := p5.keep k6 (hp.p_ne ha) (hp.cl_ne ha)
        have q7 := q6.keep k7 ((hp.same s1).p_ne hb) ((hp.same s1).cl_ne hb)
        rw [List.length_append]
        exact q7
      · intro c o hc nc
        exact k7 _ _ (k6 _ _ (k5 _ _ (s4 _ _ (k3 _ _ hc nc)) nc) (ne_of_none hc ha)) (ne_of_none (s1 _ _ hc) hb)
  rintro σ H3 ⟨ys, rfl, pm, eb, p3, k3⟩
  walk_at "go"
  exact k b ys H3 (L2.Same.free s1 hb) pm eb p3 k3
end
end
section
open PySem PySem.Spec L2
def spMade (C : Addr) : Sp := fun vs H Q _ => ∃ (g : Pen) (n : Nat) (d : Addr) (ls : List Nat) (f : Nat → List Nat), vs = [.ref g.p, .ref d] ∧ PenAt g H n ∧ n < 900000 ∧ d ≠ g.p ∧ H d = some (.dK (tabKV ls f)) ∧ Tab ls f ∧
  ∀ x H', H x = none → Keep g.p H H' → PenAt g H' (n + 100) → PlanAt C H' x (ascOf ls) (tabPairs ls f) → PlanOff C H' x d → Q (.ref x) H'
theorem Keep.free {p x : Addr} {H H' : Hp} (k : Keep p H H') (h : H' x = none) (n : x ≠ p) : H x = none := by
  cases z : H x with
  | none => rfl
  | some o =>
    have := k _ _ z n
    rw [h] at this
    cases this
section
variable {P : Program} {w : World} {K : PySem.W.Frag} {mg : Str → Option Value} {base : Heap} {C R O : Addr}
abbrev stmade : Stmt := (top 38)
abbrev Nmade : List Str := ["_law_pen_here", "_law_table", "_law_pairs", "_law_item", "_law_peer"]
theorem scmade : FnScope Nmade ["_law_pen_here", "_law_table"] (defScope stmade) := ⟨rfl, rfl, rfl, by decide +kernel, rfl, by decide +kernel, by decide +kernel⟩

theorem ok_made (F : FnAt K mg "_law_made" stmade) (T : TxtR K mg C R O) (D_draw : Def P w K mg base CX0 1 "_law_draw" ["_law_pen_here", "_law_number"] spDraw) (D_shuffled : Def P w K mg base CX0 2 "_law_shuffled" ["_law_pen_here", "_law_items"] spShuffled) (C_Plan : CDef P w K mg base CX0 3 "Plan" C (spPlan K C)) : Def P w K mg base CX0 5 "_law_made" ["_law_pen_here", "_law_table"] (spMade C) := by
  refine F.ok scmade (fun _ _ _ _ _ _ us hl => match us, hl with | [_, _], _ => rfl) (fun vs H Q E h => ?_) (fun f cdv A outer s H vs Q E hr h => ?_)
  · obtain ⟨g, n, d, ls, f, rfl, _⟩ := h
    rfl
  obtain ⟨g, n, d, ls, fn, rfl, hp, hn, hdp, hd, tab, k⟩ := h
  have hu := hu_of hr
  have nd := scmade.nd
  replace D_draw := D_draw.mono (show 1 ≤ 4 by decide)
  replace D_shuffled := D_shuffled.mono (show 2 ≤ 4 by decide)
  have tl := tab.len
  refine ⟨_, (pss_cons (ps_set (i := 2) nd rfl (Or.inl rfl) (pe_lst pa_nil))
      (pss_cons (ps_lock (ps_for PassesOwn.never rfl (pi_keys (pv 1)) (pg_name (i := 3) nd rfl (Or.inl rfl))
      (pss_one (ps_for PassesOwn.never rfl (pi_str (pe_dget hu (pv 1) (pv 3) (fun _ _ => rfl))) (pg_name (i := 4) nd rfl (Or.inl rfl))
        (pss_one (ps_if (PW.pt (pw_or (pt_cmpR op_ltS (pv 3) (pv 4) (nomark _)) (pw_or1 (pt_cmpR op_gt (pe_cd D_draw hr pass0 (pa_cons (pv 0) (pa_cons pe_int pa_nil))) pe_int (nomark _)))))
          (pss_one (ps_expr (pe_appK (K := K) rfl (pv 2) (pe_op op_addS (pv 3) (pv 4)))))
          pss_nil))))))
      (pss_one (ps_ret (pe_mk C_Plan hr pass0 (pa_cons (pe_joinK (K := K) rfl (pe_tx [] (by decide +kernel)) (pe_cd D_shuffled hr pass0 (pa_cons (pv 0) (pa_cons (pe_callTy (call_list_dK rfl) (by rfl) T.list (by decide +kernel) (pa_cons (pv 1) pa_nil)) pa_nil)))) (pa_cons (pv 2) pa_nil))))))), ?_⟩
  refine s_start [some _, some _, none, none, none] rfl ?_
  walk_at "go"
  intro q H1 hq s1 e1
  walk_at "go"
  have hd1 := s1 _ _ hd
  have ndc : g.cl ≠ d := by
    obtain ⟨a, r, h1, h2, _⟩ := hp.ex
    exact ne_of h2 hd (by intro z; cases z)
  have nqd : q ≠ d := (ne_of_none hd hq).symm
  have nqp := hp.p_ne hq
  have nqc := hp.cl_ne hq
  refine e_lock hd1 trivial fun od => ?_
  have fz : ∀ b o, b ≠ d → H1 b = some o → upd H1 d (.frz od (.dK (tabKV ls fn))) b = some o := fun b o nb hb => by
    rw [upd_ne nb]
    exact hb
  walk_at "go"
  refine ⟨d, od, rfl, .inl ⟨_, upd_same, ?_⟩⟩
  have p1 : PenAt g (upd H1 d (.frz od (.dK (tabKV ls fn)))) n := by
    obtain ⟨a, r, h1, h2, h3⟩ := (hp.same s1).ex
    exact ⟨a, r, fz _ _ hdp.symm h1, fz _ _ ndc h2, h3⟩
  refine for_it walk_keys (fun i σ H' => ∃ x1 x2 ps, σ = [some (.ref g.p), some (.ref d), some (.ref q), x1, x2] ∧ PenAt g H' (n + 8 * i) ∧ (∀ b o, H b = some o → b ≠ g.p → b ≠ d → H' b = some o) ∧ H' d = some (.frz od (.dK (tabKV ls fn))) ∧ H' q = some (.lst (strsV ps)) ∧ ps.length ≤ 8 * i ∧
    (∀ p ∈ ps, ∃ a b, p = [a, b] ∧ a ∈ ls ∧ b ∈ fn a) ∧ ∀ a ∈ ls.take i, ∀ b ∈ fn a, a < b → [a, b] ∈ ps) ⟨_, _, [], rfl, p1, fun b o hb n1 n2 => fz _ _ n2 (s1 _ _ hb), upd_same, fz _ _ nqd e1, by simp, by simp, by simp⟩ (fun i σ H' _ z => ?_) ?_ ?_
  · obtain ⟨x1, x2, ps, _, _, _, h, _⟩ := z
    exact h
  · rintro i v σ H2 H3 hi ⟨x1, x2, ps, rfl, p2, k2, d2, q2, l2, h2, g2⟩ ⟨rfl, kk, vv, hkv, rfl⟩
    have hi' : i < ls.length := by
      unfold tabKV at hi
      rw [List.length_map] at hi
      exact hi
    obtain ⟨rfl, rfl⟩ : kk = Sum.inr (tx [ls.getD i 0]) ∧ vv = V.str (tx (fn (ls.getD i 0))) := by
      unfold tabKV at hkv
      rw [List.getElem?_map, List.getElem?_eq_getElem hi'] at hkv
      have e : ls.getD i 0 = ls[i] := by rw [List.getD_eq_getElem?_getD, List.getElem?_eq_getElem hi']; rfl
      rw [e]
      injection hkv with hkv
      injection hkv with a b
      exact ⟨a.symm, b.symm⟩
    have hx : ls.getD i 0 ∈ ls := getD_mem hi'
    have hgl := tab.gl _ hx
    show tFor _ _ _ _ _ _
    walk_at "go"
    refine v_dget (tab_getF d2 hx) ?_
    walk_at "go"
    refine for_it (walk_tx (fn (ls.getD i 0))) (fun j σ H' => ∃ x2 ps, σ = [some (.ref g.p), some (.ref d), some (.ref q), some (.str (tx [ls.getD i 0])), x2] ∧ PenAt g H' (n + 8 * i + j) ∧ (∀ b o, H b = some o → b ≠ g.p → b ≠ d → H' b = some o) ∧ H' d = some (.frz od (.dK (tabKV ls fn))) ∧ H' q = some (.lst (strsV ps)) ∧ ps.length ≤ 8 * i + j ∧
      (∀ p ∈ ps, ∃ a b, p = [a, b] ∧ a ∈ ls ∧ b ∈ fn a) ∧ (∀ a ∈ ls.take i, ∀ b ∈ fn a, a < b → [a, b] ∈ ps) ∧ ∀ b ∈ (fn (ls.getD i 0)).take j, ls.getD i 0 < b → [ls.getD i 0, b] ∈ ps) ⟨_, ps, rfl, p2, k2, d2, q2, l2, h2, g2, by simp⟩ (fun _ _ _ _ _ => trivial) ?_ ?_
    · rintro j v σ H4 H5 hj ⟨x2, ps, rfl, p4, k4, d4, q4, l4, h4, g4, t4⟩ ⟨rfl, rfl⟩
      have hy : (fn (ls.getD i 0)).getD j 0 ∈ fn (ls.getD i 0) := getD_mem hj
      generalize hyy : (fn (ls.getD i 0)).getD j 0 = y at hy ⊢
      generalize hxx : ls.getD i 0 = x at *
      have l3 : [x].length + [y].length ≤ 1000000 := by simp
      have app : ∀ (H6 H7 : Hp), PenAt g H6 (n + 8 * i + j + 1) → Keep g.p H5 H6 → Keep q H6 H7 → H7 q = some (.lst (strsV ps ++ [V.str (tx ([x] ++ [y]))])) → ∃ x2 ps, [some (V.ref g.p), some (V.ref d), some (V.ref q), some (V.str (tx [x])), some (V.str (tx [y]))] = [some (.ref g.p), some (.ref d), some (.ref q), some (.str (tx [x])), x2] ∧ PenAt g H7 (n + 8 * i + (j + 1)) ∧ (∀ b o, H b = some o → b ≠ g.p → b ≠ d → H7 b = some o) ∧ H7 d = some (.frz od (.dK (tabKV ls fn))) ∧ H7 q = some (.lst (strsV ps)) ∧ ps.length ≤ 8 * i + (j + 1) ∧
          (∀ p ∈ ps, ∃ a b, p = [a, b] ∧ a ∈ ls ∧ b ∈ fn a) ∧ (∀ a ∈ ls.take i, ∀ b ∈ fn a, a < b → [a, b] ∈ ps) ∧ ∀ b ∈ (fn x).take (j + 1), x < b → [x, b] ∈ ps := by
        intro H6 H7 p6 k6 k7 e7
        refine ⟨_, ps ++ [[x, y]], rfl, p6.keep k7 nqp nqc, fun b o hb n1 n2 => k7 _ _ (k6 _ _ (k4 _ _ hb n1 n2) n1) (ne_of_none hb hq), k7 _ _ (k6 _ _ d4 hdp) nqd.symm, ?_, ?_, ?_, ?_, ?_⟩
        · rw [e7]
          unfold strsV
          rw [List.map_append]
          rfl
        · rw [List.length_append, List.length_singleton]
          omega
        · intro p hp
          rcases List.mem_append.mp hp with z | z
          · exact h4 p z
          · exact ⟨x, y, List.mem_singleton.mp z, hx, hy⟩
        · intro a ha b hb hab
          exact List.mem_append_left _ (g4 a ha b hb hab)
        · intro b hb hab
          rw [take_getD hj, List.mem_append, List.mem_singleton] at hb
          rcases hb with z | z
          · exact List.mem_append_left _ (t4 b z hab)
          · rw [z, hyy]
            exact List.mem_append_right _ (List.mem_singleton.mpr rfl)
      walk_at "go"
      rw [lt_one]
      refine if_dec (fun c => ?_) (fun c => ?_)
      · walk_at "go"
        refine v_app q4 (by rw [List.length_map]; omega) fun H6 k6 e6 => ?_
        exact app H5 H6 (p4.mono (by omega)) (Keep.refl _ _) k6 e6
      · walk_at "go"
        refine ⟨g, 3, _, rfl, by omega, by omega, p4, by omega, fun z H6 _ _ p6 k6 => ?_⟩
        walk_at "go"
        refine if_dec (fun c2 => ?_) (fun c2 => ?_)
        · have q6 := k6 _ _ q4 nqp.symm
          walk_at "go"
          refine v_app q6 (by rw [List.length_map]; omega) fun H7 k7 e7 => ?_
          exact app H6 H7 p6 k6 k7 e7
        · walk_at "go"
          refine ⟨_, ps, rfl, p6, fun b o hb n1 n2 => k6 _ _ (k4 _ _ hb n1 n2) n1, k6 _ _ d4 hdp, k6 _ _ q4 nqp.symm, by omega, h4, g4, ?_⟩
          intro b hb hab
          rw [take_getD hj, List.mem_append, List.mem_singleton] at hb
          rcases hb with z | z
          · exact t4 b z hab
          · rw [z, hyy] at hab
            exact absurd hab c
    · rintro σ H4 ⟨x2, ps, rfl, p4, k4, d4, q4, l4, h4, g4, t4⟩
      rw [List.take_of_length_le (Nat.le_refl _)] at t4
      refine ⟨_, _, ps, rfl, p4.mono (by omega), k4, d4, q4, by omega, h4, ?_⟩
      intro a ha b hb hab
      rw [take_getD hi', List.mem_append, List.mem_singleton] at ha
      rcases ha with z | z
      · exact g4 a z b hb hab
      · subst z
        exact t4 b hb hab
  rintro σ H2 ⟨x1, x2, ps, rfl, p2, k2, d2, q2, l2, h2, g2⟩
  have tk : (tabKV ls fn).length = ls.length := by unfold tabKV; rw [List.length_map]
  rw [tk] at p2 l2 g2
  rw [List.take_of_length_le (Nat.le_refl _)] at g2
  refine ⟨d2, ?_⟩
  have p3 : PenAt g (upd H2 d (.dK (tabKV ls fn))) (n + 64) := by
    obtain ⟨a, r, h1, h3, h4, h5, h6, h7⟩ := p2.ex
    exact ⟨a, r, by rw [upd_ne hdp.symm]; exact h1, by rw [upd_ne ndc]; exact h3, h4, h5, by omega, h7⟩
  have k3 : Keep g.p H (upd H2 d (.dK (tabKV ls fn))) := fun b o hb nb => by
    by_cases e : b = d
    · subst e
      rw [upd_same, ← hb, hd]
    · rw [upd_ne e]
      exact k2 _ _ hb nb e
  have d3 : upd H2 d (.dK (tabKV ls fn)) d = some (.dK (tabKV ls fn)) := upd_same
  have q3 : upd H2 d (.dK (tabKV ls fn)) q = some (.lst (strsV ps)) := by rw [upd_ne nqd]; exact q2
  generalize upd H2 d (.dK (tabKV ls fn)) = H3 at p3 k3 d3 q3 ⊢
  walk_at "go"
  refine v_listD d3 fun l H4 hl s4 e4 => ?_
  rw [tab_keys] at e4
  walk_at "go"
  refine ⟨g, n + 64, l, ls, rfl, e4, by omega, fun c hc => by have := LET_lt (tab.lt c hc); omega, p3.same s4, by omega, fun y ys H5 hy pm e5 p5 k5 => ?_⟩
  walk_at "go"
  rw [strs_ones] at e5
  have ylen := pm.length_eq
  refine v_join e5 (by rw [flat_ones]; omega) ?_
  rw [flat_ones]
  walk_at "go"
  have nqp' := nqp.symm
  refine ⟨ys, q, ps, rfl, ⟨.inl (k5 _ _ (s4 _ _ q3) nqp'), by omega, ?_, fun c hc => tab.lt c (pm.subset hc), pm.nodup_iff.mpr tab.nd, by omega⟩, fun x H6 hx s6 pl off => ?_⟩
  · intro p hp
    obtain ⟨a, b, rfl, ha, hb⟩ := h2 p hp
    obtain ⟨b1, b2, b3⟩ := tab.sub a ha b hb
    exact ⟨a, b, rfl, b2.symm, pm.mem_iff.mpr ha, pm.mem_iff.mpr b1⟩
  have kA : Keep g.p H H6 := fun b o hb nb => s6 _ _ (k5 _ _ (s4 _ _ (k3 _ _ hb nb)) nb)
  rw [show kindsOf ys = ascOf ls from ascOf_congr fun c => pm.mem_iff, show prsOf ps = tabPairs ls fn from tabPairs_eq tab h2 g2] at pl
  have kB : Keep g.p H H5 := fun b o hb nb => k5 _ _ (s4 _ _ (k3 _ _ hb nb)) nb
  refine k x H6 (kB.free hx (p5.p_ne hx).symm) kA ((p5.same s6).mono (by omega)) pl (off d _ (k5 _ _ (s4 _ _ d3) hdp))
end
end
section
open PySem PySem.Spec L2
def spFloor : Sp := fun vs H Q _ => ∃ (g : Pen) (n num : Nat), vs = [.ref g.p, .int num] ∧ 1 ≤ num ∧ num ≤ 8 ∧ PenAt g H n ∧ n < 900000 ∧
  ∀ (d : Addr) (ls : List Nat) (rel : Nat → Nat → Bool) (H' : Hp), H d = none → Flr num ls rel → H' d = some (.dK (tabKV ls (crossBy ls rel))) → PenAt g H' (n + 300) → Keep g.p H H' → Q (.ref d) H'
structure TxtH (K : PySem.W.Frag) (mg : Str → Option Value) : Prop extends Txt K mg where
  range : mg "range" = none
section
variable {P : Program} {w : World} {K : PySem.W.Frag} {mg : Str → Option Value} {base : Heap}
abbrev stfloor : Stmt := (top 37)
abbrev Nfloor : List Str := ["_law_pen_here", "_law_number", "_law_letters", "_law_sort", "_law_table", "_law_item", "_law_at", "_law_far", "_law_is_side", "_law_is_drawn", "_law_is_often", "_law_peer"]
theorem scfloor : FnScope Nfloor ["_law_pen_here", "_law_number"] (defScope stfloor) := ⟨rfl, rfl, rfl, by decide +kernel, rfl, by decide +kernel, by decide +kernel⟩

theorem ok_floor (F : FnAt K mg "_law_floor" stfloor) (T : TxtH K mg) (D_draw : Def P w K mg base CX0 1 "_law_draw" ["_law_pen_here", "_law_number"] spDraw) (D_pick : Def P w K mg base CX0 2 "_law_pick" ["_law_pen_here", "_law_items"] spPick) : Def P w K mg base CX0 3 "_law_floor" ["_law_pen_here", "_law_number"] spFloor := by
  refine F.ok scfloor (fun _ _ _ _ _ _ us hl => match us, hl with | [_, _], _ => rfl) (fun vs H Q E h => ?_) (fun f cdv A outer s H vs Q E hr h => ?_)
  · obtain ⟨g, n, num, rfl, _⟩ := h
    rfl
  obtain ⟨g, n, num, rfl, n1, n8, hp, hn, k⟩ := h
  have hu := hu_of hr
  have nd := scfloor.nd
  replace D_draw := D_draw.mono (show 1 ≤ 2 by decide)
  refine ⟨_, (pss_cons (ps_set (i := 2) nd rfl (Or.inl rfl) (pe_slice sl_S (pe_cd D_pick hr pass0 (pa_cons (pv 0) (pa_cons (pe_lst (pa_cons (pe_tx [97, 98, 99, 100, 101, 102, 103, 104] (by decide +kernel)) (pa_cons (pe_tx [98, 100, 102, 104, 106, 108, 110, 112] (by decide +kernel)) (pa_cons (pe_tx [115, 116, 117, 118, 119, 120, 121, 122] (by decide +kernel)) pa_nil)))) pa_nil))) po_none (po_some (pe_op op_add pe_int (pe_cd D_draw hr pass0 (pa_cons (pv 0) (pa_cons (pv 1) pa_nil)))))))
      (pss_cons (ps_par (i := 3) (j := 4) (by rfl) nd rfl rfl (by decide) rfl rfl (pa_cons (pe_cd D_draw hr pass0 (pa_cons (pv 0) (pa_cons pe_int pa_nil))) (pa_cons pe_dnewK pa_nil)) (by rfl))
      (pss_cons (ps_for PassesOwn.never rfl (pi_str (pv 2)) (pg_name (i := 5) nd rfl (Or.inl rfl))
      (pss_one (ps_dput hu (pv 4) (pv 5) (pe_tx [] (by decide +kernel)) rfl)))
      (pss_cons (ps_for PassesOwn.never rfl (pi_range1 (by rfl) T.range (pa_cons (pe_callB c_lenS (by rfl) T.len PySem.boot_len (pa_cons (pv 2) pa_nil)) pa_nil)) (pg_name (i := 6) nd rfl (Or.inl rfl))
      (pss_one (ps_for PassesOwn.never rfl (pi_range2 (by rfl) T.range (pa_cons (pe_op op_add (pv 6) pe_int) (pa_cons (pe_callB c_lenS (by rfl) T.len PySem.boot_len (pa_cons (pv 2) pa_nil)) pa_nil))) (pg_name (i := 7) nd rfl (Or.inl rfl))
        (pss_cons (ps_set (i := 8) nd rfl (Or.inl rfl) (pe_cut (pe_or (pe_cmpR op_eq (pe_op op_sub (pv 7) (pv 6)) pe_int (nomark _)) (pe_one (pe_cmpR op_eq (pe_op op_sub (pv 7) (pv 6)) (pe_op op_sub (pe_callB c_lenS (by rfl) T.len PySem.boot_len (pa_cons (pv 2) pa_nil)) pe_int) (nomark _))))))
          (pss_cons (ps_set (i := 9) nd rfl (Or.inl rfl) (pe_cmpR op_eq (pe_cd D_draw hr pass0 (pa_cons (pv 0) (pa_cons pe_int pa_nil))) pe_int (nomark _)))
          (pss_cons (ps_set (i := 10) nd rfl (Or.inl rfl) (pe_cut (pe_or (pv 9) (pe_one (pe_cmpR op_eq (pe_cd D_draw hr pass0 (pa_cons (pv 0) (pa_cons pe_int pa_nil))) pe_int (nomark _))))))
          (pss_one (ps_if (pt_val (pe_ix (ix_LK (K := K) rfl) (pe_lst (pa_cons pe_bl (pa_cons pe_bl (pa_cons (pv 8) (pa_cons (pv 10) (pa_cons (pv 9) (pa_cons (pv 9) pa_nil))))))) (pv 3) (fun _ _ => rfl)))
          (pss_cons (ps_par (i := 5) (j := 11) (by rfl) nd rfl rfl (by decide) rfl rfl (pa_cons (pe_ix ix_str (pv 2) (pv 6) (fun _ _ => rfl)) (pa_cons (pe_ix ix_str (pv 2) (pv 7) (fun _ _ => rfl)) pa_nil)) (by rfl))
            (pss_cons (ps_dput hu (pv 4) (pv 5) (pe_op op_addS (pe_dget hu (pv 4) (pv 5) (fun _ _ => rfl)) (pv 11)) rfl)
            (pss_one (ps_dput hu (pv 4) (pv 11) (pe_op op_addS (pe_dget hu (pv 4) (pv 11) (fun _ _ => rfl)) (pv 5)) rfl))))
          pss_nil))))))))
      (pss_one (ps_ret (pv 4))))))), ?_⟩
  refine s_start [some _, some _, none, none, none, none, none, none, none, none, none, none] rfl ?_
  walk_at "go"
  intro q H1 hq s1 e1
  walk_at "go"
  refine ⟨g, n, q, _, rfl, e1, by decide, by decide, hp.same s1, by omega, (hp.p_ne hq).symm, fun v H2 hv p2 k2 => ?_⟩
  obtain ⟨t, ht, rfl⟩ : ∃ t ∈ ABC, v = V.str (tx t) := by
    simp only [List.mem_cons, List.not_mem_nil, or_false] at hv
    rcases hv with rfl | rfl | rfl
    · exact ⟨_, by decide, rfl⟩
    · exact ⟨_, by decide, rfl⟩
    · exact ⟨_, by decide, rfl⟩
  have tl := (abc_ok t ht).2.2.1
  walk_at "go"
  refine ⟨g, num, n + 1, rfl, by omega, by omega, p2, by omega, fun z H3 z0 z1 p3 k3 => ?_⟩
  walk_at "go"
  refine v_slTo (by omega) (by omega) ?_
  have hcut : ∃ t' ∈ ABC, ∃ m, 1 ≤ m ∧ m ≤ num ∧ t.take (1 + z).toNat = t'.take m := ⟨t, ht, (1 + z).toNat, by omega, by omega, rfl⟩
  generalize t.take (1 + z).toNat = ls at hcut ⊢
  have lnd := cut_nd hcut
  have lle := cut_len hcut
  have llt := cut_lt hcut
  walk_at "go"
  refine ⟨g, 6, n + 2, rfl, by omega, by omega, p3, by omega, fun so H4 so0 so1 p4 k4 => ?_⟩
  walk_at "go"
  intro d H5 hd s5 e5
  have kA : Keep g.p H H5 := fun b o hb nb => s5 _ _ (k4 _ _ (k3 _ _ (k2 _ _ (s1 _ _ hb) nb) nb) nb)
  have hd0 : H d = none := by
    cases z : H d with
    | none => rfl
    | some o =>
      by_cases e : d = g.p
      · exact absurd e (p4.p_ne hd).symm
      · have := k4 _ _ (k3 _ _ (k2 _ _ (s1 _ _ z) e) e) e
        rw [hd] at this
        cases this
  have ndp := (p4.p_ne hd)
  have ndc := (p4.cl_ne hd)
  have p5 := p4.same s5
  walk_at "go"
  refine for_it (walk_tx ls) (fun i σ H' => ∃ x, σ = [some (.ref g.p), some (.int num), some (.str (tx ls)), some (.int so), some (.ref d), x, none, none, none, none, none, none] ∧ PenAt g H' (n + 3) ∧ Keep g.p H H' ∧ H' d = some (.dK (tabKV (ls.take i) (crossBy ls fun _ _ => false)))) ⟨_, rfl, p5, kA, e5⟩ (fun _ _ _ _ _ => trivial) ?_ ?_
  · rintro i v σ H6 H7 hi ⟨x, rfl, p6, k6, e6⟩ ⟨rfl, rfl⟩
    walk_at "go"
    refine v_put (tab_new e6 (take_notin lnd hi) (by unfold crossBy; simp) (by rw [List.length_take]; omega)) fun H8 k8 e8 => ?_
    refine ⟨_, rfl, p6.keep k8 ndp ndc, fun b o hb nb => k8 _ _ (k6 _ _ hb nb) (ne_of_none hb hd0), ?_⟩
    rw [take_getD hi]
    exact e8
  rintro σ H6 ⟨x, rfl, p6, k6, e6⟩
  rw [List.take_of_length_le (Nat.le_refl _)] at e6
  have relA : RelOk ls fun _ _ => false := ⟨fun _ _ => rfl, fun _ _ h => by cases h⟩
  walk_at "go"
  refine for_it (walk_rI (fun i => ((i : Nat) : Int)) (fun k => Int.zero_add _)) (fun i σ H' => ∃ x1 x2 x3 x4 x5 x6 x7 rel, σ = [some (.ref g.p), some (.int num), some (.str (tx ls)), some (.int so), some (.ref d), x1, x2, x3, x4, x5, x6, x7] ∧ PenAt g H' (n + 3 + 20 * i) ∧ Keep g.p H H' ∧ RelOk ls rel ∧ Upto ls rel i 0 ∧ H' d = some (.dK (tabKV ls (crossBy ls rel)))) ⟨_, _, _, _, _, _, _, _, rfl, p6, k6, relA, fun _ _ _ _ h => (by cases h), e6⟩ (fun _ _ _ _ _ => trivial) ?_ ?_
  · rintro i v σ H7 H8 hi ⟨x1, x2, x3, x4, x5, x6, x7, rel, rfl, p7, k7, r7, u7, e7⟩ ⟨rfl, rfl⟩
    have hi' : i < ls.length := by omega
    walk_at "go"
    refine for_it (walk_rI (fun j => ((i + 1 + j : Nat) : Int)) (fun k => by omega)) (fun j σ H' => ∃ x1 x3 x4 x5 x6 x7 rel, σ = [some (.ref g.p), some (.int num), some (.str (tx ls)), some (.int so), some (.ref d), x1, some (.int (i : Nat)), x3, x4, x5, x6, x7] ∧ PenAt g H' (n + 3 + 20 * i + 2 * j) ∧ Keep g.p H H' ∧ RelOk ls rel ∧ Upto ls rel i (i + 1 + j) ∧ H' d = some (.dK (tabKV ls (crossBy ls rel)))) ⟨_, _, _, _, _, _, _, rfl, p7, k7, r7, ?_, e7⟩ (fun _ _ _ _ _ => trivial) ?_ ?_
    · intro a b h1 h2 h3
      have := u7 a b h1 h2 h3
      omega
    · rintro j v σ H9 H10 hj ⟨y1, y3, y4, y5, y6, y7, rel, rfl, p9, k9, r9, u9, e9⟩ ⟨rfl, rfl⟩
      have hj' : i + 1 + j < ls.length := by omega
      walk_at "go"
      refine e_cut (fun v H' => (∃ b, v = .bl b) ∧ H' = H10) ?_ ?_
      · walk_at "go"
        refine if_bool (fun _ => ⟨⟨_, rfl⟩, rfl⟩) (fun _ => ?_)
        walk_at "go"
        exact ⟨⟨_, rfl⟩, rfl⟩
      rintro v H11 ⟨⟨b1, rfl⟩, rfl⟩
      walk_at "go"
      refine ⟨g, 2, _, rfl, by omega, by omega, p9, by omega, fun z1 H12 _ _ p12 k12 => ?_⟩
      walk_at "go"
      refine e_cut (fun v H' => (∃ b, v = .bl b) ∧ PenAt g H' (n + 3 + 20 * i + 2 * j + 2) ∧ Keep g.p H12 H') ?_ ?_
      · walk_at "go"
        refine if_bool (fun _ => ⟨⟨_, rfl⟩, p12.mono (by omega), Keep.refl _ _⟩) (fun _ => ?_)
        walk_at "go"
        refine ⟨g, 2, _, rfl, by omega, by omega, p12, by omega, fun z2 H13 _ _ p13 k13 => ?_⟩
        walk_at "go"
        exact ⟨⟨_, rfl⟩, p13, k13⟩
      rintro v H13 ⟨⟨b2, rfl⟩, p13, k13⟩
      have e13 := k13 _ _ (k12 _ _ e9 ndp.symm) ndp.symm
      have k13' : Keep g.p H H13 := fun b o hb nb => k13 _ _ (k12 _ _ (k9 _ _ hb nb) nb) nb
      walk_at "go"
      intro q2 H14 hq2 s14 e14
      walk_at "go"
      obtain ⟨bb, hbb⟩ : ∃ bb, [V.bl false, V.bl true, V.bl b1, V.bl b2, V.bl (decide (V.int z1 = V.int 0)), V.bl (decide (V.int z1 = V.int 0))][so.toNat]? = some (V.bl bb) := by
        have : so.toNat = 0 ∨ so.toNat = 1 ∨ so.toNat = 2 ∨ so.toNat = 3 ∨ so.toNat = 4 ∨ so.toNat = 5 := by omega
        rcases this with e | e | e | e | e | e <;> rw [e] <;> exact ⟨_, rfl⟩
      refine v_ixL e14 (at_of (j := so.toNat) (by omega) hbb) ?_
      walk_at "go"
      have e15 := s14 _ _ e13
      have p15 := p13.same s14
      have k15 : Keep g.p H H14 := fun b o hb nb => s14 _ _ (k13' _ _ hb nb)
      have hx : ls.getD i 0 ∈ ls := getD_mem hi'
      have hy : ls.getD (i + 1 + j) 0 ∈ ls := getD_mem hj'
      have hxy : ls.getD (i + 1 + j) 0 ≠ ls.getD i 0 := fun z => by have := getD_inj lnd hj' hi' z; omega
      cases bb with
      | false =>
        walk_at "go"
        exact ⟨_, _, _, _, _, _, rel, rfl, p15.mono (by omega), k15, r9, u9.more, e15⟩
      | true =>
        walk_at "go"
        refine v_ixS (by omega) (at_getD hi') ?_
        walk_at "go"
        refine v_ixS (by omega) (at_getD hj') ?_
        walk_at "go"
        refine v_dget (tab_get e15 hx) ?_
        have l1 : (crossBy ls rel (ls.getD i 0)).length ≤ ls.length := List.length_filter_le _ _
        have l2 : (crossBy ls rel (ls.getD (i + 1 + j) 0)).length ≤ ls.length := List.length_filter_le _ _
        have l3 : (crossBy ls rel (ls.getD i 0)).length + [ls.getD (i + 1 + j) 0].length ≤ 1000000 := by rw [List.length_singleton]; omega
        have l4 : (crossBy ls rel (ls.getD (i + 1 + j) 0)).length + [ls.getD i 0].length ≤ 1000000 := by rw [List.length_singleton]; omega
        walk_at "go"
        refine v_put (tab_put e15 hx (by omega)) fun H16 k16 e16 => ?_
        walk_at "go"
        refine v_dget (tab_get e16 hy) ?_
        rw [if_neg hxy]
        walk_at "go"
        refine v_put (tab_put e16 hy (by omega)) fun H17 k17 e17 => ?_
        refine ⟨_, _, _, _, _, _, addRel rel (ls.getD i 0) (ls.getD (i + 1 + j) 0), rfl, ((p15.keep k16 ndp ndc).keep k17 ndp ndc).mono (by omega), fun b o hb nb => k17 _ _ (k16 _ _ (k15 _ _ hb nb) (ne_of_none hb hd0)) (ne_of_none hb hd0), r9.add hx hy hxy.symm, u9.add lnd (by omega) hj', ?_⟩
        rw [e17]
        congr 2
        refine tabKV_congr fun c hc => ?_
        rw [← tabStep lnd r9 (show i < i + 1 + j by omega) hj' u9 c hc, if_neg hxy]
    · rintro σ H9 ⟨y1, y3, y4, y5, y6, y7, rel, rfl, p9, k9, r9, u9, e9⟩
      refine ⟨_, _, _, _, _, _, _, rel, rfl, p9.mono (by omega), k9, r9, u9.turn (by omega), e9⟩
  rintro σ H7 ⟨x1, x2, x3, x4, x5, x6, x7, rel, rfl, p7, k7, r7, u7, e7⟩
  walk_at "go"
  refine k d ls rel H7 hd0 ⟨hcut, r7⟩ e7 (p7.mono (by omega)) k7
end
end
section
open PySem PySem.Spec L2
def spWalk : Sp := fun vs H Q _ => ∃ (g : Pen) (n : Nat) (d : Addr) (ls : List Nat) (f : Nat → List Nat) (num : Nat), vs = [.ref g.p, .ref d, .int num] ∧ PenAt g H n ∧ n < 900000 ∧ d ≠ g.p ∧ H d = some (.dK (tabKV ls f)) ∧ Tab ls f ∧ 0 < ls.length ∧ num ≤ 100000 ∧
  ∀ (l : List Nat) H', (∀ c ∈ l, c ∈ ls) → l.length ≤ num → PenAt g H' (n + 100) → Keep g.p H H' → Q (.str (tx l)) H'
theorem mem_rep {a : List Nat} {n : Nat} {c : Nat} (h : c ∈ (List.replicate n a).flatten) : c ∈ a := by
  rw [List.mem_flatten] at h
  obtain ⟨l, hl, hc⟩ := h
  rw [List.mem_replicate] at hl
  exact hl.2 ▸ hc
theorem len_rep (a : List Nat) (n : Nat) : (List.replicate n a).flatten.length = n * a.length := by
  rw [List.length_flatten, List.map_replicate, List.sum_replicate_nat]
section
variable {P : Program} {w : World} {K : PySem.W.Frag} {mg : Str → Option Value} {base : Heap}
abbrev stwalk : Stmt := (top 39)
abbrev Nwalk : List Str := ["_law_pen_here", "_law_table", "_law_number", "_law_letters", "_law_found", "_law_turn", "_law_item", "_law_peer", "_law_sort", "_law_k"]
theorem scwalk : FnScope Nwalk ["_law_pen_here", "_law_table", "_law_number"] (defScope stwalk) := ⟨rfl, rfl, rfl, by decide +kernel, rfl, by decide +kernel, by decide +kernel⟩

theorem ok_walk (F : FnAt K mg "_law_walk" stwalk) (T : TxtH K mg) (D_draw : Def P w K mg base CX0 1 "_law_draw" ["_law_pen_here", "_law_number"] spDraw) (D_pick : Def P w K mg base CX0 2 "_law_pick" ["_law_pen_here", "_law_items"] spPick) : Def P w K mg base CX0 3 "_law_walk" ["_law_pen_here", "_law_table", "_law_number"] spWalk := by
  refine F.ok scwalk (fun _ _ _ _ _ _ us hl => match us, hl with | [_, _, _], _ => rfl) (fun vs H Q E h => ?_) (fun f cdv A outer s H vs Q E hr h => ?_)
  · obtain ⟨g, n, d, ls, f, num, rfl, _⟩ := h
    rfl
  obtain ⟨g, n, d, ls, fn, num, rfl, hp, hn, hdp, hd, tab, l0, hnum, k⟩ := h
  have hu := hu_of hr
  have nd := scwalk.nd
  replace D_draw := D_draw.mono (show 1 ≤ 2 by decide)
  have tl := tab.len
  refine ⟨_, (pss_cons (ps_par (i := 3) (j := 4) (by rfl) nd rfl rfl (by decide) rfl rfl (pa_cons (pe_callTy (call_list_dK rfl) (by rfl) T.list (by decide +kernel) (pa_cons (pv 1) pa_nil)) (pa_cons (pe_tx [] (by decide +kernel)) pa_nil)) (by rfl))
      (pss_cons (ps_for PassesOwn.never rfl (pi_range1 (by rfl) T.range (pa_cons (pe_cd D_draw hr pass0 (pa_cons (pv 0) (pa_cons pe_int pa_nil))) pa_nil)) (pg_name (i := 5) nd rfl (Or.inl rfl))
      (pss_cons (ps_par3 (i := 6) (j := 7) (l := 8) (by rfl) nd rfl rfl rfl (by decide) (by decide) (by decide) rfl rfl rfl (pa_cons (pe_cd D_pick hr pass0 (pa_cons (pv 0) (pa_cons (pv 3) pa_nil))) (pa_cons (pe_cd D_pick hr pass0 (pa_cons (pv 0) (pa_cons (pv 3) pa_nil))) (pa_cons (pe_cd D_draw hr pass0 (pa_cons (pv 0) (pa_cons pe_int pa_nil))) pa_nil))) (by rfl))
        (pss_one (ps_if (pt_cmpR op_eq (pv 8) pe_int (nomark _))
        (pss_one (ps_set (i := 4) nd rfl (Or.inl rfl) (pe_op op_addS (pv 4) (pe_op op_mulS (pe_op op_addS (pv 6) (pv 7)) (pe_op op_add pe_int (pe_cd D_draw hr pass0 (pa_cons (pv 0) (pa_cons pe_int pa_nil))))))))
        (pss_one (ps_if (pt_cmpR op_eq (pv 8) pe_int (nomark _))
          (pss_one (ps_set (i := 4) nd rfl (Or.inl rfl) (pe_op op_addS (pv 4) (pe_slice sl_S (pe_revS (pv 4)) po_none (po_some (pe_cd D_draw hr pass0 (pa_cons (pv 0) (pa_cons pe_int pa_nil))))))))
          (pss_one (ps_if (pt_cmpR op_eq (pv 8) pe_int (nomark _))
            (pss_one (ps_set (i := 4) nd rfl (Or.inl rfl) (pe_op op_addS (pe_op op_addS (pv 4) (pe_dget hu (pv 1) (pv 6) (fun _ _ => rfl))) (pv 6))))
            (pss_one (ps_for PassesOwn.never rfl (pi_range1 (by rfl) T.range (pa_cons (pe_op op_add pe_int (pe_cd D_draw hr pass0 (pa_cons (pv 0) (pa_cons pe_int pa_nil)))) pa_nil)) (pg_name (i := 9) nd rfl (Or.inl rfl))
              (pss_one (ps_set (i := 4) nd rfl (Or.inl rfl) (pe_op op_addS (pv 4) (pe_cd D_pick hr pass0 (pa_cons (pv 0) (pa_cons (pv 3) pa_nil))))))))))))))))
      (pss_one (ps_ret (pe_slice sl_S (pv 4) po_none (po_some (pv 2))))))), ?_⟩
  refine s_start [some _, some _, some _, none, none, none, none, none, none, none] rfl ?_
  walk_at "go"
  refine v_listD hd fun q H1 hq s1 e1 => ?_
  rw [tab_keys] at e1
  have nqp := hp.p_ne hq
  walk_at "go"
  refine ⟨g, 7, n, rfl, by omega, by omega, hp.same s1, by omega, fun zt H2 zt0 zt1 p2 k2 => ?_⟩
  have e2 := k2 _ _ e1 nqp.symm
  have kA : Keep g.p H H2 := fun b o hb nb => k2 _ _ (s1 _ _ hb) nb
  have ll : (ls.map fun c => V.str (tx [c])).length = ls.length := List.length_map _
  walk_at "go"
  have pk : ∀ v ∈ (ls.map fun c => V.str (tx [c])), ∃ c ∈ ls, v = V.str (tx [c]) := fun v hv => by
    obtain ⟨c, hc, e⟩ := List.mem_map.mp hv
    exact ⟨c, hc, e.symm⟩
  refine for_it (walk_rI (fun i => ((i : Nat) : Int)) (fun k => Int.zero_add _)) (fun i σ H' => ∃ x1 x2 x3 x4 x5, ∃ fd : List Nat, σ = [some (.ref g.p), some (.ref d), some (.int num), some (.ref q), some (.str (tx fd)), x1, x2, x3, x4, x5] ∧ PenAt g H' (n + 1 + 12 * i) ∧ Keep g.p H H' ∧ H' q = some (.lst (ls.map fun c => V.str (tx [c]))) ∧ fd.length ≤ 12 * i ∧ ∀ c ∈ fd, c ∈ ls) ⟨_, _, _, _, _, [], rfl, p2, kA, e2, by simp, by simp⟩ (fun _ _ _ _ _ => trivial) ?_ ?_
  · rintro i v σ H3 H4 hi ⟨x1, x2, x3, x4, x5, fd, rfl, p3, k3, e3, l3, m3⟩ ⟨rfl, rfl⟩
    have hi6 : i < 6 := by omega
    walk_at "go"
    refine ⟨g, _, q, _, rfl, e3, by omega, by omega, p3, by omega, nqp.symm, fun v1 H5 hv1 p5 k5 => ?_⟩
    obtain ⟨c1, hc1, rfl⟩ := pk v1 hv1
    have e5 := k5 _ _ e3 nqp.symm
    walk_at "go"
    refine ⟨g, _, q, _, rfl, e5, by omega, by omega, p5, by omega, nqp.symm, fun v2 H6 hv2 p6 k6 => ?_⟩
    obtain ⟨c2, hc2, rfl⟩ := pk v2 hv2
    have e6 := k6 _ _ e5 nqp.symm
    walk_at "go"
    refine ⟨g, 5, _, rfl, by omega, by omega, p6, by omega, fun so H7 so0 so1 p7 k7 => ?_⟩
    have e7 := k7 _ _ e6 nqp.symm
    have kB : Keep g.p H H7 := fun b o hb nb => k7 _ _ (k6 _ _ (k5 _ _ (k3 _ _ hb nb) nb) nb) nb
    have dB := kB _ _ hd hdp
    walk_at "go"
    refine if_dec (fun s0 => ?_) (fun s0 => ?_)
    · have l4 : [c1].length + [c2].length ≤ 1000000 := by simp
      walk_at "go"
      refine ⟨g, 5, _, rfl, by omega, by omega, p7, by omega, fun z H8 z0 z1 p8 k8 => ?_⟩
      walk_at "go"
      have zt : (1 + z).toNat ≤ 5 := by omega
      have z5 : [c1, c2].length * (1 + z).toNat ≤ 10 := by
        show 2 * _ ≤ _
        omega
      refine v_mulS (by omega) (by omega) (Nat.le_trans z5 (by decide)) ?_
      have rl := len_rep [c1, c2] (1 + z).toNat
      have rl2 : (List.replicate (1 + z).toNat [c1, c2]).flatten.length ≤ 10 := by
        rw [rl, Nat.mul_comm]
        exact z5
      refine v_addS (by show fd.length + (List.replicate (1 + z).toNat [c1, c2]).flatten.length ≤ _; omega) ?_
      walk_at "go"
      refine ⟨_, _, _, _, _, _, rfl, p8.mono (by omega), fun b o hb nb => k8 _ _ (kB _ _ hb nb) nb, k8 _ _ e7 nqp.symm, ?_, ?_⟩
      · rw [List.length_append]
        show fd.length + (List.replicate (1 + z).toNat [c1, c2]).flatten.length ≤ _
        omega
      · intro c hc
        rcases List.mem_append.mp hc with z | z
        · exact m3 c z
        · have := mem_rep z
          simp only [List.singleton_append, List.mem_cons, List.not_mem_nil, or_false] at this
          rcases this with rfl | rfl <;> assumption
    walk_at "go"
    refine if_dec (fun s1 => ?_) (fun s1 => ?_)
    · walk_at "go"
      refine ⟨g, 6, _, rfl, by omega, by omega, p7, by omega, fun z H8 z0 z1 p8 k8 => ?_⟩
      walk_at "go"
      refine v_slTo (by rw [List.length_reverse]; omega) z0 ?_
      have rl : (fd.reverse.take z.toNat).length ≤ 5 := by rw [List.length_take]; omega
      refine v_addS (by omega) ?_
      walk_at "go"
      refine ⟨_, _, _, _, _, _, rfl, p8.mono (by omega), fun b o hb nb => k8 _ _ (kB _ _ hb nb) nb, k8 _ _ e7 nqp.symm, ?_, ?_⟩
      · rw [List.length_append]
        omega
      · intro c hc
        rcases List.mem_append.mp hc with z | z
        · exact m3 c z
        · exact m3 c (List.mem_reverse.mp (List.mem_of_mem_take z))
    walk_at "go"
    refine if_dec (fun s2 => ?_) (fun s2 => ?_)
    · walk_at "go"
      refine v_dget (tab_get dB hc1) ?_
      have gl := tab.gl _ hc1
      have l5 : (fd ++ fn c1).length + [c1].length ≤ 1000000 := by
        rw [List.length_append, List.length_singleton]
        omega
      walk_at "go"
      refine ⟨_, _, _, _, _, _, rfl, p7.mono (by omega), kB, e7, ?_, ?_⟩
      · rw [List.length_append, List.length_append, List.length_singleton]
        omega
      · intro c hc
        rcases List.mem_append.mp hc with z | z
        · rcases List.mem_append.mp z with z | z
          · exact m3 c z
          · exact (tab.sub c1 hc1 c z).1
        · rw [List.mem_singleton.mp z]
          exact hc1
    walk_at "go"
    refine ⟨g, 6, _, rfl, by omega, by omega, p7, by omega, fun z H8 z0 z1 p8 k8 => ?_⟩
    walk_at "go"
    refine for_it (walk_rI (fun i => ((i : Nat) : Int)) (fun k => Int.zero_add _)) (fun j σ H' => ∃ x5, ∃ fd' : List Nat, σ = [some (.ref g.p), some (.ref d), some (.int num), some (.ref q), some (.str (tx fd')), some (.int (i : Nat)), some (.str (tx [c1])), some (.str (tx [c2])), some (.int so), x5] ∧ PenAt g H' (n + 1 + 12 * i + 4 + j) ∧ Keep g.p H H' ∧ H' q = some (.lst (ls.map fun c => V.str (tx [c]))) ∧ fd'.length ≤ 12 * i + j ∧ ∀ c ∈ fd', c ∈ ls) ⟨_, fd, rfl, p8, fun b o hb nb => k8 _ _ (kB _ _ hb nb) nb, k8 _ _ e7 nqp.symm, l3, m3⟩ (fun _ _ _ _ _ => trivial) ?_ ?_
    · rintro j v σ H9 H10 hj ⟨x5, fd', rfl, p9, k9, e9, l9, m9⟩ ⟨rfl, rfl⟩
      have hj6 : j < 6 := by omega
      walk_at "go"
      refine ⟨g, _, q, _, rfl, e9, by omega, by omega, p9, by omega, nqp.symm, fun v3 H11 hv3 p11 k11 => ?_⟩
      obtain ⟨c3, hc3, rfl⟩ := pk v3 hv3
      have l6 : fd'.length + [c3].length ≤ 1000000 := by
        rw [List.length_singleton]
        omega
      walk_at "go"
      refine ⟨_, _, rfl, p11, fun b o hb nb => k11 _ _ (k9 _ _ hb nb) nb, k11 _ _ e9 nqp.symm, ?_, ?_⟩
      · rw [List.length_append, List.length_singleton]
        omega
      · intro c hc
        rcases List.mem_append.mp hc with z | z
        · exact m9 c z
        · rw [List.mem_singleton.mp z]
          exact hc3
    · rintro σ H9 ⟨x5, fd', rfl, p9, k9, e9, l9, m9⟩
      exact ⟨_, _, _, _, _, fd', rfl, p9.mono (by omega), k9, e9, by omega, m9⟩
  rintro σ H3 ⟨x1, x2, x3, x4, x5, fd, rfl, p3, k3, e3, l3, m3⟩
  walk_at "go"
  refine v_slTo (by omega) (by omega) ?_
  refine k _ H3 (fun c hc => m3 c (List.mem_of_mem_take hc)) ?_ (p3.mono (by omega)) k3
  rw [List.length_take]
  omega
end
end
section
open PySem PySem.Spec L2
def spPen (K : PySem.W.Frag) : Sp := fun vs H Q _ => ∃ (a : Addr) (ns : List Int), vs = [.ref a] ∧ SqL K H a (ns.map V.int) ∧ ns.length ≤ 63 ∧ ∀ (g : Pen) (H' : Hp), PenAt g H' 0 → Same H H' → H g.p = none → Q (.ref g.p) H'
theorem cut_ints (ns : List Int) (lo hi : Option Int) : ∃ ms : List Int, cutV (ns.map V.int) lo hi = ms.map V.int ∧ ms.length ≤ ns.length := by
  unfold cutV
  rw [← List.map_drop, ← List.map_take]
  refine ⟨_, rfl, ?_⟩
  rw [List.length_take, List.length_drop]
  omega
section
variable {P : Program} {w : World} {K : PySem.W.Frag} {mg : Str → Option Value} {base : Heap}
abbrev stpen : Stmt := (top 33)
abbrev Npen : List Str := ["_law_script"]
theorem scpen : FnScope Npen ["_law_script"] (defScope stpen) := ⟨rfl, rfl, rfl, by decide +kernel, rfl, by decide +kernel, by decide +kernel⟩

theorem ok_pen (F : FnAt K mg "_law_pen" stpen) (T : Txt K mg) : Def P w K mg base CX0 1 "_law_pen" ["_law_script"] (spPen K) := by
  refine F.ok scpen (fun _ _ _ _ _ _ us hl => match us, hl with | [_], _ => rfl) (fun vs H Q E h => ?_) (fun f cdv A outer s H vs Q E hr h => ?_)
  · obtain ⟨a, ns, rfl, _⟩ := h
    rfl
  obtain ⟨a, ns, rfl, ha, hn, k⟩ := h
  have hu := hu_of hr
  have nd := scpen.nd
  refine ⟨_, (pss_one (ps_ret (pe_disp (pps_cons pe_str (pe_callTy (c_listK (K := K) rfl) (by rfl) T.list (by decide +kernel) (pa_cons (pe_slice (sl_LK (K := K) rfl) (pv 0) po_none (po_some pe_int)) pa_nil)) (pps_cons pe_str pe_int (pps_cons pe_str pe_int pps_nil))) (by rfl) (by rfl) (fun z => by cases z) (by decide)))), ?_⟩
  refine s_start [some _] rfl ?_
  walk_at "go"
  intro p hp
  have s1 : Same H (upd H p (.dK [])) := Same.new hp
  obtain ⟨ms, e1, l1⟩ := cut_ints ns none (some 63)
  walk_at "go"
  refine v_slL (sqL_same ha s1) fun b H2 hb s2 e2 => ?_
  rw [e1] at e2
  walk_at "go"
  refine v_list (SqL.of e2) fun c H3 hc s3 e3 => ?_
  walk_at "go"
  have ep : H3 p = some (.dK []) := s3 _ _ (s2 _ _ upd_same)
  refine ⟨ep, [(Sum.inr "cells", .ref c), (Sum.inr "place", .int 0), (Sum.inr "rest", .int 0)], rfl, (by show 3 ≤ 15; decide), ?_⟩
  have hcp : c ≠ p := (ne_of_none (s2 _ _ upd_same) hc).symm
  have em : mergeK [] [(Sum.inr ("cells" : Str), V.ref c), (Sum.inr ("place" : Str), .int 0), (Sum.inr ("rest" : Str), .int 0)] = penL c 0 0 := by
    unfold mergeK penL
    rw [List.foldl_cons, List.foldl_cons, List.foldl_cons, List.foldl_nil]
    rw [putK_new (k := Sum.inr ("cells" : Str)) _ rfl, putK_new (k := Sum.inr ("place" : Str)) _ (by rw [List.nil_append, valV_neg kcp]; rfl), putK_new (k := Sum.inr ("rest" : Str)) _ (by rw [List.nil_append, List.cons_append, valV_neg kcr, List.nil_append, valV_neg kpr]; rfl)]
    rfl
  rw [em]
  have s4 : Same H (upd H3 p (.dK (penL c 0 0))) := fun b' o hb' => by
    rw [upd_ne (ne_of_none hb' hp)]
    exact s3 _ _ (s2 _ _ (s1 _ _ hb'))
  refine k ⟨p, c, ms⟩ _ ⟨0, 0, upd_same, ?_, by show ms.length ≤ 63; omega, by omega, by omega, by omega⟩ s4 hp
  show upd H3 p _ c = _
  rw [upd_ne hcp]
  exact e3
end
end
section
open PySem PySem.Spec L2
theorem cells_ne {k : Nat} : ¬ ((Sum.inr (tx [k]) : Key) = Sum.inr ("cells" : Str)) := by
  intro h
  injection h with h
  have : (tx [k]).length = ("cells" : Str).length := by rw [h]
  rw [tx_len, List.length_singleton] at this
  exact absurd this (by decide +kernel)
theorem RoomAt.pen {R : Addr} {H H' : Hp} {r x : Addr} {nm : List Nat} {g : Pen} {n : Nat} (h : RoomAt R H r x nm) (p : PenAt g H n) (k : Keep g.p H H') : RoomAt R H' r x nm := by
  obtain ⟨dx, e⟩ := h.ex
  obtain ⟨a, b, h1, _⟩ := p.ex
  exact ⟨dx, k _ _ e (ne_of e h1 (by intro z; cases z))⟩
theorem PlanAt.pen {C : Addr} {H H' : Hp} {x : Addr} {ks : List Nat} {ps : List (List Nat)} {g : Pen} {n : Nat} (h : PlanAt C H x ks ps) (p : PenAt g H n) (k : Keep g.p H H') : PlanAt C H' x ks ps := by
  obtain ⟨dx, t, d, a1, a2, a3⟩ := h.ex
  obtain ⟨a, b, h1, _⟩ := p.ex
  refine ⟨dx, t, d, k _ _ a1 (ne_of a1 h1 (by intro z; cases z)), k _ _ a2 (ne_of a2 h1 (by intro z; cases z)), k _ _ a3 fun z => ?_⟩
  rw [z, h1] at a3
  injection a3 with a3
  injection a3 with a3
  unfold crossKV penL at a3
  generalize hk : ks.map _ = m at a3
  cases ks with
  | nil => rw [List.map_nil] at hk; rw [← hk] at a3; cases a3
  | cons c r =>
    rw [List.map_cons] at hk
    rw [← hk] at a3
    injection a3 with a3 _
    injection a3 with a3 _
    exact cells_ne a3.symm
theorem RoomAt.lst {R : Addr} {H H' : Hp} {r x q : Addr} {nm : List Nat} {l : List V} (h : RoomAt R H r x nm) (e0 : H q = some (.lst l)) (k : Keep q H H') : RoomAt R H' r x nm := by
  obtain ⟨dx, e⟩ := h.ex
  exact ⟨dx, k _ _ e (ne_of e e0 (by intro z; cases z))⟩
theorem PlanAt.lst {C : Addr} {H H' : Hp} {x q : Addr} {ks : List Nat} {ps : List (List Nat)} {l : List V} (h : PlanAt C H x ks ps) (e0 : H q = some (.lst l)) (k : Keep q H H') : PlanAt C H' x ks ps := by
  obtain ⟨dx, t, d, a1, a2, a3⟩ := h.ex
  exact ⟨dx, t, d, k _ _ a1 (ne_of a1 e0 (by intro z; cases z)), k _ _ a2 (ne_of a2 e0 (by intro z; cases z)), k _ _ a3 (ne_of a3 e0 (by intro z; cases z))⟩
end
section
open PySem PySem.Spec L2
/-- a room and a text -/
def spRoomEqS (R : Addr) : Sp := fun vs H Q _ => ∃ (r : Addr) (z : Str), vs = [.ref r, .str z] ∧ Q (.bl false) H
section
variable {P : Program} {w : World} {K : PySem.W.Frag} {mg : Str → Option Value} {base : Heap} {C R O : Addr}
abbrev stis_kind : Stmt := (top 18)
abbrev stneed_kind : Stmt := (top 19)
end
end
section
open PySem PySem.Spec L2
inductive WayO where
  | good (way : List Nat)
  | bad (i : Nat)
  | long (n : Nat)
def WayIs (K : PySem.W.Frag) (H : Hp) (ks : List Nat) (v : V) : WayO → Prop
  | .good way => v = .str (tx way) ∧ (∀ c ∈ way, c ∈ ks) ∧ way.length ≤ 2000
  | .bad i => (NoTx K H v ∧ i = 0) ∨ ∃ p c q, v = .str (tx (p ++ c :: q)) ∧ (∀ z ∈ p, z ∈ ks) ∧ ¬ c ∈ ks ∧ i = p.length ∧ (p ++ c :: q).length ≤ 100000
  | .long n => ∃ way, v = .str (tx way) ∧ (∀ c ∈ way, c ∈ ks) ∧ 2000 < way.length ∧ way.length ≤ 100000 ∧ n = way.length
/-- what is let out of a wrong way -/
structure OutW (IW TL : Addr) (E : XK) (H : Hp) (o : WayO) : Prop where
  bad : ∀ i, o = .bad i → ∀ H' d, Same H H' → H' d = some (.xd [("index", .int (i : Nat))]) → E (.ref IW) (some d) H'
  long : ∀ n, o = .long n → ∀ H' d, Same H H' → H' d = some (.xd [("length", .int (n : Nat))]) → E (.ref TL) (some d) H'
theorem OutW.same {IW TL : Addr} {E : XK} {H H1 : Hp} {o : WayO} (h : OutW IW TL E H o) (s : Same H H1) : OutW IW TL E H1 o := ⟨fun i e H' d s' => h.bad i e H' d (s.trans s'), fun i e H' d s' => h.long i e H' d (s.trans s')⟩
def spNeedWayE (K : PySem.W.Frag) (C IW TL : Addr) : Sp := fun vs H Q E => ∃ (x : Addr) (ks : List Nat) (ps : List (List Nat)) (v : V) (o : WayO), vs = [.ref x, v] ∧ PlanAt C H x ks ps ∧ WayIs K H ks v o ∧ OutW IW TL E H o ∧ ∀ way, o = .good way → ∀ H', Same H H' → Q v H'
theorem way_cases {K : PySem.W.Frag} {H : Hp} {ks : List Nat} {v : V} {o : WayO} (hw : WayIs K H ks v o) : (NoTx K H v ∧ o = .bad 0) ∨ ∃ (way : List Nat) (n : Nat), v = .str (tx way) ∧ way.length ≤ 100000 ∧ n ≤ way.length ∧ (∀ j, j < n → ∀ c, way[j]? = some c → c ∈ ks) ∧
    (n = way.length ∧ ((way.length ≤ 2000 ∧ o = .good way) ∨ (2000 < way.length ∧ o = .long way.length)) ∨ n < way.length ∧ (∀ c, way[n]? = some c → ¬ c ∈ ks) ∧ o = .bad n) := by
  rcases o with way | i | n
  · obtain ⟨rfl, hk, hl⟩ := hw
    exact .inr ⟨way, way.length, rfl, by omega, Nat.le_refl _, fun j _ c hc => hk c (List.mem_of_getElem? hc), .inl ⟨rfl, .inl ⟨hl, rfl⟩⟩⟩
  · rcases hw with ⟨nt, rfl⟩ | ⟨p, c, r, rfl, hp, hc, rfl, hl⟩
    · exact .inl ⟨nt, rfl⟩
    · refine .inr ⟨p ++ c :: r, p.length, rfl, hl, by simp, fun j hj z hz => ?_, .inr ⟨by simp, fun z hz => ?_, rfl⟩⟩
      · rw [List.getElem?_append_left hj] at hz
        exact hp z (List.mem_of_getElem? hz)
      · rw [List.getElem?_append_right (Nat.le_refl _), Nat.sub_self] at hz
        cases hz
        exact hc
  · obtain ⟨way, rfl, hk, h2, hl, rfl⟩ := hw
    exact .inr ⟨way, way.length, rfl, hl, Nat.le_refl _, fun j _ c hc => hk c (List.mem_of_getElem? hc), .inl ⟨rfl, .inr ⟨h2, rfl⟩⟩⟩
/-- no kind -/
def NoKind (K : PySem.W.Frag) (H : Hp) (ks : List Nat) (v : V) : Prop := NoTx K H v ∨ ∃ l : List Nat, v = .str (tx l) ∧ (∀ k ∈ ks, l ≠ [k]) ∧ l.length ≤ 100000
def spIsKindE (K : PySem.W.Frag) (C : Addr) : Sp := fun vs H Q _ => ∃ (x : Addr) (ks : List Nat) (ps : List (List Nat)) (v : V), vs = [.ref x, v] ∧ PlanAt C H x ks ps ∧ ((∃ k ∈ ks, v = .str (tx [k]) ∧ Q (.bl true) H) ∨ (NoKind K H ks v ∧ Q (.bl false) H))
def spNeedKindE (K : PySem.W.Frag) (C IK : Addr) : Sp := fun vs H Q E => ∃ (x : Addr) (ks : List Nat) (ps : List (List Nat)) (v : V), vs = [.ref x, v] ∧ PlanAt C H x ks ps ∧
  ((∃ k ∈ ks, v = .str (tx [k]) ∧ Q v H) ∨ (NoKind K H ks v ∧ ∀ H' d, Same H H' → H' d = some (.xd [("value", v)]) → E (.ref IK) (some d) H'))
section
variable {P : Program} {w : World} {K : PySem.W.Frag} {mg : Str → Option Value} {base : Heap} {C R O IW IK TL : Addr}
abbrev stneed_wayE : Stmt := (top 20)
abbrev Nneed_wayE : List Str := ["plan", "way", "index", "letter"]
theorem scneed_wayE : FnScope Nneed_wayE ["plan", "way"] (defScope stneed_wayE) := ⟨rfl, rfl, rfl, by decide +kernel, rfl, by decide +kernel, by decide +kernel⟩

theorem ok_need_wayE (F : FnAt K mg "need_way" stneed_wayE) (T : TxtR K mg C R O) (X_InvalidWay : XDef P w K mg base 1 "InvalidWay" IW 1 (fun ws => [("index", ws.getD 0 .non)])) (X_TooLong : XDef P w K mg base 1 "TooLong" TL 1 (fun ws => [("length", ws.getD 0 .non)])) : Def P w K mg base (L2.CX P w) 3 "need_way" ["plan", "way"] (spNeedWayE K C IW TL) := by
  refine F.okX scneed_wayE (fun _ _ _ _ _ _ us hl => match us, hl with | [_, _], _ => rfl) (fun vs H Q E h => ?_) (fun f cdv A outer s H vs Q E hr h => ?_)
  · obtain ⟨x, ks, ps, v, o, rfl, _⟩ := h
    rfl
  obtain ⟨x, ks, ps, v, o, rfl, h1, hw, ho, q⟩ := h
  have hu := hu_of hr
  have nd := scneed_wayE.nd
  refine ⟨_, (pss_cons (ps_if (pt_not (pt_val (pe_callB (c_isiK (K := K) rfl) (by rfl) T.isinstance (by decide +kernel) (pa_cons (pv 1) (pa_cons (pe_bltn (v := .ty "str") (u := .type "str") (by rfl) T.str (by decide +kernel) rfl) pa_nil)))))
      (pss_one (ps_raise rfl (takes_of rfl rfl rfl rfl) (pmk_E X_InvalidWay hr (pa_cons pe_int pa_nil))))
      pss_nil)
      (pss_cons (ps_for PassesOwn.leaving rfl (pi_enumS (by rfl) T.enumerate (pa_cons (pv 1) pa_nil)) (pg_tup rfl (pgs_cons (pg_name (i := 2) nd rfl (Or.inl rfl)) (pgs_cons (pg_name (i := 3) nd rfl (Or.inl rfl)) pgs_nil)))
      (pss_one (ps_if (pt_cmpR op_notInS (pv 3) (pe_flK (K := K) rfl (pv 0) rfl) (by rfl))
        (pss_one (ps_raise rfl (takes_of rfl rfl rfl rfl) (pmk_E X_InvalidWay hr (pa_cons (pv 2) pa_nil))))
        pss_nil)))
      (pss_cons (ps_if (pt_cmpR op_gt (pe_callB c_lenS (by rfl) T.len PySem.boot_len (pa_cons (pv 1) pa_nil)) (pe_globI T.g_MOST_LETTERS) (nomark _))
      (pss_one (ps_raise rfl (takes_of rfl rfl rfl rfl) (pmk_E X_TooLong hr (pa_cons (pe_callB c_lenS (by rfl) T.len PySem.boot_len (pa_cons (pv 1) pa_nil)) pa_nil))))
      pss_nil)
      (pss_one (ps_ret (pv 1)))))), ?_⟩
  refine s_start [some _, some _, none, none] rfl ?_
  rcases way_cases hw with ⟨nt, rfl⟩ | ⟨way, n, rfl, hl, hn, good, cs⟩
  · walk_at "go"
    refine v_isiN nt ?_
    walk_at "go"
    refine (e_mkE ?_ : tMkO IW (spE IW 1 (fun ws => [("index", ws.getD 0 .non)])) [] (tCons (tC (.int 0)) tNil) _ H fun cls d H' => E cls d H')
    walk_at "go"
    refine v_mkE (n := 1) (ws := [.int 0]) rfl (by decide) fun d hd => ?_
    exact ho.bad 0 rfl _ d (Same.new hd) upd_same
  walk_at "go"
  refine for_it (walk_enumS way) (fun i σ H' => i ≤ n ∧ ∃ y z, σ = [some (.ref x), some (.str (tx way)), y, z] ∧ Same H H') ⟨Nat.zero_le _, _, _, rfl, Same.refl _⟩ (fun _ _ _ _ _ => trivial) ?_ ?_
  · rintro i v σ H2 H3 hi ⟨hin, y, z, rfl, s2⟩ ⟨t, c, rfl, ht, rfl, hc⟩
    have s3 : Same H (upd H2 t (.tup [.int (i : Nat), .str (tx [c])])) := s2.trans (Same.new ht)
    obtain ⟨dx, t', d, a1, a2, a3⟩ := h1.ex
    refine v_gTup2 rfl upd_same ?_
    walk_at "go"
    refine v_fld (s3 _ _ a1) T.Plan.cl T.nK planF_k ?_
    walk_at "go"
    refine if_ndec (fun z => ?_) (fun z => ?_)
    · have hni : n = i := by
        rcases Nat.lt_or_ge i n with w | w
        · exact absurd (good i w c hc) z
        · omega
      subst hni
      have ob : o = .bad n := by
        rcases cs with ⟨e, _⟩ | ⟨_, _, e⟩
        · omega
        · exact e
      refine (e_mkE ?_ : tMkO IW (spE IW 1 (fun ws => [("index", ws.getD 0 .non)])) [] (tCons (tVar 2) tNil) _ _ fun cls d H' => E cls d H')
      walk_at "go"
      refine v_mkE (n := 1) (ws := [.int (n : Nat)]) rfl (by decide) fun d hd => ?_
      exact ho.bad n ob _ d (s3.trans (Same.new hd)) upd_same
    · have hni : i < n := by
        rcases Nat.lt_or_ge i n with w | w
        · exact w
        · have e : n = i := by omega
          subst e
          rcases cs with ⟨e, _⟩ | ⟨_, bad, _⟩
          · omega
          · exact absurd z (bad c hc)
      walk_at "go"
      exact ⟨hni, _, _, rfl, s3⟩
  · rintro σ H2 ⟨hin, y, z, rfl, s2⟩
    have hl2 : way.length ≤ 1000000 := by omega
    have cs2 : (way.length ≤ 2000 ∧ o = .good way) ∨ (2000 < way.length ∧ o = .long way.length) := by
      rcases cs with ⟨_, e⟩ | ⟨w, _⟩
      · exact e
      · omega
    walk_at "go"
    refine if_dec (fun c => ?_) (fun c => ?_)
    · rcases cs2 with ⟨w, _⟩ | ⟨_, ob⟩
      · omega
      refine (e_mkE ?_ : tMkO TL (spE TL 1 (fun ws => [("length", ws.getD 0 .non)])) [] (tCons (tCB rLenS (tCons (tVar 1) tNil)) tNil) _ _ fun cls d H' => E cls d H')
      walk_at "go"
      refine v_mkE (n := 1) (ws := [.int (way.length : Nat)]) rfl (by decide) fun d hd => ?_
      exact ho.long _ ob _ d (s2.trans (Same.new hd)) upd_same
    · rcases cs2 with ⟨_, ob⟩ | ⟨w, _⟩
      · walk_at "go"
        exact q way ob H2 s2
      · omega
abbrev stis_kindE : Stmt := (top 18)
abbrev Nis_kindE : List Str := ["plan", "value"]
theorem scis_kindE : FnScope Nis_kindE ["plan", "value"] (defScope stis_kindE) := ⟨rfl, rfl, rfl, by decide +kernel, rfl, by decide +kernel, by decide +kernel⟩

theorem ok_is_kindE (F : FnAt K mg "is_kind" stis_kindE) (T : TxtP K mg C) : Def P w K mg base CX0 1 "is_kind" ["plan", "value"] (spIsKindE K C) := by
  refine F.ok scis_kindE (fun _ _ _ _ _ _ us hl => match us, hl with | [_, _], _ => rfl) (fun vs H Q E h => ?_) (fun f cdv A outer s H vs Q E hr h => ?_)
  · obtain ⟨x, ks, ps, v, rfl, _⟩ := h
    rfl
  obtain ⟨x, ks, ps, v, rfl, h1, h2⟩ := h
  have hu := hu_of hr
  have nd := scis_kindE.nd
  refine ⟨_, (pss_one (ps_ret (pe_and (pe_callB (c_isiK (K := K) rfl) (by rfl) T.isinstance (by decide +kernel) (pa_cons (pv 1) (pa_cons (pe_bltn (v := .ty "str") (u := .type "str") (by rfl) T.str (by decide +kernel) rfl) pa_nil))) (pe_and (pe_cmpR op_eq (pe_callB c_lenS (by rfl) T.len PySem.boot_len (pa_cons (pv 1) pa_nil)) pe_int (nomark _)) (pe_one (pe_cmpR op_inS (pv 1) (pe_flK (K := K) rfl (pv 0) rfl) (by rfl))))))), ?_⟩
  refine s_start [some _, some _] rfl ?_
  obtain ⟨dx, t, d, a1, a2, a3⟩ := h1.ex
  rcases h2 with ⟨k, hk, rfl, q⟩ | ⟨nt | ⟨l, rfl, hl, ll⟩, q⟩
  · have l1 : [k].length ≤ 1000000 := by simp
    walk_at "go"
    refine if_dec (fun c => ?_) (fun c => (c (by rfl)).elim)
    walk_at "go"
    refine v_fld a1 T.Plan.cl T.nK planF_k ?_
    walk_at "go"
    rw [decide_eq_true hk]
    exact q
  · walk_at "go"
    refine v_isiN nt ?_
    walk_at "go"
    exact q
  · have l1 : l.length ≤ 1000000 := by omega
    walk_at "go"
    refine if_dec (fun c => ?_) (fun c => ?_)
    · obtain ⟨k, rfl⟩ : ∃ k, l = [k] := by
        match l, c with
        | [k], _ => exact ⟨k, rfl⟩
        | [], c => exact absurd c (by decide)
        | a :: b :: r, c => exact absurd (V.int.inj c) (by simp only [List.length_cons]; omega)
      walk_at "go"
      refine v_fld a1 T.Plan.cl T.nK planF_k ?_
      walk_at "go"
      rw [decide_eq_false fun z => hl k z rfl]
      exact q
    · walk_at "go"
      exact q
abbrev stneed_kindE : Stmt := (top 19)
abbrev Nneed_kindE : List Str := ["plan", "value"]
theorem scneed_kindE : FnScope Nneed_kindE ["plan", "value"] (defScope stneed_kindE) := ⟨rfl, rfl, rfl, by decide +kernel, rfl, by decide +kernel, by decide +kernel⟩

theorem ok_need_kindE (F : FnAt K mg "need_kind" stneed_kindE) (D_is_kind : Def P w K mg base CX0 1 "is_kind" ["plan", "value"] (spIsKindE K C)) (X_InvalidKind : XDef P w K mg base 1 "InvalidKind" IK 1 (fun ws => [("value", ws.getD 0 .non)])) : Def P w K mg base (L2.CX P w) 3 "need_kind" ["plan", "value"] (spNeedKindE K C IK) := by
  refine F.okX scneed_kindE (fun _ _ _ _ _ _ us hl => match us, hl with | [_, _], _ => rfl) (fun vs H Q E h => ?_) (fun f cdv A outer s H vs Q E hr h => ?_)
  · obtain ⟨x, ks, ps, v, rfl, _⟩ := h
    rfl
  obtain ⟨x, ks, ps, v, rfl, h1, h2⟩ := h
  have hu := hu_of hr
  have nd := scneed_kindE.nd
  replace D_is_kind := D_is_kind.mono (show 1 ≤ 2 by decide)
  refine ⟨_, (pss_cons (ps_if (pt_not (pt_val (pe_cd D_is_kind hr pass0 (pa_cons (pv 0) (pa_cons (pv 1) pa_nil)))))
      (pss_one (ps_raise rfl (takes_of rfl rfl rfl rfl) (pmk_E X_InvalidKind hr (pa_cons (pv 1) pa_nil))))
      pss_nil)
      (pss_one (ps_ret (pv 1)))), ?_⟩
  refine s_start [some _, some _] rfl ?_
  rcases h2 with ⟨k, hk, rfl, q⟩ | ⟨nk, q⟩
  · walk_at "go"
    refine ⟨x, ks, ps, _, rfl, h1, .inl ⟨k, hk, rfl, ?_⟩⟩
    walk_at "go"
    exact q
  · walk_at "go"
    refine ⟨x, ks, ps, v, rfl, h1, .inr ⟨nk, ?_⟩⟩
    walk_at "go"
    refine (e_mkE ?_ : tMkO IK (spE IK 1 (fun ws => [("value", ws.getD 0 .non)])) [] (tCons (tVar 1) tNil) _ H fun cls d H' => E cls d H')
    walk_at "go"
    refine v_mkE (n := 1) (ws := [v]) rfl (by decide) fun d hd => ?_
    exact q _ d (Same.new hd) upd_same
end
end
section
open PySem PySem.Spec L2
/-- a value as a way, whatever is made meanwhile -/
def WaySt (K : PySem.W.Frag) (H : Hp) (ks : List Nat) (v : V) (o : WayO) : Prop := ∀ H', LamX.ExtN H H' → WayIs K H' ks v o
theorem WaySt.same {K : PySem.W.Frag} {H H1 : Hp} {ks : List Nat} {v : V} {o : WayO} (h : WaySt K H ks v o) (s : Same H H1) : WaySt K H1 ks v o := fun H' s' => h H' ((ext_of s).trans s')
def spRoom0E (K : PySem.W.Frag) (C R IW TL : Addr) : Sp := fun vs H Q E => ∃ (r dx x : Addr) (ks : List Nat) (ps : List (List Nat)) (v : V) (o : WayO) (H0 : Hp), vs = [.ref r, .ref x, v] ∧ H r = some (.ins R dx []) ∧ H0 r = none ∧ Same H0 H ∧ PlanAt C H0 x ks ps ∧ WaySt K H0 ks v o ∧ OutW IW TL E H0 o ∧
  ∀ way, o = .good way → ∀ H', Same H0 H' → RoomAt R H' r x (joinOf ks ps [] way) → Q .non H'
def spRoomE (K : PySem.W.Frag) (C R IW TL : Addr) : Sp := fun vs H Q E => ∃ (x : Addr) (ks : List Nat) (ps : List (List Nat)) (v : V) (o : WayO), vs = [.ref x, v] ∧ PlanAt C H x ks ps ∧ WaySt K H ks v o ∧ OutW IW TL E H o ∧
  ∀ way, o = .good way → ∀ r H', H r = none → Same H H' → RoomAt R H' r x (joinOf ks ps [] way) → Q (.ref r) H'
theorem conv_roomE (K : PySem.W.Frag) (C R IW TL : Addr) : Conv R (spRoom0E K C R IW TL) (spRoomE K C R IW TL) := by
  rintro vs H Q E ⟨x, ks, ps, v, o, rfl, hp, hw, ho, k⟩ r dx hx hdx hne
  refine ⟨r, dx, x, ks, ps, v, o, H, rfl, upd_same, hx, fun b u hb => ?_, hp, hw, ho, fun way e H' s' a => ⟨rfl, k way e r H' hx s' a⟩⟩
  rw [upd_ne (ne_of_none hb hx), upd_ne (ne_of_none hb hdx)]
  exact hb
def spAddE (K : PySem.W.Frag) (C R IW TL : Addr) : Sp := fun vs H Q E => ∃ (r x : Addr) (ks : List Nat) (ps : List (List Nat)) (name : List Nat) (v : V) (o : WayO), vs = [.ref r, v] ∧ RoomAt R H r x name ∧ PlanAt C H x ks ps ∧ (∀ c ∈ name, c ∈ ks) ∧ name.length ≤ 2000 ∧ WaySt K H ks v o ∧ OutW IW TL E H o ∧
  ∀ way, o = .good way → ((joinOf ks ps name way).length ≤ 2000 → ∀ r' H', H r' = none → Same H H' → RoomAt R H' r' x (joinOf ks ps [] (joinOf ks ps name way)) → Q (.ref r') H') ∧
    (2000 < (joinOf ks ps name way).length → ∀ H' d, Same H H' → H' d = some (.xd [("length", .int ((joinOf ks ps name way).length : Nat))]) → E (.ref TL) (some d) H')
def spGetE (K : PySem.W.Frag) (C R IK TL : Addr) : Sp := fun vs H Q E => ∃ (r x : Addr) (ks : List Nat) (ps : List (List Nat)) (name : List Nat) (v : V), vs = [.ref r, v] ∧ RoomAt R H r x name ∧ PlanAt C H x ks ps ∧ (∀ c ∈ name, c ∈ ks) ∧ name.length ≤ 2000 ∧
  ((∃ k ∈ ks, v = .str (tx [k]) ∧ ((stepOf (crossOf ks ps k) name k).length ≤ 2000 → ∀ r' H', H r' = none → Same H H' → RoomAt R H' r' x (joinOf ks ps [] (stepOf (crossOf ks ps k) name k)) → Q (.ref r') H') ∧
      (2000 < (stepOf (crossOf ks ps k) name k).length → ∀ H' d, Same H H' → H' d = some (.xd [("length", .int ((stepOf (crossOf ks ps k) name k).length : Nat))]) → E (.ref TL) (some d) H')) ∨
    (NoKind K H ks v ∧ ∀ H' d, Same H H' → H' d = some (.xd [("value", v)]) → E (.ref IK) (some d) H'))
section
variable {P : Program} {w : World} {K : PySem.W.Frag} {mg : Str → Option Value} {base : Heap} {C R O IW IK TL : Addr}
abbrev stRoom_initE : Stmt := (inClass (top 23) 0)
abbrev NRoom_initE : List Str := ["self", "plan", "way"]
theorem scRoom_initE : FnScope NRoom_initE ["self", "plan", "way"] (defScope stRoom_initE) := ⟨rfl, rfl, rfl, by decide +kernel, rfl, by decide +kernel, by decide +kernel⟩

theorem ok_RoomE {dvs : List V} (F : MAtD K R "__init__" "Room.__init__" stRoom_initE dvs) (hd : dvs.length = 1) (T : TxtR K mg C R O) (D_need_way : Def P w K mg base (L2.CX P w) 3 "need_way" ["plan", "way"] (spNeedWayE K C IW TL)) (D_joined : Def P w K mg base CX0 2 "joined" ["plan", "name", "way"] (spJoined C)) :
    CMk P w K mg base (L2.CX P w) 4 "Room" R (spRoomE K C R IW TL) ["self", "plan", "way"] "Room.__init__" stRoom_initE dvs := by
  refine F.makeX (sp0 := spRoom0E K C R IW TL) T.Room scRoom_initE (by intro z; rw [z] at hd; cases hd) (fun T kV doc pm an cdv ct us its l1 l2 => ?_) (fun vs H Q E h => ?_) (conv_roomE K C R IW TL) (fun f cdv A outer s H vs Q E hr h => ?_)
  · rw [hd] at l2 ⊢
    match us, l1, its, l2 with
    | [_, _, _], _, [_], _ => exact ⟨_, rfl, rfl⟩
  · obtain ⟨r, dx, x, ks, ps, v, o, H0, rfl, _⟩ := h
    rfl
  obtain ⟨r, dx, x, ks, ps, v, o, H0, rfl, hx, h0r, s0, hp, hw, ho, k⟩ := h
  have hu := hu_of hr
  have nd := scRoom_initE.nd
  replace D_joined := D_joined.mono (show 2 ≤ 3 by decide)
  refine ⟨_, (pss_cons (ps_flK (K := K) rfl (pv 0) (pv 1) rfl)
      (pss_one (ps_flK (K := K) rfl (pv 0) (pe_cd D_joined hr pass0 (pa_cons (pv 1) (pa_cons (pe_tx [] (by decide +kernel)) (pa_cons (pe_cd D_need_way hr (passes_call (takes_of rfl rfl rfl rfl) (fun _ _ _ _ h => h)) (pa_cons (pv 1) (pa_cons (pv 2) pa_nil))) pa_nil)))) rfl))), ?_⟩
  refine s_start [some _, some _, some _] rfl ?_
  walk_at "go"
  refine v_sfld hx T.Room.cl T.nPl (by decide) fun H1 s1 e1 => ?_
  have s01 : Same H0 H1 := fun b u hb => s1 _ _ (s0 _ _ hb) (ne_of_none hb h0r)
  walk_at "go"
  refine ⟨x, ks, ps, v, o, rfl, hp.same s01, hw H1 (ext_of s01), ho.same s01, fun way eo H2 s2 => ?_⟩
  have hg := hw H1 (ext_of s01)
  rw [eo] at hg
  obtain ⟨rfl, h1, h2⟩ := hg
  walk_at "go"
  refine ⟨x, ks, ps, [], way, rfl, (hp.same s01).same s2, h1, by rw [List.length_nil]; omega, ?_⟩
  walk_at "go"
  refine v_sfld (s2 _ _ e1) T.Room.cl T.nNm (by show 1 < 1000; decide) fun H3 s3 e3 => ?_
  exact k way eo H3 (fun b u hb => s3 _ _ (s2 _ _ (s01 _ _ hb)) (ne_of_none hb h0r)) ⟨dx, e3⟩
abbrev stRoom_addE : Stmt := (inClass (top 23) 4)
abbrev NRoom_addE : List Str := ["self", "way"]
theorem scRoom_addE : FnScope NRoom_addE ["self", "way"] (defScope stRoom_addE) := ⟨rfl, rfl, rfl, by decide +kernel, rfl, by decide +kernel, by decide +kernel⟩

theorem ok_Room_addE (F : MAt K R "__add__" "Room.__add__" stRoom_addE) (T : TxtR K mg C R O) (D_need_way : Def P w K mg base (L2.CX P w) 3 "need_way" ["plan", "way"] (spNeedWayE K C IW TL)) (D_joined : Def P w K mg base CX0 2 "joined" ["plan", "name", "way"] (spJoined C)) (C_Room : CDef P w K mg base (L2.CX P w) 4 "Room" R (spRoomE K C R IW TL)) : MDef P w K mg base (L2.CX P w) 6 R "__add__" ["self", "way"] (spAddE K C R IW TL) := by
  refine F.okX scRoom_addE (fun _ _ _ _ _ _ us hl => match us, hl with | [_, _], _ => rfl) (fun vs H Q E h => ?_) (fun f cdv A outer s H vs Q E hr h => ?_)
  · obtain ⟨r, x, ks, ps, name, v, o, rfl, _⟩ := h
    rfl
  obtain ⟨r, x, ks, ps, name, v, o, rfl, h1, h2, hn, l1, hw, ho, q⟩ := h
  have hu := hu_of hr
  have nd := scRoom_addE.nd
  replace D_need_way := D_need_way.mono (show 3 ≤ 5 by decide)
  replace D_joined := D_joined.mono (show 2 ≤ 5 by decide)
  refine ⟨_, (pss_one (ps_ret (pe_mk C_Room hr (passes_call (takes_of rfl rfl rfl rfl) (fun _ _ _ _ h => h)) (pa_cons (pe_flK (K := K) rfl (pv 0) rfl) (pa_cons (pe_cd D_joined hr pass0 (pa_cons (pe_flK (K := K) rfl (pv 0) rfl) (pa_cons (pe_flK (K := K) rfl (pv 0) rfl) (pa_cons (pe_cd D_need_way hr (passes_call (takes_of rfl rfl rfl rfl) (fun _ _ _ _ h => h)) (pa_cons (pe_flK (K := K) rfl (pv 0) rfl) (pa_cons (pv 1) pa_nil))) pa_nil)))) pa_nil))))), ?_⟩
  refine s_start [some _, some _] rfl ?_
  obtain ⟨dr, a1⟩ := h1.ex
  walk_at "go"
  refine v_fld a1 T.Room.cl T.nPl roomF_p ?_
  walk_at "go"
  refine v_fld a1 T.Room.cl T.nPl roomF_p ?_
  walk_at "go"
  refine v_fld a1 T.Room.cl T.nNm roomF_n ?_
  walk_at "go"
  refine v_fld a1 T.Room.cl T.nPl roomF_p ?_
  walk_at "go"
  refine ⟨x, ks, ps, v, o, rfl, h2, hw H (LamX.ExtN.refl _), ho, fun way eo H1 s1 => ?_⟩
  have hg := hw H1 (ext_of s1)
  rw [eo] at hg
  obtain ⟨rfl, hk, l2⟩ := hg
  obtain ⟨q1, q2⟩ := q way eo
  walk_at "go"
  refine ⟨x, ks, ps, name, way, rfl, h2.same s1, hk, by omega, ?_⟩
  walk_at "go"
  have jm : ∀ c ∈ joinOf ks ps name way, c ∈ ks := fun c hc => (joinOf_mem hc).elim (hn c) (hk c)
  have jl := joinOf_len ks ps way name
  by_cases c : (joinOf ks ps name way).length ≤ 2000
  · refine ⟨x, ks, ps, _, .good (joinOf ks ps name way), rfl, h2.same s1, fun H2 _ => ⟨rfl, jm, c⟩, ⟨fun i e => (nomatch e), fun i e => (nomatch e)⟩, fun way' e r' H' a b d => ?_⟩
    cases e
    exact q1 c r' H' (L2.Same.free s1 a) (s1.trans b) d
  · refine ⟨x, ks, ps, _, .long (joinOf ks ps name way).length, rfl, h2.same s1, fun H2 _ => ⟨_, rfl, jm, by omega, by omega, rfl⟩, ⟨fun i e => (nomatch e), fun i e H' d s' ed => ?_⟩, fun way' e => (nomatch e)⟩
    cases e
    exact q2 (by omega) H' d (s1.trans s') ed
abbrev stRoom_getE : Stmt := (inClass (top 23) 2)
abbrev NRoom_getE : List Str := ["self", "kind"]
theorem scRoom_getE : FnScope NRoom_getE ["self", "kind"] (defScope stRoom_getE) := ⟨rfl, rfl, rfl, by decide +kernel, rfl, by decide +kernel, by decide +kernel⟩

theorem ok_Room_getE (F : MAt K R "__getitem__" "Room.__getitem__" stRoom_getE) (T : TxtR K mg C R O) (D_need_kind : Def P w K mg base (L2.CX P w) 3 "need_kind" ["plan", "value"] (spNeedKindE K C IK)) (D_stepped : Def P w K mg base CX0 1 "stepped" ["plan", "name", "kind"] (spStepped C)) (C_Room : CDef P w K mg base (L2.CX P w) 4 "Room" R (spRoomE K C R IW TL)) : MDef P w K mg base (L2.CX P w) 6 R "__getitem__" ["self", "kind"] (spGetE K C R IK TL) := by
  refine F.okX scRoom_getE (fun _ _ _ _ _ _ us hl => match us, hl with | [_, _], _ => rfl) (fun vs H Q E h => ?_) (fun f cdv A outer s H vs Q E hr h => ?_)
  · obtain ⟨r, x, ks, ps, name, v, rfl, _⟩ := h
    rfl
  obtain ⟨r, x, ks, ps, name, v, rfl, h1, h2, hn, l1, h3⟩ := h
  have hu := hu_of hr
  have nd := scRoom_getE.nd
  replace D_need_kind := D_need_kind.mono (show 3 ≤ 5 by decide)
  replace D_stepped := D_stepped.mono (show 1 ≤ 5 by decide)
  refine ⟨_, (pss_one (ps_ret (pe_mk C_Room hr (passes_call (takes_of rfl rfl rfl rfl) (fun _ _ _ _ h => h)) (pa_cons (pe_flK (K := K) rfl (pv 0) rfl) (pa_cons (pe_cd D_stepped hr pass0 (pa_cons (pe_flK (K := K) rfl (pv 0) rfl) (pa_cons (pe_flK (K := K) rfl (pv 0) rfl) (pa_cons (pe_cd D_need_kind hr (passes_call (takes_of rfl rfl rfl rfl) (fun _ _ _ _ h => h)) (pa_cons (pe_flK (K := K) rfl (pv 0) rfl) (pa_cons (pv 1) pa_nil))) pa_nil)))) pa_nil))))), ?_⟩
  refine s_start [some _, some _] rfl ?_
  obtain ⟨dr, a1⟩ := h1.ex
  walk_at "go"
  refine v_fld a1 T.Room.cl T.nPl roomF_p ?_
  walk_at "go"
  refine v_fld a1 T.Room.cl T.nPl roomF_p ?_
  walk_at "go"
  refine v_fld a1 T.Room.cl T.nNm roomF_n ?_
  walk_at "go"
  refine v_fld a1 T.Room.cl T.nPl roomF_p ?_
  walk_at "go"
  rcases h3 with ⟨k, hk, rfl, q1, q2⟩ | ⟨nk, q⟩
  · refine ⟨x, ks, ps, _, rfl, h2, .inl ⟨k, hk, rfl, ?_⟩⟩
    walk_at "go"
    refine ⟨x, ks, ps, name, k, rfl, h2, hk, by omega, ?_⟩
    walk_at "go"
    have sl := stepOf_len (crossOf ks ps k) name k
    have sm : ∀ c ∈ stepOf (crossOf ks ps k) name k, c ∈ ks := fun c hc => by
      rcases stepOf_mem hc with e | e
      · rw [e]
        exact hk
      · exact hn c e
    by_cases c : (stepOf (crossOf ks ps k) name k).length ≤ 2000
    · refine ⟨x, ks, ps, _, .good (stepOf (crossOf ks ps k) name k), rfl, h2, fun H2 _ => ⟨rfl, sm, c⟩, ⟨fun i e => (nomatch e), fun i e => (nomatch e)⟩, fun way' e r' H' a b d => ?_⟩
      cases e
      exact q1 c r' H' a b d
    · refine ⟨x, ks, ps, _, .long (stepOf (crossOf ks ps k) name k).length, rfl, h2, fun H2 _ => ⟨_, rfl, sm, by omega, by omega, rfl⟩, ⟨fun i e => (nomatch e), fun i e H' d s' ed => ?_⟩, fun way' e => (nomatch e)⟩
      cases e
      exact q2 (by omega) H' d s' ed
  · exact ⟨x, ks, ps, v, rfl, h2, .inr ⟨nk, q⟩⟩
end
end
local macro_rules | `(tactic| walk_at "ro") => `(tactic| first | assumption | ((apply RoomAt.go (by assumption)); walk_at "ro"))
local macro_rules | `(tactic| walk_at "pl") => `(tactic| first | assumption | ((apply PlanAt.go (by assumption)); walk_at "pl"))
local macro_rules | `(tactic| walk_at "st2") => `(tactic| first
  | (walk_at "st")
  | ((with_reducible refine v_rnameG ?_); refine ⟨_, _, _, (by walk_at "ro"), (by assumption), (by assumption), ?_⟩)
  | ((with_reducible refine v_rplanG ?_); refine ⟨_, _, _, (by walk_at "ro"), (by assumption), (by assumption), ?_⟩)
  | ((with_reducible refine v_rlenG ?_); refine ⟨_, _, (by walk_at "ro"), (by omega), ?_⟩)
  | ((with_reducible refine v_reqG ?_); refine ⟨_, _, _, _, _, (by walk_at "ro"), (by walk_at "ro"), (by walk_at "pl"), (by assumption), (by omega), (by omega), ?_⟩)
  | ((with_reducible refine v_rneG ?_); refine ⟨_, _, _, _, _, (by walk_at "ro"), (by walk_at "ro"), (by walk_at "pl"), (by assumption), (by omega), (by omega), ?_⟩)
  | ((with_reducible refine v_reqTG ?_); refine ⟨_, _, (by walk_at "ro"), ?_⟩)
  | ((with_reducible refine v_peqG ?_); refine ⟨_, _, (by walk_at "pl"), (by assumption), ?_⟩)
  | (with_reducible refine if_nI rfl ?_)
  | (with_reducible refine if_I rfl ?_)
  | ((with_reducible refine v_mdRG ?_); refine ⟨_, _, (by walk_at "ro"), (by decide +kernel), ?_⟩)
  | (with_reducible refine s_asgL ?_) | (with_reducible refine e_MN ?_)
  | (with_reducible refine e_CN ?_) | (refine ⟨rfl, rfl, ?_⟩))
local macro_rules | `(tactic| walk_at "go2") => `(tactic| repeat walk_at "st2")
section
open PySem PySem.Spec L2
/-- what the top has left of the three errors -/
structure Txt3 (P : Program) (K : PySem.W.Frag) (mg : Str → Option Value) (C R O IW IK TL G : Addr) (st1 st2 st3 : Stmt) : Prop extends TxtR K mg C R O where
  eW : ExcE P K mg "InvalidWay" IW "InvalidWay.__init__" st1
  eK : ExcE P K mg "InvalidKind" IK "InvalidKind.__init__" st2
  eL : ExcE P K mg "TooLong" TL "TooLong.__init__" st3
  IW_index : PySem.W.findIn K (.ref IW) "index" = some none
  IK_value : PySem.W.findIn K (.ref IK) "value" = some none
  TL_length : PySem.W.findIn K (.ref TL) "length" = some none
  FloorError : mg "FloorError" = some (.ref G)
  sW : PySem.W.kitOne K (.ref IW) (.ref G) = some true
  sK : PySem.W.kitOne K (.ref IK) (.ref G) = some true
  sL : PySem.W.kitOne K (.ref TL) (.ref G) = some true
  ww : PySem.W.exmOne K (.ref IW) (.ref IW) = some true
  kw : PySem.W.exmOne K (.ref IK) (.ref IW) = some false
  kk : PySem.W.exmOne K (.ref IK) (.ref IK) = some true
  lw : PySem.W.exmOne K (.ref TL) (.ref IW) = some false
  lk : PySem.W.exmOne K (.ref TL) (.ref IK) = some false
  ll : PySem.W.exmOne K (.ref TL) (.ref TL) = some true
/-- what is told of an error -/
def toldOf (IW IK TL : Addr) (Q : VK) (cls : Value) (d : Option Addr) (H : Hp) : Prop := ∃ (dd : Addr), d = some dd ∧
  ((cls = .ref IW ∧ ∃ v, H dd = some (.xd [("index", v)]) ∧ ∀ t H', Same H H' → H' t = some (.tup [.str (tx [119, 97, 121]), v, .bl true]) → Q (.ref t) H') ∨
   (cls = .ref IK ∧ ∃ v, H dd = some (.xd [("value", v)]) ∧ ∀ t H', Same H H' → H' t = some (.tup [.str (tx [107, 105, 110, 100]), v, .bl true]) → Q (.ref t) H') ∨
   (cls = .ref TL ∧ ∃ v, H dd = some (.xd [("length", v)]) ∧ ∀ t H', Same H H' → H' t = some (.tup [.str (tx [108, 111, 110, 103]), v, .bl true]) → Q (.ref t) H'))
def TT3 (R IW IK TL : Addr) : (XK → Hp → VK → Prop) → Hp → VK → Prop := fun tl H Q =>
  tl (toldOf IW IK TL Q) H fun v H' => rLenM R (spRoomLen R) E0 [v] H' Q
theorem two_of {α : Type} {l : List α} (h : l.length = 2) : ∃ a b, l = [a, b] := by
  match l, h with
  | [a, b], _ => exact ⟨a, b, rfl⟩
theorem e_xf2 {σ : L2.St} {H : Hp} {Q : VK} {a C : Addr} {cls : Value} {d : Option Addr} {f : Str} {te : TE} (q : te σ H fun x H1 => x = .ref a ∧ cls = .ref C ∧ ∃ (dd : Addr) (fs : List (Str × V)) (v : V), d = some dd ∧ H1 dd = some (.xd fs) ∧ fs.lookup f = some v ∧ Q v H1) : tXf a cls d C f te σ H Q := q
section
variable {X : Cx} {C R O IW IK TL G : Addr} {st1 st2 st3 : Stmt}
abbrev sttold : Stmt := (top 40)
abbrev Ntold : List Str := ["_law_deed", "e"]
theorem sctold : FnScope Ntold ["_law_deed"] (defScope sttold) := ⟨rfl, rfl, rfl, by decide +kernel, rfl, by decide +kernel, by decide +kernel⟩

theorem told_gives3 (T : Txt3 X.prog X.K X.mg C R O IW IK TL G st1 st2 st3) (M_Room_len : MDef X.prog X.w X.K X.mg X.base CX0 1 R "__len__" ["self"] (spRoomLen R)) {g : Addr} {cdg : Value} {q : Str} {k : Nat} (hk : 2 ≤ k) (hr : ∀ s : Shared, Room k (X.A.deeper (PyProof.Rows.envOfC "_law_told" (defScope sttold) s.heap.objs.size g cdg))) :
    LamX.GivesTo X Ntold "_law_told" (defScope sttold) g cdg (defBody sttold) "_law_deed" q (TT3 R IW IK TL) := by
  intro f c' s H Q tl act hc h
  have nd := sctold.nd
  have hr := hr s
  replace M_Room_len := M_Room_len.mono (show 1 ≤ k - 1 by omega)
  have hr : Room (k - 1 + 1) (X.A.deeper (PyProof.Rows.envOfC "_law_told" (defScope sttold) s.heap.objs.size g cdg)) := by
    rw [show k - 1 + 1 = k by omega]
    exact hr
  refine ⟨_, pss_one (ps_try_manyA (X := (cxOf CX0 X.prog X.w X.K X.mg X.base Ntold "_law_told" (defScope sttold) g cdg X.A X.stack s H E0).nox) (n := "e") (i := 1)
      (tb := fun W D σ H => ∃ Ech : XK, (∀ cls d σ' H', Ech cls d H' → W cls d σ' H') ∧ σ[0]? = some (some (.ref f)) ∧ H c' = some (LamX.CodeO c' q) ∧ tl Ech H (fun v H' => rLenM R (spRoomLen R) E0 [v] H' D.rt))
      rfl rfl nd rfl rfl LamX.takes0 (fun W pn xe tk _ => ?_)
      (.cons (c := .ref IW) ⟨rfl, by decide, .inl T.eW.at⟩ (fun a oe cls d pn hz hf => pss_given (q := cls = .ref IW) fun hq => pss_one (ps_ret (pe_tup (pa_cons (pe_tx [119, 97, 121] (by decide +kernel)) (pa_cons (pe_xf T.eW.xf T.IW_index hz hf (pv 1)) (pa_cons (pe_callB (call_isEd T.eW.ec hq hz hf) (by rfl) T.isinstance (by decide +kernel) (pa_cons (pv 1) (pa_cons (pe_globC T.FloorError) pa_nil))) pa_nil))))))
      (.cons (c := .ref IK) ⟨rfl, by decide, .inl T.eK.at⟩ (fun a oe cls d pn hz hf => pss_given (q := cls = .ref IK) fun hq => pss_one (ps_ret (pe_tup (pa_cons (pe_tx [107, 105, 110, 100] (by decide +kernel)) (pa_cons (pe_xf T.eK.xf T.IK_value hz hf (pv 1)) (pa_cons (pe_callB (call_isEd T.eK.ec hq hz hf) (by rfl) T.isinstance (by decide +kernel) (pa_cons (pv 1) (pa_cons (pe_globC T.FloorError) pa_nil))) pa_nil))))))
      (.cons (c := .ref TL) ⟨rfl, by decide, .inl T.eL.at⟩ (fun a oe cls d pn hz hf => pss_given (q := cls = .ref TL) fun hq => pss_one (ps_ret (pe_tup (pa_cons (pe_tx [108, 111, 110, 103] (by decide +kernel)) (pa_cons (pe_xf T.eL.xf T.TL_length hz hf (pv 1)) (pa_cons (pe_callB (call_isEd T.eL.ec hq hz hf) (by rfl) T.isinstance (by decide +kernel) (pa_cons (pv 1) (pa_cons (pe_globC T.FloorError) pa_nil))) pa_nil)))))) .nil)))), ?_⟩
  · refine ⟨fun pins s' σ H' D I h' => ?_⟩
    obtain ⟨Ech, hW, h1, h2, h3⟩ := h'
    exact (pss_one (ps_ret (pe_callB (X := (cxOf CX0 X.prog X.w X.K X.mg X.base Ntold "_law_told" (defScope sttold) g cdg X.A X.stack s H E0).tr pn xe) (c_lenM M_Room_len hr pass0) (by rfl) T.len PySem.boot_len (pa_cons (act W pn xe Ech _ _ tk hW) pa_nil)))).run pins s' σ H' D I ⟨h1, h2, h3⟩
  · refine ⟨toldOf IW IK TL Q, fun cls d σ' H' ht => ?_, rfl, hc, ?_⟩
    · obtain ⟨dd, rfl, ⟨rfl, v, ed, k1⟩ | ⟨rfl, v, ed, k1⟩ | ⟨rfl, v, ed, k1⟩⟩ := ht
      · refine ⟨true, T.ww, fun _ a ha hl => ⟨rfl, ?_⟩, fun z => nomatch z⟩
        obtain ⟨y0, y1, rfl⟩ := two_of hl
        walk_at "go"
        refine e_xf2 ?_
        walk_at "go"
        refine ⟨rfl, rfl, dd, _, v, rfl, ed, rfl, ?_⟩
        walk_at "go"
        refine ⟨dd, _, .ref G, .ref G, true, rfl, ed, rfl, fun u z => z, T.sW, ?_⟩
        walk_at "go"
        intro t H2 ht s2 e2
        exact k1 t H2 s2 e2
      · refine ⟨false, T.kw, (fun z => nomatch z), fun _ => ⟨true, T.kk, fun _ a ha hl => ⟨rfl, ?_⟩, fun z => nomatch z⟩⟩
        obtain ⟨y0, y1, rfl⟩ := two_of hl
        walk_at "go"
        refine e_xf2 ?_
        walk_at "go"
        refine ⟨rfl, rfl, dd, _, v, rfl, ed, rfl, ?_⟩
        walk_at "go"
        refine ⟨dd, _, .ref G, .ref G, true, rfl, ed, rfl, fun u z => z, T.sK, ?_⟩
        walk_at "go"
        intro t H2 ht s2 e2
        exact k1 t H2 s2 e2
      · refine ⟨false, T.lw, (fun z => nomatch z), fun _ => ⟨false, T.lk, (fun z => nomatch z), fun _ => ⟨true, T.ll, fun _ a ha hl => ⟨rfl, ?_⟩, fun z => nomatch z⟩⟩⟩
        obtain ⟨y0, y1, rfl⟩ := two_of hl
        walk_at "go"
        refine e_xf2 ?_
        walk_at "go"
        refine ⟨rfl, rfl, dd, _, v, rfl, ed, rfl, ?_⟩
        walk_at "go"
        refine ⟨dd, _, .ref G, .ref G, true, rfl, ed, rfl, fun u z => z, T.sL, ?_⟩
        walk_at "go"
        intro t H2 ht s2 e2
        exact k1 t H2 s2 e2
    · exact h
end
end
section
open PySem PySem.Spec L2
section
variable {X : Cx} {C R O IW IK TL G : Addr} {st1 st2 st3 : Stmt}
/-- _law_told(lambda: body) -/
theorem pe_told (F : FnAt X.K X.mg "_law_told" sttold) (T : Txt3 X.prog X.K X.mg C R O IW IK TL G st1 st2 st3) (M_Room_len : MDef X.prog X.w X.K X.mg X.base CX0 1 R "__len__" ["self"] (spRoomLen R)) {Ts : List (Addr × Str)} {c Pt : Addr} {k : Nat} {t : XK → TE} {params : Arguments} {body : Expr} {scope : Scope} {p lpos pos : PySem.Pos}
    (TB : LamX.TabB X.base X.mg c Pt) (hmT : (Pt, X.env.qual ++ "<lambda>") ∈ Ts) (hu : ∀ p ∈ Ts, p.1 = Pt → p.2 = X.env.qual ++ "<lambda>") (hr : Room (k + 2) X.A) (hk : 2 ≤ k) (L : LamX.LamS X.env.scope scope)
    (hbody : ∀ (A : Around) (outer : List Env) (s : Shared) (H : Hp) (E : XK) (f c' : Addr), Room k (A.deeper (LamX.lamEnv X scope s.heap.objs.size f c')) → PE (LamX.lamCx X A outer s H E scope f c') body (t E))
    (hg : Gl X "_law_told" := by rfl) (hcode : X.env.code = .ref c := by rfl) (hdef : defaultsOf params X.env = ([], []) := by rfl)
    (hbind : ∀ (q : Str) (cl : List (Str × Addr)) (pm cv ctv : Value), bindArgs (PySem.W.kla_fn "<lambda>" q params body scope cl pm cv ctv) ⟨[], []⟩ = pure [] := by intro _ _ _ _ _; rfl) :
    PE X (.Call (.Name "_law_told" p) [.Lambda params body scope lpos] [] pos) (LamX.tLam Ts (TT3 R IW IK TL) t) := by
  obtain ⟨g, fd, hm, G⟩ := F.ex
  have hb : Binds X.K fd ["_law_deed"] [] := G.binds fun _ _ _ _ _ _ us hl => match us, hl with | [_], _ => rfl
  obtain ⟨oc, od, kV, doc, pm, an, cdv, ct, osl, rfl, lk, hcd⟩ := G.ex
  exact LamX.pe_lamcall hg hm G.kp lk hcd hb sctold rfl (Or.inl rfl) (told_gives3 T M_Room_len (k := k + 1) (by omega) fun s => hr.deeper _) TB hcode hmT hu hr L hdef hbind hbody
end
theorem RoomAt.ext {R : Addr} {H H' : Hp} {r x : Addr} {name : List Nat} (h : RoomAt R H r x name) (e : LamX.ExtN H H') : RoomAt R H' r x name := by
  obtain ⟨dx, a⟩ := h.ex
  exact ⟨dx, e _ _ a fun ps z => nomatch z⟩
theorem PlanAt.ext {C : Addr} {H H' : Hp} {x : Addr} {ks : List Nat} {ps : List (List Nat)} (h : PlanAt C H x ks ps) (e : LamX.ExtN H H') : PlanAt C H' x ks ps := by
  obtain ⟨dx, t, d, a, b, c⟩ := h.ex
  exact ⟨dx, t, d, e _ _ a (fun ps z => nomatch z), e _ _ b (fun ps z => nomatch z), e _ _ c (fun ps z => nomatch z)⟩
theorem PenAt.ext {g : Pen} {H H' : Hp} {n : Nat} (h : PenAt g H n) (e : LamX.ExtN H H') : PenAt g H' n := by
  obtain ⟨a, r, h1, h2, h3, h4, h5, h6⟩ := h.ex
  exact ⟨a, r, e _ _ h1 (fun ps z => nomatch z), e _ _ h2 (fun ps z => nomatch z), h3, h4, h5, h6⟩
theorem WaySt.ext {K : PySem.W.Frag} {H H1 : Hp} {ks : List Nat} {v : V} {o : WayO} (h : WaySt K H ks v o) (s : LamX.ExtN H H1) : WaySt K H1 ks v o := fun H' s' => h H' (s.trans s')
/-- what stands right of + -/
def RightSt (K : PySem.W.Frag) (R : Addr) (H : Hp) (v : V) : Prop := ∀ H', LamX.ExtN H H' → (∃ z, v = .str z) ∨ (∃ b dx fs, v = .ref b ∧ H' b = some (.ins R dx fs)) ∨ ∃ tb, TyX K H' v tb ∧ RightT K R tb
theorem RightSt.ext {K : PySem.W.Frag} {R : Addr} {H H1 : Hp} {v : V} (h : RightSt K R H v) (s : LamX.ExtN H H1) : RightSt K R H1 v := fun H' s' => h H' (s.trans s')
/-- what is due of a wrong way -/
def DueAt (H : Hp) (due : Addr) (o : WayO) : Prop := (∃ i : Nat, o = .bad i ∧ H due = some (.tup [.str (tx [119, 97, 121]), .int i, .bl true])) ∨ ∃ n : Nat, o = .long n ∧ H due = some (.tup [.str (tx [108, 111, 110, 103]), .int n, .bl true])
theorem DueAt.ext {H H1 : Hp} {due : Addr} {o : WayO} (h : DueAt H due o) (s : LamX.ExtN H H1) : DueAt H1 due o := by
  rcases h with ⟨i, e, h⟩ | ⟨n, e, h⟩
  · exact .inl ⟨i, e, s _ _ h fun ps z => nomatch z⟩
  · exact .inr ⟨n, e, s _ _ h fun ps z => nomatch z⟩
theorem pl3 {a : Str} {i : Int} {b : Bool} : ∀ v ∈ [V.str a, V.int i, V.bl b], Plainly v := by
  intro v hv
  simp only [List.mem_cons, List.not_mem_nil, or_false] at hv
  rcases hv with rfl | rfl | rfl <;> exact .inl rfl
/-- the refusal is told as it is due -/
theorem out_due {IW IK TL due : Addr} {H : Hp} {o : WayO} {Q : VK} (hd : DueAt H due o) (q : ∀ t H' a i, Same H H' → H' t = some (.tup [.str a, .int i, .bl true]) → H' due = some (.tup [.str a, .int i, .bl true]) → Q (.ref t) H') : OutW IW TL (toldOf IW IK TL Q) H o := by
  refine ⟨fun i e H' d s' ed => ?_, fun n e H' d s' ed => ?_⟩
  · refine ⟨d, rfl, .inl ⟨rfl, _, ed, fun t H2 s2 e2 => ?_⟩⟩
    rcases hd with ⟨j, e', h⟩ | ⟨n, e', _⟩
    · rw [e] at e'
      cases e'
      exact q t H2 _ _ (s'.trans s2) e2 ((s'.trans s2) _ _ h)
    · rw [e] at e'
      cases e'
  · refine ⟨d, rfl, .inr (.inr ⟨rfl, _, ed, fun t H2 s2 e2 => ?_⟩)⟩
    rcases hd with ⟨j, e', h⟩ | ⟨n, e', h⟩
    · rw [e] at e'
      cases e'
    · rw [e] at e'
      cases e'
      exact q t H2 _ _ (s'.trans s2) e2 ((s'.trans s2) _ _ h)
structure Txt4 (P : Program) (K : PySem.W.Frag) (mg : Str → Option Value) (C R O IW IK TL G : Addr) (st1 st2 st3 : Stmt) : Prop extends Txt3 P K mg C R O IW IK TL G st1 st2 st3 where
  sf : PySem.W.selfFirst K R = true
  ra : PySem.W.findIn K (.ref R) (dunderR "add") = some none
def spWays (K : PySem.W.Frag) (C R : Addr) (Ts : List (Addr × Str)) : Sp := fun vs H Q _ => ∃ (x r y : Addr) (v : V) (due : Addr) (ks : List Nat) (ps : List (List Nat)) (name : List Nat) (o : WayO), vs = [.ref x, .ref r, v, .ref due] ∧ LamX.Tabs Ts H ∧ PlanAt C H x ks ps ∧ PlanAt C H y ks ps ∧ RoomAt R H r y name ∧ (∀ c ∈ name, c ∈ ks) ∧ name.length ≤ 2000 ∧ WaySt K H ks v o ∧ RightSt K R H v ∧ DueAt H due o ∧
  ∀ H', LamX.ExtN H H' → LamX.Tabs Ts H' → Q (.bl true) H'
section
variable {P : Program} {w : World} {K : PySem.W.Frag} {mg : Str → Option Value} {base : Heap} {C R O IW IK TL G : Addr} {st1 st2 st3 : Stmt} {Ts : List (Addr × Str)} {c Pt : Addr}
abbrev stways : Stmt := (top 41)
abbrev Nways : List Str := ["_law_floor_here", "_law_here", "_law_text", "_law_due"]
theorem scways : FnScope Nways ["_law_floor_here", "_law_here", "_law_text", "_law_due"] (defScope stways) := ⟨rfl, rfl, rfl, by decide +kernel, rfl, by decide +kernel, by decide +kernel⟩

theorem ok_ways (F : FnAtC K mg "_law_ways_right" stways c) (F_told : FnAt K mg "_law_told" sttold) (T : Txt4 P K mg C R O IW IK TL G st1 st2 st3) (TBw : LamX.TabB base mg c Pt) (hmW : (Pt, ("_law_ways_right" : Str) ++ ".<locals>." ++ "<lambda>") ∈ Ts) (huW : ∀ p ∈ Ts, p.1 = Pt → p.2 = ("_law_ways_right" : Str) ++ ".<locals>." ++ "<lambda>") (M_Room_len : MDef P w K mg base CX0 1 R "__len__" ["self"] (spRoomLen R)) (C_RoomE : CDef P w K mg base (L2.CX P w) 4 "Room" R (spRoomE K C R IW TL)) (M_Room_addE : MDef P w K mg base (L2.CX P w) 6 R "__add__" ["self", "way"] (spAddE K C R IW TL)) : Def P w K mg base CX0 9 "_law_ways_right" ["_law_floor_here", "_law_here", "_law_text", "_law_due"] (spWays K C R Ts) := by
  refine F.ok scways (fun _ _ _ _ _ _ us hl => match us, hl with | [_, _, _, _], _ => rfl) (fun vs H Q E h => ?_) (fun f A outer s H vs Q E hr h => ?_)
  · obtain ⟨x, r, y, v, due, ks, ps, name, o, rfl, _⟩ := h
    rfl
  obtain ⟨x, r, y, v, due, ks, ps, name, o, rfl, t0, px, py, ro, hn, l1, hw, hr', hd, q⟩ := h
  have hu := hu_of hr
  have nd := scways.nd
  replace C_RoomE := C_RoomE.mono (show 4 ≤ 5 by decide)
  have M_len1 := M_Room_len
  refine ⟨_, (pss_cons (ps_if (pt_cmpR (op_neS hu) (pe_told F_told T.toTxt3 M_len1 TBw hmW huW hr (by decide) (LamX.lamS_by (show LamX.lamSB (defScope stways) _ = true by decide +kernel)) (fun A outer s H E f c hr => (pe_mk C_RoomE hr (passes_call (takes_of rfl rfl rfl rfl) (fun _ _ _ _ h => h)) (pa_cons (pv 0) (pa_cons (pv 2) pa_nil))))) (pv 3) (nomark _))
      (pss_one (ps_ret pe_bl))
      pss_nil)
      (pss_one (ps_ret (pe_cmpR (op_eqS hu) (pe_told F_told T.toTxt3 M_len1 TBw hmW huW hr (by decide) (LamX.lamS_by (show LamX.lamSB (defScope stways) _ = true by decide +kernel)) (fun A outer s H E f c hr => (pe_op (OpR.or (OpR.or (op_addM M_Room_addE T.sf hr (passes_call (takes_of rfl rfl rfl rfl) (fun _ _ _ _ h => h))) (op_addP M_Room_addE T.sf hr (passes_call (takes_of rfl rfl rfl rfl) (fun _ _ _ _ h => h)))) (op_addAK (K := K) rfl M_Room_addE T.sf T.ra hr (passes_call (takes_of rfl rfl rfl rfl) (fun _ _ _ _ h => h)))) (pv 1) (pv 2)))) (pv 3) (nomark _))))), ?_⟩
  refine s_start [some _, some _, some _, some _] rfl ?_
  walk_at "go"
  refine ⟨t0, fun H1 x1 t1 => ?_⟩
  show tCall (spRoomE K C R IW TL) [] (toldOf IW IK TL _) (tCons (tVar 0) (tCons (tVar 2) tNil)) _ H1 _
  walk_at "go"
  refine ⟨x, ks, ps, v, o, rfl, px.ext x1, hw.ext x1, out_due (hd.ext x1) (fun t H2 a i s2 e2 e3 => ?_), fun way eo => ?_⟩
  rotate_left
  · rcases hd with ⟨_, e, _⟩ | ⟨_, e, _⟩ <;> (rw [eo] at e; cases e)
  walk_at "go"
  refine ⟨t, due, _, rfl, rfl, e2, e3, pl3, ?_⟩
  refine ⟨false, rfl, ?_⟩
  walk_at "go"
  have x2 := x1.trans (ext_of s2)
  have t2 := tabs_same t1 s2
  refine ⟨t2, fun H3 x3 t3 => ?_⟩
  have x03 := x2.trans x3
  have ro3 := ro.ext x03
  obtain ⟨dr, er⟩ := ro3.ex
  have out := fun q' => out_due (IW := IW) (IK := IK) (TL := TL) (H := H3) (due := due) (o := o) (Q := fun x_1 H1 => (tVar 3) [some (V.ref x), some (V.ref r), some v, some (V.ref due)] H1 fun y H2 => rEqS x_1 y H2 Q) (hd.ext x03) q'
  have fin : ∀ t H' a i, Same H3 H' → H' t = some (.tup [.str a, .int i, .bl true]) → H' due = some (.tup [.str a, .int i, .bl true]) → (tVar 3) [some (V.ref x), some (V.ref r), some v, some (V.ref due)] H' fun y H2 => rEqS (.ref t) y H2 Q := by
    intro t4 H4 a4 i4 s4 e4 e5
    walk_at "go"
    exact ⟨t4, due, _, rfl, rfl, e4, e5, pl3, q H4 (x03.trans (ext_of s4)) (tabs_same t3 s4)⟩
  have ad : ∀ Qx : VK, spAddE K C R IW TL [.ref r, v] H3 Qx (toldOf IW IK TL fun x_1 H1 => (tVar 3) [some (V.ref x), some (V.ref r), some v, some (V.ref due)] H1 fun y H2 => rEqS x_1 y H2 Q) := fun Qx =>
    ⟨r, y, ks, ps, name, v, o, rfl, ro3, py.ext x03, hn, l1, hw.ext x03, out fin, fun way eo => by
      rcases hd with ⟨_, e, _⟩ | ⟨_, e, _⟩ <;> (rw [eo] at e; cases e)⟩
  unfold TT3
  dsimp only
  walk_at "go"
  rcases hr' H3 x03 with ⟨z, rfl⟩ | ⟨b, dx, fs, rfl, eb⟩ | ⟨tb, ty, rt⟩
  · exact .inl (.inl ⟨r, dr, _, z, rfl, rfl, er, ad _⟩)
  · exact .inl (.inr ⟨r, dr, _, b, dx, fs, rfl, rfl, er, eb, ad _⟩)
  · exact .inr ⟨r, dr, _, tb, rfl, er, ty, rt, ad _⟩
end
end
section
open PySem PySem.Spec L2
structure TxtV (K : PySem.W.Frag) (mg : Str → Option Value) : Prop extends TxtH K mg where
  tuple : mg "tuple" = none
  min : mg "min" = none
  dict : mg "dict" = none
section
variable {P : Program} {w : World} {K : PySem.W.Frag} {mg : Str → Option Value} {base : Heap}
end
end
section
open PySem PySem.Spec L2
section
variable {P : Program} {w : World} {K : PySem.W.Frag} {mg : Str → Option Value} {base : Heap}
end
end
section
open PySem PySem.Spec L2
section
variable {P : Program} {w : World} {K : PySem.W.Frag} {mg : Str → Option Value} {base : Heap}
end
end
section
open PySem PySem.Spec L2
section
variable {P : Program} {w : World} {K : PySem.W.Frag} {mg : Str → Option Value} {base : Heap}
end
end
section
open PySem PySem.Spec L2
theorem if_nI {c A B : Prop} {inst : Decidable c} (h : c) (q : B) : if (!decide c) = true then A else B := if_ndec (fun z => absurd h z) (fun _ => q)
theorem if_I {c A B : Prop} {inst : Decidable c} (h : c) (q : A) : if decide c = true then A else B := if_dec (fun _ => q) (fun z => absurd h z)
/-! ### rooms of one plan -/
theorem RoomAt.go {R : Addr} {H H' : Hp} {r x : Addr} {name : List Nat} (s : Same H H') (h : RoomAt R H r x name) : RoomAt R H' r x name := h.same s
theorem PlanAt.go {C : Addr} {H H' : Hp} {x : Addr} {ks : List Nat} {ps : List (List Nat)} (s : Same H H') (h : PlanAt C H x ks ps) : PlanAt C H' x ks ps := h.same s
section
variable {K : PySem.W.Frag} {H : Hp} {Q : VK} {C R r r' x : Addr} {a b : List Nat} {ks : List Nat} {ps : List (List Nat)} {E : XK}
theorem v_rname {P : V → Prop} (h : RoomAt R H r x a) (c : Cls K R) (n : NoAttr K R "name") (q : P (.str (tx a))) : ∃ a' C dx fs v, V.ref r = .ref a' ∧ H a' = some (.ins C dx fs) ∧ Cls K C ∧ NoAttr K C "name" ∧ fs.lookup ("name" : Str) = some v ∧ P v := by
  obtain ⟨dx, e⟩ := h.ex
  exact v_fld e c n roomF_n q
theorem v_rnameG {P : V → Prop} (q : ∃ R x a, RoomAt R H r x a ∧ Cls K R ∧ NoAttr K R "name" ∧ P (.str (tx a))) : ∃ a' C dx fs v, V.ref r = .ref a' ∧ H a' = some (.ins C dx fs) ∧ Cls K C ∧ NoAttr K C "name" ∧ fs.lookup ("name" : Str) = some v ∧ P v := by
  obtain ⟨R, x, a, h, c, n, q⟩ := q
  exact v_rname h c n q
theorem v_rplan {P : V → Prop} (h : RoomAt R H r x a) (c : Cls K R) (n : NoAttr K R "plan") (q : P (.ref x)) : ∃ a' C dx fs v, V.ref r = .ref a' ∧ H a' = some (.ins C dx fs) ∧ Cls K C ∧ NoAttr K C "plan" ∧ fs.lookup ("plan" : Str) = some v ∧ P v := by
  obtain ⟨dx, e⟩ := h.ex
  exact v_fld e c n roomF_p q
theorem v_rplanG {P : V → Prop} (q : ∃ R x a, RoomAt R H r x a ∧ Cls K R ∧ NoAttr K R "plan" ∧ P (.ref x)) : ∃ a' C dx fs v, V.ref r = .ref a' ∧ H a' = some (.ins C dx fs) ∧ Cls K C ∧ NoAttr K C "plan" ∧ fs.lookup ("plan" : Str) = some v ∧ P v := by
  obtain ⟨R, x, a, h, c, n, q⟩ := q
  exact v_rplan h c n q
theorem rooms2 (h1 : RoomAt R H r x a) (h2 : RoomAt R H r' x b) (pl : PlanAt C H x ks ps) (ok : PsOk ps) (la : a.length ≤ 2000) (lb : b.length ≤ 2000) : Rooms2 C R H r x a r' x b true := ⟨h1, h2, ⟨ks, ks, ps, ps, pl, pl, ok, ok, (decide_eq_true ⟨rfl, rfl⟩).symm⟩, la, lb⟩
theorem v_req (h1 : RoomAt R H r x a) (h2 : RoomAt R H r' x b) (pl : PlanAt C H x ks ps) (ok : PsOk ps) (la : a.length ≤ 2000) (lb : b.length ≤ 2000) (q : Q (.bl (decide (a = b))) H) : rM2 R (spRoomEq C R) E (.ref r) (.ref r') H Q := by
  obtain ⟨dx, e1⟩ := h1.ex
  obtain ⟨dy, e2⟩ := h2.ex
  refine v_M2 e1 e2 ⟨_, _, _, _, _, _, _, rfl, rooms2 h1 h2 pl ok la lb, ?_⟩
  rw [Bool.true_and]
  exact q
theorem v_rne (h1 : RoomAt R H r x a) (h2 : RoomAt R H r' x b) (pl : PlanAt C H x ks ps) (ok : PsOk ps) (la : a.length ≤ 2000) (lb : b.length ≤ 2000) (q : Q (.bl (!decide (a = b))) H) : rM2n R (spRoomEq C R) E (.ref r) (.ref r') H Q := by
  obtain ⟨dx, e1⟩ := h1.ex
  obtain ⟨dy, e2⟩ := h2.ex
  refine v_M2n e1 e2 ⟨_, _, _, _, _, _, _, rfl, rooms2 h1 h2 pl ok la lb, ?_⟩
  rw [Bool.true_and]
  exact ⟨_, rfl, q⟩
theorem v_rlen (h : RoomAt R H r x a) (l : a.length ≤ 100000) (q : Q (.int a.length) H) : rLenM R (spRoomLen R) E [.ref r] H Q := by
  obtain ⟨dx, e⟩ := h.ex
  exact v_lenM e ⟨_, _, _, rfl, h, l, a.length, rfl, by omega, q⟩
theorem v_reqT {z : Str} (h : RoomAt R H r x a) (q : Q (.bl false) H) : rMS R (spRoomEqS R) E (.ref r) (.str z) H Q := by
  obtain ⟨dx, e⟩ := h.ex
  exact v_MS e ⟨_, _, rfl, q⟩
theorem v_rlenG (q : ∃ x a, RoomAt R H r x a ∧ a.length ≤ 100000 ∧ Q (.int a.length) H) : rLenM R (spRoomLen R) E [.ref r] H Q := by
  obtain ⟨x, a, h, l, q⟩ := q
  exact v_rlen h l q
theorem v_reqG (q : ∃ x a b ks ps, RoomAt R H r x a ∧ RoomAt R H r' x b ∧ PlanAt C H x ks ps ∧ PsOk ps ∧ a.length ≤ 2000 ∧ b.length ≤ 2000 ∧ Q (.bl (decide (a = b))) H) : rM2 R (spRoomEq C R) E (.ref r) (.ref r') H Q := by
  obtain ⟨x, a, b, ks, ps, h1, h2, h3, h4, h5, h6, q⟩ := q
  exact v_req h1 h2 h3 h4 h5 h6 q
theorem v_rneG (q : ∃ x a b ks ps, RoomAt R H r x a ∧ RoomAt R H r' x b ∧ PlanAt C H x ks ps ∧ PsOk ps ∧ a.length ≤ 2000 ∧ b.length ≤ 2000 ∧ Q (.bl (!decide (a = b))) H) : rM2n R (spRoomEq C R) E (.ref r) (.ref r') H Q := by
  obtain ⟨x, a, b, ks, ps, h1, h2, h3, h4, h5, h6, q⟩ := q
  exact v_rne h1 h2 h3 h4 h5 h6 q
theorem v_reqTG {z : Str} (q : ∃ x a, RoomAt R H r x a ∧ Q (.bl false) H) : rMS R (spRoomEqS R) E (.ref r) (.str z) H Q := by
  obtain ⟨x, a, h, q⟩ := q
  exact v_reqT h q
theorem v_peqS {x : Addr} (pl : PlanAt C H x ks ps) (ok : PsOk ps) (q : Q (.bl true) H) : rM2 C (spPlanEq C) E (.ref x) (.ref x) H Q := by
  obtain ⟨dx, t, d, e, _⟩ := pl.ex
  refine v_M2 e e ⟨_, _, _, _, _, _, rfl, pl, pl, ok, ok, ?_⟩
  rw [decide_eq_true ⟨rfl, rfl⟩]
  exact q
theorem v_peqG {x : Addr} (q : ∃ ks ps, PlanAt C H x ks ps ∧ PsOk ps ∧ Q (.bl true) H) : rM2 C (spPlanEq C) E (.ref x) (.ref x) H Q := by
  obtain ⟨ks, ps, h1, h2, q⟩ := q
  exact v_peqS h1 h2 q
end
/-! ### rooms of a drawn floor -/
section
variable {K : PySem.W.Frag} {H : Hp} {Q : VK} {C R r x : Addr} {ls : List Nat} {fn : Nat → List Nat} {a b w : List Nat} {k : Nat} {E : XK}
theorem inAsc (T : Tab ls fn) (h : ∀ c ∈ a, c ∈ ls) : ∀ c ∈ a, c ∈ ascOf ls := fun c hc => ascOf_mem.mpr ⟨T.lt c (h c hc), h c hc⟩
theorem memN (h : ∀ c ∈ a, c ∈ ls) : ∀ c ∈ joinC fn [] a, c ∈ ls := fun c hc => h c (name_mem hc)
theorem sp_room (fl : Fl ls fn) (pl : PlanAt C H x (ascOf ls) (tabPairs ls fn)) (hw : ∀ c ∈ w, c ∈ ls) (l : w.length ≤ 2000) (q : ∀ r H', H r = none → Same H H' → RoomAt R H' r x (joinC fn [] w) → Q (.ref r) H') : spRoom C R [.ref x, .str (tx w)] H Q E := by
  refine ⟨x, _, _, w, rfl, pl, inAsc fl.tab hw, l, fun r H' h s ro => q r H' h s ?_⟩
  rw [joinOf_tab fl.tab (name := []) (by simp) hw] at ro
  exact ro
end
theorem v_mdRG {R r : Addr} {H : Hp} {m : Str} {P : Prop} (q : ∃ x a, RoomAt R H r x a ∧ (¬ m = "name" ∧ ¬ m = "plan") ∧ P) : ∃ a dx fs, V.ref r = .ref a ∧ H a = some (.ins R dx fs) ∧ fs.lookup m = none ∧ P := by
  obtain ⟨x, a, h, ⟨h1, h2⟩, q⟩ := q
  obtain ⟨dx, e⟩ := h.ex
  exact ⟨r, dx, _, rfl, e, roomF_no h1 h2, q⟩
end
section
open PySem PySem.Spec L2
structure Txt5 (P : Program) (K : PySem.W.Frag) (mg : Str → Option Value) (C R O IW IK TL G : Addr) (st1 st2 st3 : Stmt) : Prop extends Txt4 P K mg C R O IW IK TL G st1 st2 st3 where
  range : mg "range" = none
  min : mg "min" = none
  kC : PySem.W.kitOne K (.ref C) (.type "str") = some false
  kR : PySem.W.kitOne K (.ref R) (.type "str") = some false
  rN : RightT K R (.type "NoneType")
  rI : RightT K R (.type "int")
  rB : RightT K R (.type "bool")
  rL : RightT K R (.type "list")
  rT : RightT K R (.type "tuple")
  rD : RightT K R (.type "dict")
  rC : RightT K R (.ref C)
  I_get : ∀ f, PySem.W.findIn K (.ref R) "__getitem__" = some (some (.ref f)) → PySem.W.fnIn K f = true
def spLawT (K : PySem.W.Frag) (Ts : List (Addr × Str)) : Sp := fun vs H Q _ => ∃ (a : Addr) (ns : List Int), vs = [.ref a] ∧ SqL K H a (ns.map V.int) ∧ ns.length ≤ 63 ∧ LamX.Tabs Ts H ∧ ∀ H', Q (.bl true) H'
theorem tabs_pen {Ts : List (Addr × Str)} {g : Pen} {H H' : Hp} {n : Nat} (t : LamX.Tabs Ts H) (p : PenAt g H n) (k : Keep g.p H H') : LamX.Tabs Ts H' := by
  obtain ⟨a, r, h1, _⟩ := p.ex
  exact tabs_keep t k h1 (fun ps z => nomatch z) (fun c q => codeO_dK)
theorem abc_no {ls : List Nat} {rel : Nat → Nat → Bool} (h : Flr 8 ls rel) : ∀ c ∈ ls, c ∉ [65, 95, 32, 126, 49, 105, 63] := by
  obtain ⟨t, ht, m, _, _, rfl⟩ := h.cut
  intro c hc
  have all : ∀ t ∈ ABC, ∀ c ∈ t, c ∉ [65, 95, 32, 126, 49, 105, 63] := by decide +kernel
  exact all t ht c (List.mem_of_mem_take hc)
section
variable {P : Program} {w : World} {K : PySem.W.Frag} {mg : Str → Option Value} {base : Heap} {C R O IW IK TL G : Addr} {st1 st2 st3 : Stmt} {Ts : List (Addr × Str)} {c Pt : Addr}
abbrev stlaw : Stmt := (top 42)
abbrev Nlaw : List Str := ["_law_script", "_law_pen_here", "_law_again", "_law_table", "_law_floor_here", "_law_letters", "_law_here", "_law_thing", "_law_item", "_law_long", "_law_begun", "_law_odd", "_law_apart", "_law_whole", "_law_more", "_law_due"]
theorem sclaw : FnScope Nlaw ["_law_script"] (defScope stlaw) := ⟨rfl, rfl, rfl, by decide +kernel, rfl, by decide +kernel, by decide +kernel⟩

theorem ok_law {f : Addr} {fd : FuncData} (F : FunC K "law" "law" stlaw f fd c) (F_told : FnAt K mg "_law_told" sttold) (T : Txt5 P K mg C R O IW IK TL G st1 st2 st3) (TBl : LamX.TabB base mg c Pt) (hmL : (Pt, ("law" : Str) ++ ".<locals>." ++ "<lambda>") ∈ Ts) (huL : ∀ p ∈ Ts, p.1 = Pt → p.2 = ("law" : Str) ++ ".<locals>." ++ "<lambda>")
    (D_pen : Def P w K mg base CX0 1 "_law_pen" ["_law_script"] (spPen K)) (D_draw : Def P w K mg base CX0 1 "_law_draw" ["_law_pen_here", "_law_number"] spDraw) (D_pick : Def P w K mg base CX0 2 "_law_pick" ["_law_pen_here", "_law_items"] spPick) (D_floor : Def P w K mg base CX0 3 "_law_floor" ["_law_pen_here", "_law_number"] spFloor) (D_made : Def P w K mg base CX0 5 "_law_made" ["_law_pen_here", "_law_table"] (spMade C)) (D_walk : Def P w K mg base CX0 3 "_law_walk" ["_law_pen_here", "_law_table", "_law_number"] spWalk)
    (D_ways_right : Def P w K mg base CX0 9 "_law_ways_right" ["_law_floor_here", "_law_here", "_law_text", "_law_due"] (spWays K C R Ts)) (C_Room : CDef P w K mg base CX0 3 "Room" R (spRoom C R)) (C_Plan : CDef P w K mg base CX0 3 "Plan" C (spPlan K C)) (M_Room_len : MDef P w K mg base CX0 1 R "__len__" ["self"] (spRoomLen R))
    (C_RoomE : CDef P w K mg base (L2.CX P w) 4 "Room" R (spRoomE K C R IW TL)) (M_Room_addE : MDef P w K mg base (L2.CX P w) 6 R "__add__" ["self", "way"] (spAddE K C R IW TL)) (M_Room_getE : MDef P w K mg base (L2.CX P w) 6 R "__getitem__" ["self", "kind"] (spGetE K C R IK TL)) : FnOk P w K mg base CX0 11 f fd ["_law_script"] (spLawT K Ts) := by
  refine F.ok sclaw (fun vs H Q E h => ?_) (fun A outer s H vs Q E hr h => ?_)
  · obtain ⟨a, ns, rfl, _⟩ := h
    rfl
  obtain ⟨sc, ns, rfl, ha, hn, t0, k⟩ := h
  have hu := hu_of hr
  have nd := sclaw.nd
  replace D_pen := D_pen.mono (show 1 ≤ 10 by decide)
  replace D_draw := D_draw.mono (show 1 ≤ 10 by decide)
  replace D_pick := D_pick.mono (show 2 ≤ 10 by decide)
  replace D_floor := D_floor.mono (show 3 ≤ 10 by decide)
  replace D_made := D_made.mono (show 5 ≤ 10 by decide)
  replace D_walk := D_walk.mono (show 3 ≤ 10 by decide)
  replace D_ways_right := D_ways_right.mono (show 9 ≤ 10 by decide)
  replace C_Room := C_Room.mono (show 3 ≤ 9 by decide)
  replace C_Plan := C_Plan.mono (show 3 ≤ 9 by decide)
  have M_len1 := M_Room_len
  replace M_Room_len := M_Room_len.mono (show 1 ≤ 9 by decide)
  replace C_RoomE := C_RoomE.mono (show 4 ≤ 5 by decide)
  have M_getE := M_Room_getE
  refine ⟨_, (pss_cons (ps_set (i := 1) nd rfl (Or.inl rfl) (pe_cd D_pen hr pass0 (pa_cons (pv 0) pa_nil)))
      (pss_cons (ps_for PassesOwn.never rfl (pi_range1 (by rfl) T.range (pa_cons (pe_op op_add pe_int (pe_callB (call_min2 rfl) (by rfl) T.min (by decide +kernel) (pa_cons pe_int (pa_cons (pe_callB (c_lenK (K := K) rfl) (by rfl) T.len PySem.boot_len (pa_cons (pv 0) pa_nil)) pa_nil)))) pa_nil)) (pg_name (i := 2) nd rfl (Or.inl rfl))
      (pss_cons (ps_set (i := 3) nd rfl (Or.inl rfl) (pe_cd D_floor hr pass0 (pa_cons (pv 1) (pa_cons pe_int pa_nil))))
        (pss_cons (ps_asg (pe_tup (pa_cons (pe_cd D_made hr pass0 (pa_cons (pv 1) (pa_cons (pv 3) pa_nil))) (pa_cons (pe_callTy (call_list_dK rfl) (by rfl) T.list (by decide +kernel) (pa_cons (pv 3) pa_nil)) pa_nil))) (pg_tup rfl (pgs_cons (pg_name (i := 4) nd rfl (Or.inr rfl)) (pgs_cons (pg_name (i := 5) nd rfl (Or.inl rfl)) pgs_nil))))
        (pss_cons (ps_set (i := 6) nd rfl (Or.inr rfl) (pe_mk C_Room hr pass0 (pa_cons (pv 4) (pa_cons (pe_cd D_walk hr pass0 (pa_cons (pv 1) (pa_cons (pv 3) (pa_cons pe_int pa_nil)))) pa_nil))))
        (pss_cons (ps_for PassesOwn.never rfl (pi_listK (K := K) rfl (pe_lst (pa_cons pe_non (pa_cons pe_int (pa_cons pe_bl (pa_cons (pe_callTy (c_listK (K := K) rfl) (by rfl) T.list (by decide +kernel) (pa_cons (pv 5) pa_nil)) (pa_cons (pe_callTy (c_tupleK (K := K) rfl) (by rfl) T.tuple (by decide +kernel) (pa_cons (pv 5) pa_nil)) (pa_cons (pv 4) (pa_cons (pv 6) (pa_cons (pe_disp (pps_cons pe_str pe_int pps_nil) (by rfl) (by rfl) (fun z => by cases z) (by decide)) pa_nil)))))))))) (pg_name (i := 7) nd rfl (Or.inr rfl))
        (pss_one (ps_if (pt_not (pt_val (pe_cd D_ways_right hr pass0 (pa_cons (pv 4) (pa_cons (pv 6) (pa_cons (pv 7) (pa_cons (pe_tup (pa_cons (pe_tx [119, 97, 121] (by decide +kernel)) (pa_cons pe_int (pa_cons pe_bl pa_nil)))) pa_nil)))))))
          (pss_one (ps_ret pe_bl))
          pss_nil)))
        (pss_cons (ps_for PassesOwn.never rfl (pi_listK (K := K) rfl (pe_lst (pa_cons pe_non (pa_cons pe_int (pa_cons pe_bl (pa_cons (pe_tx [] (by decide +kernel)) (pa_cons (pe_op op_mulS (pe_ix (ix_LK (K := K) rfl) (pv 5) pe_int (fun _ _ => rfl)) pe_int) (pa_cons (pe_tx [95] (by decide +kernel)) (pa_cons (pe_tx [97, 98, 32, 99, 100] (by decide +kernel)) (pa_cons (pv 5) (pa_cons (pv 6) (pa_cons (pe_up (pe_ix (ix_LK (K := K) rfl) (pv 5) pe_int (fun _ _ => rfl))) pa_nil)))))))))))) (pg_name (i := 7) nd rfl (Or.inr rfl))
        (pss_one (ps_if (pt_cmpR (op_neS hu) (pe_told F_told T.toTxt3 M_len1 TBl hmL huL (hr.mono (by decide)) (by decide) (LamX.lamS_by (show LamX.lamSB (defScope stlaw) _ = true by decide +kernel)) (fun A outer s H E f c hr => (pe_ixA M_Room_getE T.I_get hr (passes_call (takes_of rfl rfl rfl rfl) (fun _ _ _ _ h => h)) (pv 6) (pv 7)))) (pe_tup (pa_cons (pe_tx [107, 105, 110, 100] (by decide +kernel)) (pa_cons (pv 7) (pa_cons pe_bl pa_nil)))) (nomark _))
          (pss_one (ps_ret pe_bl))
          pss_nil)))
        (pss_cons (ps_asg (pe_tup (pa_cons (pe_cd D_pick hr pass0 (pa_cons (pv 1) (pa_cons (pv 5) pa_nil))) (pa_cons (pe_op op_add pe_int (pe_cd D_draw hr pass0 (pa_cons (pv 1) (pa_cons pe_int pa_nil)))) pa_nil))) (pg_tup rfl (pgs_cons (pg_name (i := 8) nd rfl (Or.inr rfl)) (pgs_cons (pg_name (i := 9) nd rfl (Or.inr rfl)) pgs_nil))))
        (pss_cons (ps_set (i := 10) nd rfl (Or.inr rfl) (pe_op op_addS (pe_cd D_walk hr pass0 (pa_cons (pv 1) (pa_cons (pv 3) (pa_cons pe_int pa_nil)))) (pe_op op_mulS (pv 8) pe_int)))
        (pss_cons (ps_set (i := 11) nd rfl (Or.inl rfl) (pe_op op_addS (pe_op op_addS (pv 10) (pe_cd D_pick hr pass0 (pa_cons (pv 1) (pa_cons (pe_lst (pa_cons (pe_tx [65] (by decide +kernel)) (pa_cons (pe_tx [95] (by decide +kernel)) (pa_cons (pe_tx [32] (by decide +kernel)) (pa_cons (pe_tx [126] (by decide +kernel)) (pa_cons (pe_tx [49] (by decide +kernel)) (pa_cons (pe_tx [105] (by decide +kernel)) pa_nil))))))) pa_nil)))) (pe_op op_mulS (pv 8) (pv 9))))
        (pss_cons (ps_if (pt_not (pt_val (pe_cd D_ways_right hr pass0 (pa_cons (pv 4) (pa_cons (pv 6) (pa_cons (pv 11) (pa_cons (pe_tup (pa_cons (pe_tx [119, 97, 121] (by decide +kernel)) (pa_cons (pe_callB c_lenS (by rfl) T.len PySem.boot_len (pa_cons (pv 10) pa_nil)) (pa_cons pe_bl pa_nil)))) pa_nil)))))))
        (pss_one (ps_ret pe_bl))
        pss_nil)
        (pss_cutS (ps_if (pt_cmpR op_gt (pv 9) pe_int (nomark _))
        (pss_one (ps_if (pt_not (pt_val (pe_cd D_ways_right hr pass0 (pa_cons (pv 4) (pa_cons (pv 6) (pa_cons (pe_op op_mulS (pv 8) (pv 9)) (pa_cons (pe_tup (pa_cons (pe_tx [108, 111, 110, 103] (by decide +kernel)) (pa_cons (pv 9) (pa_cons pe_bl pa_nil)))) pa_nil)))))))
          (pss_one (ps_ret pe_bl))
          pss_nil))
        (pss_one (ps_if (pt_cmpR op_ne (pe_told F_told T.toTxt3 M_len1 TBl hmL huL (hr.mono (by decide)) (by decide) (LamX.lamS_by (show LamX.lamSB (defScope stlaw) _ = true by decide +kernel)) (fun A outer s H E f c hr => (pe_mk C_RoomE hr (passes_call (takes_of rfl rfl rfl rfl) (fun _ _ _ _ h => h)) (pa_cons (pv 4) (pa_cons (pe_op op_mulS (pv 8) (pv 9)) pa_nil))))) (pe_op op_mod (pe_callTy c_int (by rfl) T.int (by decide +kernel) (pa_cons (pv 9) pa_nil)) pe_int) (nomark _))
          (pss_one (ps_ret pe_bl))
          pss_nil)))
        (pss_one (ps_if (pt_cmpR (op_neS hu) (pe_told F_told T.toTxt3 M_len1 TBl hmL huL (hr.mono (by decide)) (by decide) (LamX.lamS_by (show LamX.lamSB (defScope stlaw) _ = true by decide +kernel)) (fun A outer s H E f c hr => (pe_op (op_addM M_Room_addE T.sf hr (passes_call (takes_of rfl rfl rfl rfl) (fun _ _ _ _ h => h))) (pv 6) (pe_op op_addS (pv 10) (pe_tx [63] (by decide +kernel)))))) (pe_tup (pa_cons (pe_tx [119, 97, 121] (by decide +kernel)) (pa_cons (pe_callB c_lenS (by rfl) T.len PySem.boot_len (pa_cons (pv 10) pa_nil)) (pa_cons pe_bl pa_nil)))) (nomark _))
        (pss_one (ps_ret pe_bl))
        pss_nil)))))))))))))
      (pss_cons (ps_set (i := 12) nd rfl (Or.inl rfl) (pe_mk C_Plan hr pass0 (pa_cons (pe_tx [99, 97, 116] (by decide +kernel)) (pa_cons (pe_lst (pa_cons (pe_tx [99, 116] (by decide +kernel)) pa_nil)) pa_nil))))
      (pss_cons (ps_set (i := 13) nd rfl (Or.inr rfl) (pe_mk C_Room hr pass0 (pa_cons (pv 12) (pa_cons (pe_op op_mulS (pe_tx [99, 97] (by decide +kernel)) pe_int) pa_nil))))
      (pss_cons (ps_if (PW.pt (pw_or (pt_cmpR op_ne (pe_callB (c_lenM M_Room_len hr pass0) (by rfl) T.len PySem.boot_len (pa_cons (pv 13) pa_nil)) pe_int (nomark _)) (pw_or1 (pt_cmpR op_ne (pe_told F_told T.toTxt3 M_len1 TBl hmL huL (hr.mono (by decide)) (by decide) (LamX.lamS_by (show LamX.lamSB (defScope stlaw) _ = true by decide +kernel)) (fun A outer s H E f c hr => (pe_op (op_addM M_Room_addE T.sf hr (passes_call (takes_of rfl rfl rfl rfl) (fun _ _ _ _ h => h))) (pv 13) (pe_tx [97, 116] (by decide +kernel))))) pe_int (nomark _)))))
      (pss_one (ps_ret pe_bl))
      pss_nil)
      (pss_cons (ps_if (pt_cmpR (op_neS hu) (pe_told F_told T.toTxt3 M_len1 TBl hmL huL (hr.mono (by decide)) (by decide) (LamX.lamS_by (show LamX.lamSB (defScope stlaw) _ = true by decide +kernel)) (fun A outer s H E f c hr => (pe_ixA M_Room_getE T.I_get hr (passes_call (takes_of rfl rfl rfl rfl) (fun _ _ _ _ h => h)) (pv 13) (pe_tx [116] (by decide +kernel))))) (pe_tup (pa_cons (pe_tx [108, 111, 110, 103] (by decide +kernel)) (pa_cons pe_int (pa_cons pe_bl pa_nil)))) (nomark _))
      (pss_one (ps_ret pe_bl))
      pss_nil)
      (pss_cons (ps_if (pt_cmpR op_ne (pe_told F_told T.toTxt3 M_len1 TBl hmL huL (hr.mono (by decide)) (by decide) (LamX.lamS_by (show LamX.lamSB (defScope stlaw) _ = true by decide +kernel)) (fun A outer s H E f c hr => (pe_ixA M_Room_getE T.I_get hr (passes_call (takes_of rfl rfl rfl rfl) (fun _ _ _ _ h => h)) (pv 13) (pe_tx [97] (by decide +kernel))))) pe_int (nomark _))
      (pss_one (ps_ret pe_bl))
      pss_nil)
      (pss_cons (ps_set (i := 14) nd rfl (Or.inr rfl) (pe_cd D_draw hr pass0 (pa_cons (pv 1) (pa_cons pe_int pa_nil))))
      (pss_cons (ps_set (i := 15) nd rfl (Or.inl rfl) (pe_ifExp (pt_cmpR op_eq (pv 14) pe_int (nomark _)) pe_int (pe_tup (pa_cons (pe_tx [108, 111, 110, 103] (by decide +kernel)) (pa_cons (pe_op op_add pe_int (pe_op op_mul pe_int (pv 14))) (pa_cons pe_bl pa_nil))))))
      (pss_cons (ps_if (pt_cmpR (op_neS hu) (pe_told F_told T.toTxt3 M_len1 TBl hmL huL (hr.mono (by decide)) (by decide) (LamX.lamS_by (show LamX.lamSB (defScope stlaw) _ = true by decide +kernel)) (fun A outer s H E f c hr => (pe_op (op_addM M_Room_addE T.sf hr (passes_call (takes_of rfl rfl rfl rfl) (fun _ _ _ _ h => h))) (pv 13) (pe_tx [116, 99, 97] (by decide +kernel))))) (pe_tup (pa_cons (pe_tx [108, 111, 110, 103] (by decide +kernel)) (pa_cons pe_int (pa_cons pe_bl pa_nil)))) (nomark _))
      (pss_one (ps_ret pe_bl))
      pss_nil)
      (pss_one (ps_ret (pe_cmpR (OpR.or op_eq (op_eqS hu)) (pe_told F_told T.toTxt3 M_len1 TBl hmL huL (hr.mono (by decide)) (by decide) (LamX.lamS_by (show LamX.lamSB (defScope stlaw) _ = true by decide +kernel)) (fun A outer s H E f c hr => (pe_op (op_addM M_Room_addE T.sf hr (passes_call (takes_of rfl rfl rfl rfl) (fun _ _ _ _ h => h))) (pv 13) (pe_op op_mulS (pe_tx [116, 97] (by decide +kernel)) (pv 14))))) (pv 15) (nomark _)))))))))))))), ?_⟩
  refine s_start [some _, none, none, none, none, none, none, none, none, none, none, none, none, none, none, none] rfl ?_
  walk_at "go"
  refine ⟨sc, ns, rfl, ha, hn, fun g H1 p1 s1 hg => ?_⟩
  have t1 := tabs_same t0 s1
  walk_at "go"
  refine ⟨sc, _, rfl, .inl (sqL_same ha s1), ?_⟩
  walk_at "go"
  refine ⟨_, _, rfl, ?_⟩
  walk_at "go"
  have hm : (2 + (if ((ns.map V.int).length : Int) < 3 then ((ns.map V.int).length : Int) else 3)).toNat ≤ 5 := by split <;> omega
  refine for_it (walk_rI (fun i => ((i : Nat) : Int)) (fun k => Int.zero_add _)) (fun i σ H' => ∃ x2 x3 x4 x5 x6 x7 x8 x9 x10 x11, σ = [some (.ref sc), some (.ref g.p), x2, x3, x4, x5, x6, x7, x8, x9, x10, x11, none, none, none, none] ∧ PenAt g H' (5000 * i) ∧ LamX.Tabs Ts H') ⟨_, _, _, _, _, _, _, _, _, _, rfl, p1, t1⟩ (fun _ _ _ _ _ => trivial) ?_ ?_
  · rintro i v σ H2 H3 hi ⟨x2, x3, x4, x5, x6, x7, x8, x9, x10, x11, rfl, p3, t3⟩ ⟨rfl, rfl⟩
    refine g_nm ?_
    refine s_hide fun Dn hDn => ?_
    walk_at "go"
    refine ⟨g, 5000 * i, 8, rfl, by omega, by omega, p3, by omega, fun d ls rel H4 hd flr e4 p4 k4 => ?_⟩
    have t4 := tabs_pen t3 p3 k4
    have fl := flr.fl
    have ndp : d ≠ g.p := by
      obtain ⟨a, b, h1, _⟩ := p3.ex
      exact (ne_of_none h1 hd).symm
    have nin := abc_no flr
    generalize crossBy ls rel = fn at fl e4
    have tab := fl.tab
    have ok := fl.ok
    have l8 := tab.len
    clear p3 t3
    walk_at "go"
    refine ⟨g, _, d, ls, fn, rfl, p4, by omega, ndp, e4, tab, fun x H5 hx k5 p5 pl5 of5 => ?_⟩
    have t5 := tabs_pen t4 p4 k5
    have e5 := k5 _ _ e4 ndp
    clear e4 p4 t4 k4 k5 of5
    walk_at "go"
    refine v_listD e5 fun lt H6 hlt s6 e6 => ?_
    walk_at "go"
    intro tp H7 htp s7 e7
    refine v_gTup2 rfl e7 ?_
    have s67 := s6.trans s7
    have t7 := tabs_same t5 s67
    have p7 := p5.same s67
    have d7 := s67 _ _ e5
    have pl7 := pl5.same s67
    have l7 : H7 lt = some (.lst (ls.map fun c => V.str (tx [c]))) := by
      have := s7 _ _ e6
      rw [tab_keys] at this
      exact this
    have nlp : lt ≠ g.p := by
      obtain ⟨a, b, h1, _⟩ := p5.ex
      exact (ne_of_none h1 hlt).symm
    clear t5 p5 e5 pl5 e6 e7 s6 s7 s67
    refine (show tSeq _ _ _ [some (.ref sc), some (.ref g.p), some (.int (i : Nat)), some (.ref d), some (.ref x), some (.ref lt), x6, x7, x8, x9, x10, x11, none, none, none, none] _ from ?_)
    walk_at "go"
    refine ⟨g, _, d, ls, fn, 9, rfl, p7, by omega, ndp, d7, tab, fl.pos, by omega, fun w9 H8 m9 l9 p8 k8 => ?_⟩
    have t8 := tabs_pen t7 p7 k8
    have d8 := k8 _ _ d7 ndp
    have pl8 := pl7.pen p7 k8
    have l8' := k8 _ _ l7 nlp
    clear t7 p7 d7 pl7 l7 k8
    walk_at "go"
    refine sp_room fl pl8 m9 (by omega) fun r H9 hr9 s9 ro9 => ?_
    have t9 := tabs_same t8 s9
    have p9 := p8.same s9
    have d9 := s9 _ _ d8
    have pl9 := pl8.same s9
    have l9' := s9 _ _ l8'
    clear t8 p8 d8 pl8 l8' s9
    have nn := name_len fn w9
    have mn : ∀ c ∈ nameOf fn w9, c ∈ ls := memN (fn := fn) m9
    have ro9 : RoomAt R H9 r x (nameOf fn w9) := ro9
    generalize nameOf fn w9 = nm at ro9 nn mn
    walk_at "go"
    refine v_list (SqL.of l9') fun q1 H10 hq1 s10 e10 => ?_
    walk_at "go"
    refine v_tuple (s10 _ _ l9') fun q2 H11 hq2 s11 e11 => ?_
    walk_at "go"
    intro dd hdd
    walk_at "go"
    refine ⟨upd_same, [(Sum.inr "a", .int 1)], rfl, by decide, ?_⟩
    generalize hmk : mergeK [] [((Sum.inr "a" : Key), V.int 1)] = mk
    have sd : Same H11 (upd (upd H11 dd (.dK [])) dd (.dK mk)) := fun b o hb => by
      rw [upd_ne (ne_of_none hb hdd), upd_ne (ne_of_none hb hdd)]
      exact hb
    have ed : upd (upd H11 dd (.dK [])) dd (.dK mk) dd = some (.dK mk) := upd_same
    generalize upd (upd H11 dd (.dK [])) dd (.dK mk) = H12 at sd ed ⊢
    clear hmk
    walk_at "go"
    intro q H13 hq s13 e13
    have s913 := ((s10.trans s11).trans sd).trans s13
    have t13 := tabs_same t9 s913
    have p13 := p9.same s913
    have d13 := s913 _ _ d9
    have pl13 := pl9.same s913
    have l13 := s913 _ _ l9'
    have ro13 := ro9.same s913
    have q113 := s13 _ _ (sd _ _ (s11 _ _ e10))
    have q213 := s13 _ _ (sd _ _ e11)
    have dd13 := s13 _ _ ed
    clear t9 p9 d9 pl9 l9' ro9 e10 e11 ed s10 s11 sd s13 s913
    have things : ∀ v ∈ [V.non, V.int 0, V.bl true, V.ref q1, V.ref q2, V.ref x, V.ref r, V.ref dd], (∀ H', LamX.ExtN H13 H' → NoTx K H' v) ∧ RightSt K R H13 v := by
      have no : ∀ {b : Addr} {o : HO} {H' : Hp}, H13 b = some o → (∀ ps, o ≠ .tbl ps) → LamX.ExtN H13 H' → H' b = some o := fun h n e => e _ _ h n
      obtain ⟨dx, tx', dy, a1, a2, a3⟩ := pl13.ex
      obtain ⟨dr, b1⟩ := ro13.ex
      intro v hv
      simp only [List.mem_cons, List.not_mem_nil, or_false] at hv
      rcases hv with rfl | rfl | rfl | rfl | rfl | rfl | rfl | rfl
      · exact ⟨fun H' e => noTx_non, fun H' e => .inr (.inr ⟨_, .base .non, T.rN⟩)⟩
      · exact ⟨fun H' e => noTx_int, fun H' e => .inr (.inr ⟨_, .base (.int 0), T.rI⟩)⟩
      · exact ⟨fun H' e => noTx_bl, fun H' e => .inr (.inr ⟨_, .base (.bl true), T.rB⟩)⟩
      · exact ⟨fun H' e => noTx_lst (no q113 (fun ps z => nomatch z) e), fun H' e => .inr (.inr ⟨_, .base (.lst (no q113 (fun ps z => nomatch z) e)), T.rL⟩)⟩
      · exact ⟨fun H' e => noTx_tup (no q213 (fun ps z => nomatch z) e), fun H' e => .inr (.inr ⟨_, .base (.tup (no q213 (fun ps z => nomatch z) e)), T.rT⟩)⟩
      · exact ⟨fun H' e => noTx_ins T.Plan T.kC (no a1 (fun ps z => nomatch z) e), fun H' e => .inr (.inr ⟨_, .base (.ins (no a1 (fun ps z => nomatch z) e) T.Plan.cl T.Plan.ha T.Plan.hn T.Plan.ht T.Plan.hm), T.rC⟩)⟩
      · exact ⟨fun H' e => noTx_ins T.Room T.kR (no b1 (fun ps z => nomatch z) e), fun H' e => .inr (.inl ⟨r, dr, _, rfl, no b1 (fun ps z => nomatch z) e⟩)⟩
      · exact ⟨fun H' e => noTx_dK (no dd13 (fun ps z => nomatch z) e), fun H' e => .inr (.inr ⟨_, .base (.dK (no dd13 (fun ps z => nomatch z) e)), T.rD⟩)⟩
    walk_at "go"
    refine for_it (walk_list (K := K) (a := q) (xs := [V.non, V.int 0, V.bl true, V.ref q1, V.ref q2, V.ref x, V.ref r, V.ref dd])) (fun j σ H' => ∃ x7, σ = [some (.ref sc), some (.ref g.p), some (.int (i : Nat)), some (.ref d), some (.ref x), some (.ref lt), some (.ref r), x7, x8, x9, x10, x11, none, none, none, none] ∧ LamX.ExtN H13 H' ∧ LamX.Tabs Ts H') ⟨_, rfl, LamX.ExtN.refl _, t13⟩ ?_ ?_ ?_
    · rintro j σ H' _ ⟨_, rfl, e, _⟩
      exact SqL.of (e _ _ e13 fun ps z => nomatch z)
    · rintro j v σ H14 H15 hj ⟨y7, rfl, x14, t14⟩ ⟨rfl, hv⟩
      obtain ⟨nt, rs⟩ := things v (List.mem_of_getElem? hv)
      walk_at "go"
      intro td H16 htd s16 e16
      have x16 := x14.trans (ext_of s16)
      refine ⟨x, r, x, v, td, ascOf ls, tabPairs ls fn, nm, .bad 0, rfl, tabs_same t14 s16, pl13.ext x16, pl13.ext x16, ro13.ext x16, inAsc tab mn, by omega, fun H' e => .inl ⟨nt H' (x16.trans e), rfl⟩, rs.ext x16, .inl ⟨0, rfl, e16⟩, fun H17 x17 t17 => ?_⟩
      walk_at "go"
      exact ⟨_, rfl, x16.trans x17, t17⟩
    rintro σ H14 ⟨y7, rfl, x14, t14⟩
    have p14 := p13.ext x14
    have d14 := x14 _ _ d13 fun ps z => nomatch z
    have pl14 := pl13.ext x14
    have ro14 := ro13.ext x14
    have l14 := x14 _ _ l13 fun ps z => nomatch z
    clear things t13 p13 d13 pl13 ro13 l13 q113 q213 dd13 e13 x14
    walk_at "go"
    obtain ⟨c0, cr, hls⟩ : ∃ c0 cr, ls = c0 :: cr := by
      match ls, fl.pos with
      | c0 :: cr, _ => exact ⟨c0, cr, rfl⟩
    have hc0 : c0 ∈ ls := hls ▸ List.mem_cons_self ..
    have u0 : c0 < 123 := (LET_lt (tab.lt _ hc0)).2
    have u1 : PyProof.Rows.up1 c0 < 97 := by
      have := (LET_lt (tab.lt _ hc0)).1
      unfold PyProof.Rows.up1
      split <;> omega
    have at0 : atI (ls.map fun c => V.str (tx [c])) 0 = some (.str (tx [c0])) := by
      rw [hls]
      exact atI_nat (j := 0) rfl
    refine v_ixL l14 at0 ?_
    walk_at "go"
    refine v_mulS (by decide) (by decide) (by show 1 * 2 ≤ 1000000; decide) ?_
    rw [show (List.replicate (Int.toNat 2) [c0]).flatten = [c0, c0] from rfl]
    walk_at "go"
    refine e_m0 ?_
    walk_at "go"
    refine v_ixL l14 at0 ?_
    refine v_up (by show 1 ≤ 1000000; decide) (fun c hc => by rw [List.mem_singleton.mp hc]; omega) ?_
    walk_at "go"
    intro q3 H15 hq3 s15 e15
    have t15 := tabs_same t14 s15
    have p15 := p14.same s15
    have d15 := s15 _ _ d14
    have pl15 := pl14.same s15
    have l15 := s15 _ _ l14
    have ro15 := ro14.same s15
    clear t14 p14 d14 pl14 l14 ro14 s15
    have kinds : ∀ v ∈ [V.non, V.int 0, V.bl true, V.str (tx []), V.str (tx [c0, c0]), V.str (tx [95]), V.str (tx [97, 98, 32, 99, 100]), V.ref lt, V.ref r, V.str (tx [PyProof.Rows.up1 c0])], (∀ H', LamX.ExtN H15 H' → NoKind K H' (ascOf ls) v) ∧ Plainly v := by
      obtain ⟨dr, b1⟩ := ro15.ex
      have ink : ∀ k ∈ ascOf ls, k ∈ ls := fun k hk => (ascOf_mem.mp hk).2
      intro v hv
      simp only [List.mem_cons, List.not_mem_nil, or_false] at hv
      rcases hv with rfl | rfl | rfl | rfl | rfl | rfl | rfl | rfl | rfl | rfl
      · exact ⟨fun H' e => .inl noTx_non, .inl rfl⟩
      · exact ⟨fun H' e => .inl noTx_int, .inl rfl⟩
      · exact ⟨fun H' e => .inl noTx_bl, .inl rfl⟩
      · exact ⟨fun H' e => .inr ⟨_, rfl, fun k hk z => (nomatch z), by decide⟩, .inl rfl⟩
      · exact ⟨fun H' e => .inr ⟨_, rfl, (fun k hk z => by injection z with _ z; cases z), by simp⟩, .inl rfl⟩
      · exact ⟨fun H' e => .inr ⟨_, rfl, fun k hk z => by injection z with z _; exact nin k (ink k hk) (by rw [← z]; decide), by simp⟩, .inl rfl⟩
      · exact ⟨fun H' e => .inr ⟨_, rfl, (fun k hk z => by injection z with _ z; cases z), by simp⟩, .inl rfl⟩
      · exact ⟨fun H' e => .inl (noTx_lst (e _ _ l15 fun ps z => nomatch z)), .inr ⟨_, rfl⟩⟩
      · exact ⟨fun H' e => .inl (noTx_ins T.Room T.kR (e _ _ b1 fun ps z => nomatch z)), .inr ⟨_, rfl⟩⟩
      · exact ⟨fun H' e => .inr ⟨_, rfl, fun k hk z => by
          injection z with z _
          have := (LET_lt (tab.lt k (ink k hk))).1
          omega, by simp⟩, .inl rfl⟩
    walk_at "go"
    refine for_it (walk_list (K := K) (a := q3) (xs := [V.non, V.int 0, V.bl true, V.str (tx []), V.str (tx [c0, c0]), V.str (tx [95]), V.str (tx [97, 98, 32, 99, 100]), V.ref lt, V.ref r, V.str (tx [PyProof.Rows.up1 c0])])) (fun j σ H' => ∃ x7, σ = [some (.ref sc), some (.ref g.p), some (.int (i : Nat)), some (.ref d), some (.ref x), some (.ref lt), some (.ref r), x7, x8, x9, x10, x11, none, none, none, none] ∧ LamX.ExtN H15 H' ∧ LamX.Tabs Ts H') ⟨_, rfl, LamX.ExtN.refl _, t15⟩ ?_ ?_ ?_
    · rintro j σ H' _ ⟨_, rfl, e, _⟩
      exact SqL.of (e _ _ e15 fun ps z => nomatch z)
    · rintro j v σ H16 H17 hj ⟨y7, rfl, x16, t16⟩ ⟨rfl, hv⟩
      obtain ⟨nk, pv⟩ := kinds v (List.mem_of_getElem? hv)
      walk_at "go"
      refine ⟨t16, fun H18 x18 t18 => ?_⟩
      have x58 := x16.trans x18
      have ro18 := ro15.ext x58
      obtain ⟨dr, er⟩ := ro18.ex
      try unfold TT3
      try dsimp only
      walk_at "go"
      refine ⟨r, dr, _, rfl, er, r, x, ascOf ls, tabPairs ls fn, nm, v, rfl, ro18, pl15.ext x58, inAsc tab mn, by omega, .inr ⟨nk _ x58, fun H19 d19 s19 ed19 => ⟨d19, rfl, .inr (.inl ⟨rfl, v, ed19, fun tt H20 s20 e20 => ?_⟩)⟩⟩⟩
      walk_at "go"
      intro tu H21 htu s21 e21
      refine ⟨tt, tu, _, rfl, rfl, s21 _ _ e20, e21, fun u hu => ?_, ?_⟩
      · simp only [List.mem_cons, List.not_mem_nil, or_false] at hu
        rcases hu with rfl | rfl | rfl
        · exact .inl rfl
        · exact pv
        · exact .inl rfl
      refine ⟨false, rfl, ?_⟩
      walk_at "go"
      have s18 := (s19.trans s20).trans s21
      exact ⟨_, rfl, x58.trans (ext_of s18), tabs_same t18 s18⟩
    rintro σ H16 ⟨z7, rfl, x16, t16⟩
    have p16 := p15.ext x16
    have d16 := x16 _ _ d15 fun ps z => nomatch z
    have pl16 := pl15.ext x16
    have ro16 := ro15.ext x16
    have l16 := x16 _ _ l15 fun ps z => nomatch z
    clear kinds t15 p15 d15 pl15 ro15 l15 e15 x16
    walk_at "go"
    refine ⟨g, _, lt, _, rfl, l16, by rw [List.length_map]; exact fl.pos, by rw [List.length_map]; omega, p16, by omega, nlp, fun v H17 hv p17 k17 => ?_⟩
    obtain ⟨k1, hk1, rfl⟩ := List.mem_map.mp hv
    have t17 := tabs_pen t16 p16 k17
    have d17 := k17 _ _ d16 ndp
    have pl17 := pl16.pen p16 k17
    have ro17 := ro16.pen p16 k17
    clear t16 p16 d16 pl16 ro16 l16 k17
    walk_at "go"
    refine ⟨g, 4, _, rfl, by omega, by omega, p17, by omega, fun z H18 z0 z1 p18 k18 => ?_⟩
    have t18 := tabs_pen t17 p17 k18
    have d18 := k18 _ _ d17 ndp
    have pl18 := pl17.pen p17 k18
    have ro18 := ro17.pen p17 k18
    clear t17 p17 d17 pl17 ro17 k18
    walk_at "go"
    intro tp2 H19 htp2 s19 e19
    refine v_gTup2 rfl e19 ?_
    have t19 := tabs_same t18 s19
    have p19 := p18.same s19
    have d19 := s19 _ _ d18
    have pl19 := pl18.same s19
    have ro19 := ro18.same s19
    clear t18 p18 d18 pl18 ro18 e19 s19
    obtain ⟨L, hL, L1, L2'⟩ : ∃ L : Nat, (1999 + z : Int) = (L : Nat) ∧ 1999 ≤ L ∧ L < 2003 := ⟨(1999 + z).toNat, by omega, by omega, by omega⟩
    rw [hL]
    refine (show tSeq _ _ _ [some (.ref sc), some (.ref g.p), some (.int (i : Nat)), some (.ref d), some (.ref x), some (.ref lt), some (.ref r), z7, some (.str (tx [k1])), some (.int (L : Nat)), x10, x11, none, none, none, none] _ from ?_)
    walk_at "go"
    refine ⟨g, _, d, ls, fn, 30, rfl, p19, by omega, ndp, d19, tab, fl.pos, by omega, fun w30 H20 m30 l30 p20 k20 => ?_⟩
    have t20 := tabs_pen t19 p19 k20
    have d20 := k20 _ _ d19 ndp
    have pl20 := pl19.pen p19 k20
    have ro20 := ro19.pen p19 k20
    clear t19 p19 d19 pl19 ro19 k20
    walk_at "go"
    refine v_mulS (by decide) (by decide) (by show 1 * 2 ≤ 1000000; decide) ?_
    rw [show (List.replicate (Int.toNat 2) [k1]).flatten = [k1, k1] from rfl]
    have lb : w30.length + [k1, k1].length ≤ 1000000 := by show w30.length + 2 ≤ 1000000; omega
    walk_at "go"
    have mb : ∀ y ∈ w30 ++ [k1, k1], y ∈ ls := fun y hy => by
      rcases List.mem_append.mp hy with h | h
      · exact m30 y h
      · simp only [List.mem_cons, List.not_mem_nil, or_false] at h
        rcases h with rfl | rfl <;> exact hk1
    have lbg : (w30 ++ [k1, k1]).length ≤ 32 := by rw [List.length_append]; show w30.length + 2 ≤ 32; omega
    generalize w30 ++ [k1, k1] = bg at mb lbg
    intro q4 H21 hq4 s21 e21
    refine ⟨g, _, q4, _, rfl, e21, by simp, by simp, p20.same s21, by omega, (p20.p_ne hq4).symm, fun v H22 hv p22 k22 => ?_⟩
    obtain ⟨oc, hoc, rfl⟩ : ∃ oc : Nat, oc ∈ [65, 95, 32, 126, 49, 105, 63] ∧ v = .str (tx [oc]) := by
      simp only [List.mem_cons, List.not_mem_nil, or_false] at hv
      rcases hv with rfl | rfl | rfl | rfl | rfl | rfl
      · exact ⟨65, by decide, rfl⟩
      · exact ⟨95, by decide, rfl⟩
      · exact ⟨32, by decide, rfl⟩
      · exact ⟨126, by decide, rfl⟩
      · exact ⟨49, by decide, rfl⟩
      · exact ⟨105, by decide, rfl⟩
    have k22 := (Keep.of s21).trans k22
    have t22 := tabs_pen t20 p20 k22
    have d22 := k22 _ _ d20 ndp
    have pl22 := pl20.pen p20 k22
    have ro22 := ro20.pen p20 k22
    clear t20 p20 d20 pl20 ro20 e21 s21 k22
    have l1 : bg.length + [oc].length ≤ 1000000 := by show bg.length + 1 ≤ 1000000; omega
    refine v_addS l1 ?_
    walk_at "go"
    have hmul : [k1].length * (((L : Nat) : Int)).toNat ≤ 1000000 := by show 1 * L ≤ 1000000; omega
    refine v_mulS (by omega) (by omega) hmul ?_
    have erep : (List.replicate (((L : Nat) : Int)).toNat [k1]).flatten = List.replicate L k1 := by
      rw [Int.toNat_natCast]
      generalize L = n
      induction n with
      | zero => rfl
      | succ n ih => rw [List.replicate_succ, List.flatten_cons, ih]; rfl
    rw [erep]
    have l2 : (bg ++ [oc]).length + (List.replicate L k1).length ≤ 1000000 := by rw [List.length_append, List.length_replicate]; show bg.length + 1 + L ≤ 1000000; omega
    refine v_addS l2 ?_
    have noc : ¬ oc ∈ ascOf ls := fun h => nin oc (ascOf_mem.mp h).2 hoc
    have ropl : ∀ c ∈ List.replicate L k1, c ∈ ascOf ls := fun c hc => by
      rw [(List.mem_replicate.mp hc).2]
      exact inAsc tab (fun c hc => by rw [List.mem_singleton.mp hc]; exact hk1) k1 (List.mem_singleton.mpr rfl)
    have l3 : bg.length ≤ 1000000 := by omega
    walk_at "go"
    intro td H23 htd s23 e23
    have t23 := tabs_same t22 s23
    have pl23 := pl22.same s23
    have ro23 := ro22.same s23
    refine ⟨x, r, x, _, td, ascOf ls, tabPairs ls fn, nm, .bad bg.length, rfl, t23, pl23, pl23, ro23, inAsc tab mn, by omega, fun H' e => .inr ⟨bg, oc, List.replicate L k1, by rw [List.append_assoc]; rfl, inAsc tab mb, noc, rfl, by rw [List.length_append, List.length_cons, List.length_replicate]; omega⟩, fun H' e => .inl ⟨_, rfl⟩, .inl ⟨bg.length, rfl, e23⟩, fun H24 x24 t24 => ?_⟩
    have x24 := (ext_of s23).trans x24
    have p24 := p22.ext x24
    have d24 := x24 _ _ d22 fun ps z => nomatch z
    have pl24 := pl22.ext x24
    have ro24 := ro22.ext x24
    clear t22 p22 d22 pl22 ro22 t23 pl23 ro23 e23 s23 x24
    walk_at "go"
    refine s_cut (fun σ' H' => σ' = [some (.ref sc), some (.ref g.p), some (.int (i : Nat)), some (.ref d), some (.ref x), some (.ref lt), some (.ref r), z7, some (.str (tx [k1])), some (.int (L : Nat)), some (.str (tx bg)), some (.str (tx (bg ++ [oc] ++ List.replicate L k1))), none, none, none, none] ∧ LamX.ExtN H24 H' ∧ LamX.Tabs Ts H') ?_ ?_
    · walk_at "go"
      refine if_dec (fun c => ?_) (fun c => ?_)
      · walk_at "go"
        refine v_mulS (by omega) (by omega) hmul ?_
        rw [erep]
        walk_at "go"
        intro td2 H25 htd2 s25 e25
        have pl25 := pl24.same s25
        have ro25 := ro24.same s25
        refine ⟨x, r, x, _, td2, ascOf ls, tabPairs ls fn, nm, .long L, rfl, tabs_same t24 s25, pl25, pl25, ro25, inAsc tab mn, by omega, fun H' e => ⟨_, rfl, ropl, by rw [List.length_replicate]; omega, by rw [List.length_replicate]; omega, List.length_replicate.symm⟩, fun H' e => .inl ⟨_, rfl⟩, .inr ⟨L, rfl, e25⟩, fun H26 x26 t26 => ?_⟩
        walk_at "go"
        exact ⟨rfl, (ext_of s25).trans x26, t26⟩
      · walk_at "go"
        refine ⟨t24, fun H25 x25 t25 => ?_⟩
        try unfold TT3
        try dsimp only
        walk_at "go"
        refine v_mulS (by omega) (by omega) hmul ?_
        rw [erep]
        walk_at "go"
        refine ⟨x, ascOf ls, tabPairs ls fn, _, .good (List.replicate L k1), rfl, pl24.ext x25, fun H' e => ⟨rfl, ropl, by rw [List.length_replicate]; omega⟩, ⟨fun i e => (nomatch e), fun i e => (nomatch e)⟩, fun way e r2 H26 hr2 s26 ro26 => ?_⟩
        cases e
        have hcr : ¬ k1 ∈ crossOf (ascOf ls) (tabPairs ls fn) k1 := fun h => (tab.sub k1 hk1 k1 ((cross_tab tab hk1 hk1).mp h)).2.1 rfl
        have jr := join_rep hcr L
        refine v_rlen ro26 (by rw [jr]; omega) ?_
        rw [jr]
        walk_at "go"
        refine if_nI (congrArg V.int (by omega)) ?_
        walk_at "go"
        exact ⟨rfl, x25.trans (ext_of s26), tabs_same t25 s26⟩
    rintro σ' H25 ⟨rfl, x25, t25⟩
    have p25 := p24.ext x25
    have pl25 := pl24.ext x25
    have ro25 := ro24.ext x25
    clear t24 p24 d24 pl24 ro24 x25
    walk_at "go"
    refine ⟨t25, fun H26 x26 t26 => ?_⟩
    have ro26 := ro25.ext x26
    obtain ⟨dr, er⟩ := ro26.ex
    try unfold TT3
    try dsimp only
    have l4 : bg.length + [63].length ≤ 1000000 := by show bg.length + 1 ≤ 1000000; omega
    walk_at "go"
    refine ⟨r, dr, _, _, rfl, rfl, er, r, x, ascOf ls, tabPairs ls fn, nm, _, .bad bg.length, rfl, ro26, pl25.ext x26, inAsc tab mn, by omega, fun H' e => .inr ⟨bg, 63, [], rfl, inAsc tab mb, fun h => nin 63 (ascOf_mem.mp h).2 (by decide), rfl, by rw [List.length_append]; show bg.length + 1 ≤ 100000; omega⟩, ⟨fun n e H27 d27 s27 ed27 => ⟨d27, rfl, .inl ⟨rfl, _, ed27, fun tt H28 s28 e28 => ?_⟩⟩, fun n e => (nomatch e)⟩, fun way e => (nomatch e)⟩
    cases e
    walk_at "go"
    intro tu H29 htu s29 e29
    refine ⟨tt, tu, _, rfl, rfl, s29 _ _ e28, e29, pl3, ?_⟩
    refine ⟨false, rfl, ?_⟩
    walk_at "go"
    have s2629 := (s27.trans s28).trans s29
    exact hDn _ _ ⟨_, _, _, _, _, _, _, _, _, _, rfl, ((p25.ext x26).same s2629).mono (by omega), tabs_same t26 s2629⟩
  · rintro σ H2 ⟨x2, x3, x4, x5, x6, x7, x8, x9, x10, x11, rfl, p2, t2⟩
    walk_at "go"
    intro q5 H3 hq5 s3 e3
    have t3 := tabs_same t2 s3
    have p3 := p2.same s3
    clear t2 p2 s3
    refine ⟨[99, 97, 116], q5, [[99, 116]], rfl, ⟨.inl e3, by decide, fun p hp => ⟨99, 116, List.mem_singleton.mp hp, by decide, by decide, by decide⟩, by decide +kernel, by decide, by decide⟩, fun y H4 hy s4 pl4 _ => ?_⟩
    have pl4 : PlanAt C H4 y catK catP := by
      have e1 : kindsOf [99, 97, 116] = catK := by decide +kernel
      have e2 : prsOf [[99, 116]] = catP := by decide +kernel
      rw [e1, e2] at pl4
      exact pl4
    have t4 := tabs_same t3 s4
    have p4 := p3.same s4
    clear t3 p3 e3 s4
    walk_at "go"
    refine v_mulS (by decide) (by decide) (by show 2 * 1000 ≤ 1000000; decide) ?_
    rw [show (List.replicate (Int.toNat 1000) [99, 97]).flatten = alt 1000 from alt_rep 1000]
    walk_at "go"
    have al := alt_len 1000
    refine ⟨y, catK, catP, alt 1000, rfl, pl4, alt_mem 1000, by omega, fun W H5 hW s5 ro5 => ?_⟩
    have ro5 : RoomAt R H5 W y (alt (998 + 2)) := by
      have := ro5
      rw [alt_join] at this
      exact this
    have pl5 := pl4.same s5
    have t5 := tabs_same t4 s5
    have p5 := p4.same s5
    clear t4 p4 pl4 s5
    have am := alt_mem (998 + 2)
    have al : (alt (998 + 2)).length = 2000 := alt_len _
    refine (show tSeq _ _ _ [some (.ref sc), some (.ref g.p), x2, x3, x4, x5, x6, x7, x8, x9, x10, x11, some (.ref y), some (.ref W), none, none] _ from ?_)
    walk_at "go"
    refine v_rlen ro5 (by omega) ?_
    rw [al]
    walk_at "go"
    refine if_nI rfl ?_
    walk_at "go"
    refine ⟨t5, fun H6 x6 t6 => ?_⟩
    have ro6 := ro5.ext x6
    have pl6 := pl5.ext x6
    have p6 := p5.ext x6
    obtain ⟨d6, er6⟩ := ro6.ex
    clear t5 p5 pl5 ro5 x6
    try unfold TT3
    try dsimp only
    walk_at "go"
    refine ⟨W, d6, _, _, rfl, rfl, er6, W, y, catK, catP, alt (998 + 2), _, .good [97, 116], rfl, ro6, pl6, am, by omega, fun H' e => ⟨rfl, by decide, by decide⟩, ⟨fun i e => (nomatch e), fun i e => (nomatch e)⟩, fun way e => ?_⟩
    cases e
    have le1 : (alt (998 + 1) ++ [99, 116]).length = 2000 := by rw [List.length_append, alt_len]; rfl
    rw [alt_at]
    refine ⟨fun lq r7 H7 hr7 s7 ro7 => ?_, fun lq => by omega⟩
    rw [alt_at2] at ro7
    refine v_rlen ro7 (by omega) ?_
    rw [le1]
    walk_at "go"
    refine if_nI rfl ?_
    have t7 := tabs_same t6 s7
    have p7 := p6.same s7
    have pl7 := pl6.same s7
    have roW := ro6.same s7
    clear t6 p6 pl6 ro6 er6 s7 ro7
    walk_at "go"
    refine ⟨t7, fun H8 x8' t8 => ?_⟩
    have ro8 := roW.ext x8'
    have pl8 := pl7.ext x8'
    have p8 := p7.ext x8'
    obtain ⟨d8, er8⟩ := ro8.ex
    clear t7 p7 pl7 roW x8'
    try unfold TT3
    try dsimp only
    walk_at "go"
    have l2001 : (stepOf (crossOf catK catP 116) (alt (998 + 2)) 116).length = 2001 := by
      rw [show (998 + 2 : Nat) = 999 + 1 from rfl, alt_t, List.length_append, alt_len]
      rfl
    refine ⟨W, d8, _, rfl, er8, W, y, catK, catP, alt (998 + 2), _, rfl, ro8, pl8, am, by omega, .inl ⟨116, by decide, rfl, fun lq => by omega, fun lq H9 d9 s9 e9 => ⟨d9, rfl, .inr (.inr ⟨rfl, _, e9, fun tt H10 s10 e10 => ?_⟩)⟩⟩⟩
    rw [l2001] at e10
    walk_at "go"
    intro tu H11 htu s11 e11
    refine ⟨tt, tu, _, rfl, rfl, s11 _ _ e10, e11, pl3, ?_⟩
    refine ⟨false, rfl, ?_⟩
    have s811 := (s9.trans s10).trans s11
    have t11 := tabs_same t8 s811
    have p11 := p8.same s811
    have pl11 := pl8.same s811
    have ro11 := ro8.same s811
    clear t8 p8 pl8 ro8 er8 s9 s10 s11 s811 e9 e10 e11
    walk_at "go"
    refine ⟨t11, fun H12 x12 t12 => ?_⟩
    have ro12 := ro11.ext x12
    have pl12 := pl11.ext x12
    have p12 := p11.ext x12
    obtain ⟨d12, er12⟩ := ro12.ex
    clear t11 p11 pl11 ro11 x12
    try unfold TT3
    try dsimp only
    walk_at "go"
    have l1999 : (alt (998 + 1) ++ [99]).length = 1999 := by rw [List.length_append, alt_len]; rfl
    have ec : stepOf (crossOf catK catP 97) (alt (998 + 2)) 97 = alt (998 + 1) ++ [99] := alt_cut _
    refine ⟨W, d12, _, rfl, er12, W, y, catK, catP, alt (998 + 2), _, rfl, ro12, pl12, am, by omega, .inl ⟨97, by decide, rfl, fun lq r13 H13 hr13 s13 ro13 => ?_, fun lq => by rw [ec] at lq; omega⟩⟩
    rw [ec, alt_half] at ro13
    refine v_rlen ro13 (by omega) ?_
    rw [l1999]
    walk_at "go"
    refine if_nI rfl ?_
    have t13 := tabs_same t12 s13
    have p13 := p12.same s13
    have pl13 := pl12.same s13
    have roW13 := ro12.same s13
    clear t12 p12 pl12 ro12 er12 s13 ro13
    walk_at "go"
    have hm5 : (2 + (if ((ns.map V.int).length : Int) < 3 then ((ns.map V.int).length : Int) else 3)).toNat ≤ 5 := by split <;> omega
    refine ⟨g, 40, _, rfl, by omega, by omega, p13, by omega, fun z H14 z0 z1 p14 k14 => ?_⟩
    have t14 := tabs_pen t13 p13 k14
    have pl14 := pl13.pen p13 k14
    have ro14 := roW13.pen p13 k14
    clear t13 p13 pl13 roW13 k14 p14
    obtain ⟨m, hmz, hm40⟩ : ∃ m : Nat, z = (m : Nat) ∧ m < 40 := ⟨z.toNat, by omega, by omega⟩
    subst hmz
    walk_at "go"
    refine if_dec (fun c => ?_) (fun c => ?_)
    · have m0 : m = 0 := by
        have := V.int.inj c
        omega
      walk_at "go"
      refine ⟨t14, fun HA xA tA => ?_⟩
      have roA := ro14.ext xA
      have plA := pl14.ext xA
      obtain ⟨dA, erA⟩ := roA.ex
      try unfold TT3
      try dsimp only
      walk_at "go"
      refine ⟨W, dA, _, _, rfl, rfl, erA, W, y, catK, catP, alt (998 + 2), _, .good [116, 99, 97], rfl, roA, plA, am, by omega, fun H' e => ⟨rfl, by decide, by decide⟩, ⟨fun i e => (nomatch e), fun i e => (nomatch e)⟩, fun way e => ?_⟩
      cases e
      have lt : (joinOf catK catP (alt (998 + 2)) [116, 99, 97]).length = 2003 := by
        rw [show (998 + 2 : Nat) = 999 + 1 from rfl, alt_tca, List.length_append, alt_len]
        rfl
      refine ⟨fun lq => by omega, fun lq HB dB sB eB => ⟨dB, rfl, .inr (.inr ⟨rfl, _, eB, fun tt HC sC eC => ?_⟩)⟩⟩
      rw [lt] at eC
      walk_at "go"
      intro tu HD htu sD eD
      refine ⟨tt, tu, _, rfl, rfl, sD _ _ eC, eD, pl3, ?_⟩
      refine ⟨false, rfl, ?_⟩
      have sAD := (sB.trans sC).trans sD
      have tD := tabs_same tA sAD
      have roD := roA.same sAD
      have plD := plA.same sAD
      walk_at "go"
      refine ⟨tD, fun HE xE tE => ?_⟩
      have roE := roD.ext xE
      obtain ⟨dE, erE⟩ := roE.ex
      have plE := plD.ext xE
      try unfold TT3
      try dsimp only
      walk_at "go"
      have hm2 : [116, 97].length * (((m : Nat) : Int)).toNat ≤ 1000000 := by show 2 * m ≤ 1000000; omega
      refine v_mulS (by omega) (by omega) hm2 ?_
      rw [Int.toNat_natCast]
      refine ⟨W, dE, _, _, rfl, rfl, erE, W, y, catK, catP, alt (998 + 2), _, .good (List.replicate m [116, 97]).flatten, rfl, roE, plE, am, by omega, fun H' e => ⟨rfl, tas_mem m, by rw [tas_len]; omega⟩, ⟨fun i e => (nomatch e), fun i e => (nomatch e)⟩, fun way e => ?_⟩
      cases e
      have lj : (joinOf catK catP (alt (998 + 2)) (List.replicate m [116, 97]).flatten).length = 2000 + 2 * m := by
        obtain ⟨v, ev⟩ := alt_end (997 + 2)
        have ev : alt (998 + 2) = v ++ [97] := ev
        rw [ev, alt_tas, ← ev, List.length_append, tas_len]
        omega
      refine ⟨fun lq r15 HF hr15 sF roF => ?_, fun lq => by omega⟩
      subst m0
      have roF : RoomAt R HF r15 y (alt (998 + 2)) := by
        have e0 : joinOf catK catP (alt (998 + 2)) (List.replicate 0 [116, 97]).flatten = alt (998 + 2) := rfl
        rw [e0, alt_join] at roF
        exact roF
      refine v_rlen roF (by omega) ?_
      rw [al]
      walk_at "go"
      refine .inl ⟨rfl, ?_⟩
      exact k HF
    · have m1 : 0 < m := by
        rcases Nat.eq_zero_or_pos m with e | e
        · exact absurd (by rw [e]; rfl) c
        · exact e
      walk_at "go"
      intro du H15 hdu s15 e15
      have t15 := tabs_same t14 s15
      have ro15 := ro14.same s15
      have pl15 := pl14.same s15
      walk_at "go"
      refine ⟨t15, fun HA xA tA => ?_⟩
      have roA := ro15.ext xA
      have plA := pl15.ext xA
      obtain ⟨dA, erA⟩ := roA.ex
      try unfold TT3
      try dsimp only
      walk_at "go"
      refine ⟨W, dA, _, _, rfl, rfl, erA, W, y, catK, catP, alt (998 + 2), _, .good [116, 99, 97], rfl, roA, plA, am, by omega, fun H' e => ⟨rfl, by decide, by decide⟩, ⟨fun i e => (nomatch e), fun i e => (nomatch e)⟩, fun way e => ?_⟩
      cases e
      have lt : (joinOf catK catP (alt (998 + 2)) [116, 99, 97]).length = 2003 := by
        rw [show (998 + 2 : Nat) = 999 + 1 from rfl, alt_tca, List.length_append, alt_len]
        rfl
      refine ⟨fun lq => by omega, fun lq HB dB sB eB => ⟨dB, rfl, .inr (.inr ⟨rfl, _, eB, fun tt HC sC eC => ?_⟩)⟩⟩
      rw [lt] at eC
      walk_at "go"
      intro tu HD htu sD eD
      refine ⟨tt, tu, _, rfl, rfl, sD _ _ eC, eD, pl3, ?_⟩
      refine ⟨false, rfl, ?_⟩
      have sAD := (sB.trans sC).trans sD
      have tD := tabs_same tA sAD
      have roD := roA.same sAD
      have plD := plA.same sAD
      walk_at "go"
      refine ⟨tD, fun HE xE tE => ?_⟩
      have roE := roD.ext xE
      obtain ⟨dE, erE⟩ := roE.ex
      have plE := plD.ext xE
      try unfold TT3
      try dsimp only
      walk_at "go"
      have hm2 : [116, 97].length * (((m : Nat) : Int)).toNat ≤ 1000000 := by show 2 * m ≤ 1000000; omega
      refine v_mulS (by omega) (by omega) hm2 ?_
      rw [Int.toNat_natCast]
      refine ⟨W, dE, _, _, rfl, rfl, erE, W, y, catK, catP, alt (998 + 2), _, .good (List.replicate m [116, 97]).flatten, rfl, roE, plE, am, by omega, fun H' e => ⟨rfl, tas_mem m, by rw [tas_len]; omega⟩, ⟨fun i e => (nomatch e), fun i e => (nomatch e)⟩, fun way e => ?_⟩
      cases e
      have lj : (joinOf catK catP (alt (998 + 2)) (List.replicate m [116, 97]).flatten).length = 2000 + 2 * m := by
        obtain ⟨v, ev⟩ := alt_end (997 + 2)
        have ev : alt (998 + 2) = v ++ [97] := ev
        rw [ev, alt_tas, ← ev, List.length_append, tas_len]
        omega
      refine ⟨fun lq => by omega, fun lq HF dF sF eF => ⟨dF, rfl, .inr (.inr ⟨rfl, _, eF, fun tt2 HG sG eG => ?_⟩)⟩⟩
      rw [lj, show ((2000 + 2 * m : Nat) : Int) = 2000 + 2 * (m : Int) by omega] at eG
      have eDu := sG _ _ (sF _ _ (xE _ _ (sAD _ _ (xA _ _ e15 fun ps z => nomatch z)) fun ps z => nomatch z))
      walk_at "go"
      exact .inr ⟨tt2, du, _, rfl, rfl, eG, eDu, pl3, k HG⟩
end
end
section
open PySem PySem.Spec L2
abbrev stIW : Stmt := (inClass (top 8) 0)
abbrev stIK : Stmt := (inClass (top 7) 0)
abbrev stTL : Stmt := (inClass (top 11) 0)
theorem end10 {w : World} {K : PySem.W.Frag} {mg : Str → Option Value} {C R O IW IK TL G fa e0 c1 c2 P1 P2 : Addr} {fd : FuncData} {t1 t2 t3 : Tok} {dd0 : Option Addr} {n0 : Nat} {sl0 : Array (Option Value)}
    (c_Plan : ClsF K mg "Plan" C)
    (c_Room : ClsF K mg "Room" R)
    (e_OtherPlan : ExcF K mg "OtherPlan" O)
    (E_InvalidWay : ExcE PySem.Challenge.pw_crosswalls_k10_rooms_refused K mg "InvalidWay" IW "InvalidWay.__init__" stIW)
    (E_InvalidKind : ExcE PySem.Challenge.pw_crosswalls_k10_rooms_refused K mg "InvalidKind" IK "InvalidKind.__init__" stIK)
    (E_TooLong : ExcE PySem.Challenge.pw_crosswalls_k10_rooms_refused K mg "TooLong" TL "TooLong.__init__" stTL)
    (F_stepped : FnAt K mg "stepped" ststepped)
    (F_joined : FnAt K mg "joined" stjoined)
    (F_is_list : FnAt K mg "is_list" stis_list)
    (F_is_kind : FnAt K mg "is_kind" stis_kind)
    (F_need_kind : FnAt K mg "need_kind" stneed_kind)
    (F_need_way : FnAt K mg "need_way" stneed_way)
    (F_are_letters : FnAt K mg "are_letters" stare_letters)
    (F_ascending : FnAt K mg "ascending" stascending)
    (F_checked_pairs : FnAt K mg "checked_pairs" stchecked_pairs)
    (F_need_few : FnAt K mg "need_few" stneed_few)
    (F_crossing_table : FnAt K mg "crossing_table" stcrossing_table)
    (F_pen : FnAt K mg "_law_pen" stpen)
    (F_draw : FnAt K mg "_law_draw" stdraw)
    (F_pick : FnAt K mg "_law_pick" stpick)
    (F_shuffled : FnAt K mg "_law_shuffled" stshuffled)
    (F_floor : FnAt K mg "_law_floor" stfloor)
    (F_made : FnAt K mg "_law_made" stmade)
    (F_walk : FnAt K mg "_law_walk" stwalk)
    (F_told : FnAt K mg "_law_told" sttold)
    (F_ways : FnAtC K mg "_law_ways_right" stways c1)
    (F_law : FunC K "law" "law" stlaw fa fd c2)
    (F_Plan_init : MAtD K C "__init__" "Plan.__init__" stPlan_init [.ref e0])
    (F_Room_init : MAtD K R "__init__" "Room.__init__" stRoom_init [.str (tx [])])
    (F_Room_len : MAt K R "__len__" "Room.__len__" stRoom_len)
    (F_Room_addE : MAt K R "__add__" "Room.__add__" stRoom_addE)
    (F_Room_getE : MAt K R "__getitem__" "Room.__getitem__" stRoom_getE)
    (z_len : mg "len" = none)
    (z_int : mg "int" = none)
    (z_list : mg "list" = none)
    (z_isinstance : mg "isinstance" = none)
    (z_str : mg "str" = none)
    (z_all : mg "all" = none)
    (z_set : mg "set" = none)
    (z_tuple : mg "tuple" = none)
    (z_enumerate : mg "enumerate" = none)
    (z_range : mg "range" = none)
    (z_min : mg "min" = none)
    (z_super : mg "super" = none)
    (n_C_kinds : NoAttr K C "kinds")
    (n_C_pairs : NoAttr K C "pairs")
    (n_C_own_crossing : NoAttr K C "own_crossing")
    (n_R_plan : NoAttr K R "plan")
    (n_R_name : NoAttr K R "name")
    (g_LETTERS : mg "LETTERS" = some (.str (tx LET) t1))
    (g_MOST_KINDS : mg "MOST_KINDS" = some (.int 8 t2))
    (g_MOST_LETTERS : mg "MOST_LETTERS" = some (.int 2000 t3))
    (g_FloorError : mg "FloorError" = some (.ref G))
    (ke0 : K.lookup e0 = some ⟨.type "tuple", dd0, .seq #[] n0, sl0⟩)
    (kRs : PySem.W.selfFirst K R = true)
    (kRa : PySem.W.findIn K (.ref R) (PySem.dunderR "add") = some none)
    (kWi : PySem.W.findIn K (.ref IW) "index" = some none)
    (kKv : PySem.W.findIn K (.ref IK) "value" = some none)
    (kLl : PySem.W.findIn K (.ref TL) "length" = some none)
    (kGc : PySem.W.isClsIn K G = true)
    (kGt : PySem.W.typeIn K (.ref G) = some (.type "type"))
    (kWG : PySem.W.subIn K (.ref IW) (.ref G) = some true)
    (kKG : PySem.W.subIn K (.ref IK) (.ref G) = some true)
    (kLG : PySem.W.subIn K (.ref TL) (.ref G) = some true)
    (sIWIW : PySem.W.subIn K (.ref IW) (.ref IW) = some true)
    (sIKIW : PySem.W.subIn K (.ref IK) (.ref IW) = some false)
    (sIKIK : PySem.W.subIn K (.ref IK) (.ref IK) = some true)
    (sTLIW : PySem.W.subIn K (.ref TL) (.ref IW) = some false)
    (sTLIK : PySem.W.subIn K (.ref TL) (.ref IK) = some false)
    (sTLTL : PySem.W.subIn K (.ref TL) (.ref TL) = some true)
    (kC1 : PySem.W.kitOne K (.ref C) (.type "str") = some false)
    (kR1 : PySem.W.kitOne K (.ref R) (.type "str") = some false)
    (rN : RightT K R (.type "NoneType"))
    (rI : RightT K R (.type "int"))
    (rB : RightT K R (.type "bool"))
    (rL : RightT K R (.type "list"))
    (rT : RightT K R (.type "tuple"))
    (rD : RightT K R (.type "dict"))
    (rC : RightT K R (.ref C)) (hP : P1 ≠ P2) (base : Heap) (TB1 : LamX.TabB base mg c1 P1) (TB2 : LamX.TabB base mg c2 P2) : FnOk PySem.Challenge.pw_crosswalls_k10_rooms_refused w K mg base CX0 11 fa fd ["_law_script"] (spLawT K [(P1, ("_law_ways_right" : Str) ++ ".<locals>." ++ "<lambda>"), (P2, ("law" : Str) ++ ".<locals>." ++ "<lambda>")]) := by
  have T : Txt K mg := ⟨z_len, z_int, z_list⟩
  have TP : TxtP K mg C := ⟨z_len, z_int, z_list, z_isinstance, z_str, z_all, z_set, z_tuple, ⟨_, g_LETTERS⟩, ⟨_, g_MOST_KINDS⟩, c_Plan, n_C_kinds, n_C_pairs, n_C_own_crossing⟩
  have TR : TxtR K mg C R O := ⟨TP, z_enumerate, ⟨_, g_MOST_LETTERS⟩, c_Room, n_R_plan, n_R_name, e_OtherPlan⟩
  have TH : TxtH K mg := ⟨T, z_range⟩
  have ex : ∀ {A B : Addr} {b : Bool} {x q : Str} {s : Stmt}, ExcE PySem.Challenge.pw_crosswalls_k10_rooms_refused K mg x B q s → PySem.W.subIn K (.ref A) (.ref B) = some b → PySem.W.exmOne K (.ref A) (.ref B) = some b := fun E h => PySem.W.exm_ref E.ec.hs E.ec.hd E.oex.tyC h
  have T3 : Txt3 PySem.Challenge.pw_crosswalls_k10_rooms_refused K mg C R O IW IK TL G stIW stIK stTL := { TR with eW := E_InvalidWay, eK := E_InvalidKind, eL := E_TooLong, IW_index := kWi, IK_value := kKv, TL_length := kLl, FloorError := g_FloorError, sW := kit_ref kGc kGt kWG (.inr rfl), sK := kit_ref kGc kGt kKG (.inr rfl), sL := kit_ref kGc kGt kLG (.inr rfl), ww := ex E_InvalidWay sIWIW, kw := ex E_InvalidWay sIKIW, kk := ex E_InvalidKind sIKIK, lw := ex E_InvalidWay sTLIW, lk := ex E_InvalidKind sTLIK, ll := ex E_TooLong sTLTL }
  have T4 : Txt4 PySem.Challenge.pw_crosswalls_k10_rooms_refused K mg C R O IW IK TL G stIW stIK stTL := { T3 with sf := kRs, ra := kRa }
  have T5 : Txt5 PySem.Challenge.pw_crosswalls_k10_rooms_refused K mg C R O IW IK TL G stIW stIK stTL := { T4 with range := z_range, min := z_min, kC := kC1, kR := kR1, rN := rN, rI := rI, rB := rB, rL := rL, rT := rT, rD := rD, rC := rC, I_get := F_Room_getE.fnIn }
  have D_draw := ok_draw (P := PySem.Challenge.pw_crosswalls_k10_rooms_refused) (w := w) (base := base) F_draw T
  have D_pen := ok_pen (P := PySem.Challenge.pw_crosswalls_k10_rooms_refused) (w := w) (base := base) F_pen T
  have D_are := ok_are_letters (P := PySem.Challenge.pw_crosswalls_k10_rooms_refused) (w := w) (base := base) F_are_letters TP
  have D_asc := ok_ascending (P := PySem.Challenge.pw_crosswalls_k10_rooms_refused) (w := w) (base := base) F_ascending TP
  have D_isl := ok_is_list (P := PySem.Challenge.pw_crosswalls_k10_rooms_refused) (w := w) (base := base) F_is_list TP
  have D_few := ok_need_few (P := PySem.Challenge.pw_crosswalls_k10_rooms_refused) (w := w) (base := base) F_need_few TP
  have D_chk := ok_checked_pairs F_checked_pairs TP D_isl D_are D_asc
  have D_tab := ok_crossing_table (P := PySem.Challenge.pw_crosswalls_k10_rooms_refused) (w := w) (base := base) F_crossing_table TP
  have X_Plan := ok_Plan F_Plan_init rfl TP D_are D_asc D_chk D_few D_tab
  have D_st := ok_stepped (P := PySem.Challenge.pw_crosswalls_k10_rooms_refused) (w := w) (base := base) F_stepped TP
  have D_jo := ok_joined F_joined D_st
  have D_nw := ok_need_way (P := PySem.Challenge.pw_crosswalls_k10_rooms_refused) (w := w) (base := base) F_need_way TR
  have X_Room := ok_Room F_Room_init rfl TR D_nw D_jo
  have M_len := ok_Room_len (P := PySem.Challenge.pw_crosswalls_k10_rooms_refused) (w := w) (mg := mg) (base := base) F_Room_len TR
  have X_IW := ok_E1 (w := w) (base := base) (k := 0) (fld := "index") (y := "index") E_InvalidWay z_super kWi rfl (NdefX.nscope_by (by decide +kernel)) rfl rfl rfl (fun kV doc pm an cda cc ct us hl => by
    match us, hl with
    | [_, _], _ => rfl) (fun env => rfl)
  have X_IK := ok_E1 (w := w) (base := base) (k := 0) (fld := "value") (y := "value") E_InvalidKind z_super kKv rfl (NdefX.nscope_by (by decide +kernel)) rfl rfl rfl (fun kV doc pm an cda cc ct us hl => by
    match us, hl with
    | [_, _], _ => rfl) (fun env => rfl)
  have X_TL := ok_E1 (w := w) (base := base) (k := 0) (fld := "length") (y := "length") E_TooLong z_super kLl rfl (NdefX.nscope_by (by decide +kernel)) rfl rfl rfl (fun kV doc pm an cda cc ct us hl => by
    match us, hl with
    | [_, _], _ => rfl) (fun env => rfl)
  have D_nwE := ok_need_wayE F_need_way TR X_IW X_TL
  have D_ikE := ok_is_kindE (P := PySem.Challenge.pw_crosswalls_k10_rooms_refused) (w := w) (base := base) F_is_kind TP
  have D_nkE := ok_need_kindE F_need_kind D_ikE X_IK
  have X_RoomE := ok_RoomE F_Room_init rfl TR D_nwE D_jo
  have M_addE := ok_Room_addE F_Room_addE TR D_nwE D_jo X_RoomE.cdef
  have M_getE := ok_Room_getE F_Room_getE TR D_nkE D_st X_RoomE.cdef
  have D_pick := ok_pick F_pick T D_draw
  have D_shuf := ok_shuffled F_shuffled T D_draw
  have D_floor := ok_floor F_floor TH D_draw D_pick
  have D_made := ok_made F_made TR D_draw D_shuf X_Plan.cdef
  have D_walk := ok_walk F_walk TH D_draw D_pick
  obtain ⟨u1, u2⟩ := of_two (q1 := ("_law_ways_right" : Str) ++ ".<locals>." ++ "<lambda>") (q2 := ("law" : Str) ++ ".<locals>." ++ "<lambda>") hP
  have D_ways := ok_ways F_ways F_told T4 TB1 (.head _) u1 M_len X_RoomE.cdef M_addE
  exact ok_law F_law F_told T5 TB2 (.tail _ (.head _)) u2 D_pen D_draw D_pick D_floor D_made D_walk D_ways X_Room.cdef X_Plan.cdef M_len X_RoomE.cdef M_addE M_getE
end
end Cw
set_option Elab.async false
set_option linter.all false
set_option maxRecDepth 100000
open PySem PySem.W PyProof.Rows
set_option maxRecDepth 100000 in
set_option maxHeartbeats 0 in
theorem PySem.Challenge.cw_crosswalls_k10_rooms_refused_holds : PySem.Challenge.rw_crosswalls_k10_rooms_refused.Holds := by
  refine Cw.headOf ?_
  k_fill
  refine Cw.end_walkT (l := PySem.Challenge.rw_crosswalls_k10_rooms_refused) (k := 11) (x := "_law_script") (P1 := 521) (P2 := 528) (q1 := ("_law_ways_right" : PySem.Str) ++ ".<locals>." ++ "<lambda>") (q2 := ("law" : PySem.Str) ++ ".<locals>." ++ "<lambda>") (sp := fun K => Cw.spLawT K [(521, ("_law_ways_right" : PySem.Str) ++ ".<locals>." ++ "<lambda>"), (528, ("law" : PySem.Str) ++ ".<locals>." ++ "<lambda>")]) rfl rfl ⟨rfl, by decide, by decide⟩ (fun w h Y => PySem.W.km_in_of Y) (fun w h Y => ⟨PySem.W.km_tabs_of Y 521 (by k_mem), PySem.W.km_tabs_of Y 528 (by k_mem)⟩) (fun w => ⟨by kernel_rfl, by kernel_rfl⟩) (fun _ _ a ns hl ht hS => ⟨a, ns, rfl, hS, hl, ht, fun _ => rfl⟩) ?F
  case F =>
    intro w mg fa h KX G hmg
    refine' ⟨_, _, _, ?e1, ?e2, fun s v => ?b, fun base _ _ TB1 TB2 => ?h⟩
    case h =>
      refine' Cw.end10 ?c_Plan ?c_Room ?e_OtherPlan ?E_InvalidWay ?E_InvalidKind ?E_TooLong ?F_stepped ?F_joined ?F_is_list ?F_is_kind ?F_need_kind ?F_need_way ?F_are_letters ?F_ascending ?F_checked_pairs ?F_need_few ?F_crossing_table ?F_pen ?F_draw ?F_pick ?F_shuffled ?F_floor ?F_made ?F_walk ?F_told ?F_ways ?F_law ?F_Plan_init ?F_Room_init ?F_Room_len ?F_Room_addE ?F_Room_getE ?z_len ?z_int ?z_list ?z_isinstance ?z_str ?z_all ?z_set ?z_tuple ?z_enumerate ?z_range ?z_min ?z_super ?n_C_kinds ?n_C_pairs ?n_C_own_crossing ?n_R_plan ?n_R_name ?g_LETTERS ?g_MOST_KINDS ?g_MOST_LETTERS ?g_FloorError ?ke0 ?kRs ?kRa ?kWi ?kKv ?kLl ?kGc ?kGt ?kWG ?kKG ?kLG ?sIWIW ?sIKIW ?sIKIK ?sTLIW ?sTLIK ?sTLTL ?kC1 ?kR1 ?rN ?rI ?rB ?rL ?rT ?rD ?rC (by decide) base TB1 TB2
      case c_Plan => refine' Cw.cls_mk KX G ?a ?pg ?hd ?po ?sa ?mk ?kc ?ha ?hn ?ht ?hm ?ob ?ne; (case a => k_is); (case pg => k_is); (case hd => k_is); (case po => k_is); (case sa => k_is); (case mk => k_is); (case kc => k_is); (case ha => k_is); (case hn => k_is); (case ht => k_is); (case hm => k_is); (case ob => k_is); (case ne => k_is)
      case c_Room => refine' Cw.cls_mk KX G ?a ?pg ?hd ?po ?sa ?mk ?kc ?ha ?hn ?ht ?hm ?ob ?ne; (case a => k_is); (case pg => k_is); (case hd => k_is); (case po => k_is); (case sa => k_is); (case mk => k_is); (case kc => k_is); (case ha => k_is); (case hn => k_is); (case ht => k_is); (case hm => k_is); (case ob => k_is); (case ne => k_is)
      case e_OtherPlan => refine' Cw.exc_mk KX G ?a ?e ?k ?ty ?hg ?hk ?hs ?hd ?ha ?hn ?ht ?hm; (case a => k_is); (case k => k_is); (case ty => k_is); (case hg => k_is); (case hk => k_is); (case hs => k_is); (case hd => k_is); (case ha => k_is); (case hn => k_is); (case ht => k_is); (case hm => k_is); (case e => k_exc)
      case E_InvalidWay => refine' Cw.exE_mk KX G ?a ?lk ?rv ?sa ?hs ?ty ?k ?hg ?hk ?hd ?ha ?hn ?ht ?hm ?fi ?ti ?lf ?cd ?par ?par2 ?lc ?v2 ?fe ?top ?lcc ?op ?up; (case a => k_is); (case lk => k_is); (case sa => k_is); (case hs => k_is); (case ty => k_is); (case k => k_is); (case hg => k_is); (case hk => k_is); (case hd => k_is); (case ha => k_is); (case hn => k_is); (case ht => k_is); (case hm => k_is); (case fi => k_is); (case ti => k_is); (case lf => k_is); (case cd => k_is); (case lc => k_is); (case lcc => k_is); (case op => k_is); (case rv => kernel_rfl); (case par => rfl); (case par2 => rfl); (case v2 => rfl); (case fe => kernel_rfl); (case top => kernel_rfl); (case up => kernel_rfl)
      case E_InvalidKind => refine' Cw.exE_mk KX G ?a ?lk ?rv ?sa ?hs ?ty ?k ?hg ?hk ?hd ?ha ?hn ?ht ?hm ?fi ?ti ?lf ?cd ?par ?par2 ?lc ?v2 ?fe ?top ?lcc ?op ?up; (case a => k_is); (case lk => k_is); (case sa => k_is); (case hs => k_is); (case ty => k_is); (case k => k_is); (case hg => k_is); (case hk => k_is); (case hd => k_is); (case ha => k_is); (case hn => k_is); (case ht => k_is); (case hm => k_is); (case fi => k_is); (case ti => k_is); (case lf => k_is); (case cd => k_is); (case lc => k_is); (case lcc => k_is); (case op => k_is); (case rv => kernel_rfl); (case par => rfl); (case par2 => rfl); (case v2 => rfl); (case fe => kernel_rfl); (case top => kernel_rfl); (case up => kernel_rfl)
      case E_TooLong => refine' Cw.exE_mk KX G ?a ?lk ?rv ?sa ?hs ?ty ?k ?hg ?hk ?hd ?ha ?hn ?ht ?hm ?fi ?ti ?lf ?cd ?par ?par2 ?lc ?v2 ?fe ?top ?lcc ?op ?up; (case a => k_is); (case lk => k_is); (case sa => k_is); (case hs => k_is); (case ty => k_is); (case k => k_is); (case hg => k_is); (case hk => k_is); (case hd => k_is); (case ha => k_is); (case hn => k_is); (case ht => k_is); (case hm => k_is); (case fi => k_is); (case ti => k_is); (case lf => k_is); (case cd => k_is); (case lc => k_is); (case lcc => k_is); (case op => k_is); (case rv => kernel_rfl); (case par => rfl); (case par2 => rfl); (case v2 => rfl); (case fe => kernel_rfl); (case top => kernel_rfl); (case up => kernel_rfl)
      case F_stepped => refine' Cw.fnAt_mk KX G ?a ?l ?c ?k; (case a => k_is); (case l => k_is); (case c => k_is); (case k => k_is)
      case F_joined => refine' Cw.fnAt_mk KX G ?a ?l ?c ?k; (case a => k_is); (case l => k_is); (case c => k_is); (case k => k_is)
      case F_is_list => refine' Cw.fnAt_mk KX G ?a ?l ?c ?k; (case a => k_is); (case l => k_is); (case c => k_is); (case k => k_is)
      case F_is_kind => refine' Cw.fnAt_mk KX G ?a ?l ?c ?k; (case a => k_is); (case l => k_is); (case c => k_is); (case k => k_is)
      case F_need_kind => refine' Cw.fnAt_mk KX G ?a ?l ?c ?k; (case a => k_is); (case l => k_is); (case c => k_is); (case k => k_is)
      case F_need_way => refine' Cw.fnAt_mk KX G ?a ?l ?c ?k; (case a => k_is); (case l => k_is); (case c => k_is); (case k => k_is)
      case F_are_letters => refine' Cw.fnAt_mk KX G ?a ?l ?c ?k; (case a => k_is); (case l => k_is); (case c => k_is); (case k => k_is)
      case F_ascending => refine' Cw.fnAt_mk KX G ?a ?l ?c ?k; (case a => k_is); (case l => k_is); (case c => k_is); (case k => k_is)
      case F_checked_pairs => refine' Cw.fnAt_mk KX G ?a ?l ?c ?k; (case a => k_is); (case l => k_is); (case c => k_is); (case k => k_is)
      case F_need_few => refine' Cw.fnAt_mk KX G ?a ?l ?c ?k; (case a => k_is); (case l => k_is); (case c => k_is); (case k => k_is)
      case F_crossing_table => refine' Cw.fnAt_mk KX G ?a ?l ?c ?k; (case a => k_is); (case l => k_is); (case c => k_is); (case k => k_is)
      case F_pen => refine' Cw.fnAt_mk KX G ?a ?l ?c ?k; (case a => k_is); (case l => k_is); (case c => k_is); (case k => k_is)
      case F_draw => refine' Cw.fnAt_mk KX G ?a ?l ?c ?k; (case a => k_is); (case l => k_is); (case c => k_is); (case k => k_is)
      case F_pick => refine' Cw.fnAt_mk KX G ?a ?l ?c ?k; (case a => k_is); (case l => k_is); (case c => k_is); (case k => k_is)
      case F_shuffled => refine' Cw.fnAt_mk KX G ?a ?l ?c ?k; (case a => k_is); (case l => k_is); (case c => k_is); (case k => k_is)
      case F_floor => refine' Cw.fnAt_mk KX G ?a ?l ?c ?k; (case a => k_is); (case l => k_is); (case c => k_is); (case k => k_is)
      case F_made => refine' Cw.fnAt_mk KX G ?a ?l ?c ?k; (case a => k_is); (case l => k_is); (case c => k_is); (case k => k_is)
      case F_walk => refine' Cw.fnAt_mk KX G ?a ?l ?c ?k; (case a => k_is); (case l => k_is); (case c => k_is); (case k => k_is)
      case F_told => refine' Cw.fnAt_mk KX G ?a ?l ?c ?k; (case a => k_is); (case l => k_is); (case c => k_is); (case k => k_is)
      case F_ways => refine' Cw.fnAtC_mk KX G ?a ?l ?c ?k; (case a => k_is); (case l => k_is); (case c => k_is); (case k => k_is)
      case F_law => refine' Cw.funC1_mk KX G hmg ?a ?l ?c ?k; (case a => k_is); (case l => k_is); (case c => k_is); (case k => k_is)
      case F_Plan_init => refine' Cw.mAtD_mk ?a ?i ?l ?c ?k ?t ?v ?d; (case a => k_is); (case i => k_is); (case l => k_is); (case c => k_is); (case k => k_is); (case t => k_is); (case v => exact .cons rfl .nil); (case d => intro z; cases z)
      case F_Room_init => refine' Cw.mAtD_mk ?a ?i ?l ?c ?k ?t ?v ?d; (case a => k_is); (case i => k_is); (case l => k_is); (case c => k_is); (case k => k_is); (case t => k_is); (case v => exact .cons ⟨_, rfl⟩ .nil); (case d => intro z; cases z)
      case F_Room_len => refine' Cw.mAt_mk ?a ?i ?l ?c ?k; (case a => k_is); (case i => k_is); (case l => k_is); (case c => k_is); (case k => k_is)
      case F_Room_addE => refine' Cw.mAt_mk ?a ?i ?l ?c ?k; (case a => k_is); (case i => k_is); (case l => k_is); (case c => k_is); (case k => k_is)
      case F_Room_getE => refine' Cw.mAt_mk ?a ?i ?l ?c ?k; (case a => k_is); (case i => k_is); (case l => k_is); (case c => k_is); (case k => k_is)
      case z_len => refine' PySem.W.mg_none_of KX G ?a; (case a => k_is)
      case z_int => refine' PySem.W.mg_none_of KX G ?a; (case a => k_is)
      case z_list => refine' PySem.W.mg_none_of KX G ?a; (case a => k_is)
      case z_isinstance => refine' PySem.W.mg_none_of KX G ?a; (case a => k_is)
      case z_str => refine' PySem.W.mg_none_of KX G ?a; (case a => k_is)
      case z_all => refine' PySem.W.mg_none_of KX G ?a; (case a => k_is)
      case z_set => refine' PySem.W.mg_none_of KX G ?a; (case a => k_is)
      case z_tuple => refine' PySem.W.mg_none_of KX G ?a; (case a => k_is)
      case z_enumerate => refine' PySem.W.mg_none_of KX G ?a; (case a => k_is)
      case z_range => refine' PySem.W.mg_none_of KX G ?a; (case a => k_is)
      case z_min => refine' PySem.W.mg_none_of KX G ?a; (case a => k_is)
      case z_super => refine' PySem.W.mg_none_of KX G ?a; (case a => k_is)
      case n_C_kinds => unfold L2.NoAttr; k_is
      case n_C_pairs => unfold L2.NoAttr; k_is
      case n_C_own_crossing => unfold L2.NoAttr; k_is
      case n_R_plan => unfold L2.NoAttr; k_is
      case n_R_name => unfold L2.NoAttr; k_is
      case g_LETTERS => refine' Cw.glob_mk KX G ?a; (case a => k_is)
      case g_MOST_KINDS => refine' Cw.glob_mk KX G ?a; (case a => k_is)
      case g_MOST_LETTERS => refine' Cw.glob_mk KX G ?a; (case a => k_is)
      case g_FloorError => refine' Cw.glob_mk KX G ?a; (case a => k_is)
      case ke0 => first | k_is | k_exc | kernel_rfl
      case kRs => first | k_is | k_exc | kernel_rfl
      case kRa => first | k_is | k_exc | kernel_rfl
      case kWi => first | k_is | k_exc | kernel_rfl
      case kKv => first | k_is | k_exc | kernel_rfl
      case kLl => first | k_is | k_exc | kernel_rfl
      case kGc => first | k_is | k_exc | kernel_rfl
      case kGt => first | k_is | k_exc | kernel_rfl
      case kWG => first | k_is | k_exc | kernel_rfl
      case kKG => first | k_is | k_exc | kernel_rfl
      case kLG => first | k_is | k_exc | kernel_rfl
      case sIWIW => first | k_is | k_exc | kernel_rfl
      case sIKIW => first | k_is | k_exc | kernel_rfl
      case sIKIK => first | k_is | k_exc | kernel_rfl
      case sTLIW => first | k_is | k_exc | kernel_rfl
      case sTLIK => first | k_is | k_exc | kernel_rfl
      case sTLTL => first | k_is | k_exc | kernel_rfl
      case kC1 => first | k_is | k_exc | kernel_rfl
      case kR1 => first | k_is | k_exc | kernel_rfl
      case rN => refine' Cw.RightT.ty ?x1 ?x2 ?x3; (case x1 => k_is); (case x2 => k_is); (case x3 => k_is)
      case rI => refine' Cw.RightT.ty ?x1 ?x2 ?x3; (case x1 => k_is); (case x2 => k_is); (case x3 => k_is)
      case rB => refine' Cw.RightT.ty ?x1 ?x2 ?x3; (case x1 => k_is); (case x2 => k_is); (case x3 => k_is)
      case rL => refine' Cw.RightT.ty ?x1 ?x2 ?x3; (case x1 => k_is); (case x2 => k_is); (case x3 => k_is)
      case rT => refine' Cw.RightT.ty ?x1 ?x2 ?x3; (case x1 => k_is); (case x2 => k_is); (case x3 => k_is)
      case rD => refine' Cw.RightT.ty ?x1 ?x2 ?x3; (case x1 => k_is); (case x2 => k_is); (case x3 => k_is)
      case rC => refine' Cw.RightT.cls ?x1 ?x2 ?x3 ?x4 ?x5 ?x6; (case x1 => k_is); (case x2 => k_is); (case x3 => k_is); (case x4 => exact .inl rfl); (case x5 => k_is); (case x6 => kernel_rfl)
    case b => exact .of_eq rfl
    case e1 => kernel_rfl
    case e2 => kernel_rfl
